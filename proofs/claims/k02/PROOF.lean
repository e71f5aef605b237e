import PyProof.Rows.All
import Wide.All
import OpenK.AllK
import Wide.FinOn
import HandS.ForMost
import HandS.ForExc
import HandS.Flow
import HandS.Iter
import HandS.Zip
import HandS.Conv
import HandS.TupLe
import HandS.TupAny
import HandS.TupMul
import HandS.Deep
import HandS.Defaults
import HandS.IsInst
import HandS.TryMany
import HandS.Small
import KE.KeyNested
import KE.KDictKeyed
import KE.KDictWalk
import KE.SortData
import KE.LtData
import HandS.Style
import HandS.Wide
import HandS.Text
import KE.KItemsList
import HandS.Dict
import HandS.More
import KE.GoesComp
import KE.GoesEnum
import KE.DatumOrd
import HandS.TupLen
import KE.KExcInit
import HandS.ExcInit
import HandS.ExcOwn
import HandS.ExcValue
import KE.KExcIs
import HandS.HeadHook1
import HandS.HeadHook2
import HandS.DictComp
import HandS.SetBool
import HandS.Strs
import HandS.Set
import PyProof.SumWalk
import PyProof.SumAny
import PyProof.MeetsDict
import HandS.Words
import HandS.WordsExc
import HandS.Head0
import HandS.Head1
import HandS.Head2
import HandS.HeadEnd
import PySem.Challenge.RW_weighedpairs_k02_lots_and_ties
set_option Elab.async false
set_option autoImplicit false
set_option linter.all false
set_option maxRecDepth 100000
set_option maxHeartbeats 4000000
/-! MI, part A: plain data, plain heaps, how they lie in the abstract heap. -/
namespace MI
open PySem PySem.Spec L2

/-- plain data: immutable values told whole, mutable objects by number; the script itself -/
inductive D where
  | non
  | bl (b : Bool)
  | int (i : Int)
  | str (x : Str)
  | tup (xs : List D)
  | lst (xs : List D)
  | ref (n : Nat)
  | scr (ns : List Int)

mutual
def D.beq : D → D → Bool
  | .non, .non => true
  | .bl a, .bl b => a == b
  | .int a, .int b => decide (a = b)
  | .str a, .str b => decide (a = b)
  | .tup a, .tup b => D.beqs a b
  | .lst a, .lst b => D.beqs a b
  | .ref a, .ref b => decide (a = b)
  | .scr a, .scr b => decide (a = b)
  | _, _ => false
def D.beqs : List D → List D → Bool
  | [], [] => true
  | a :: s, b :: t => D.beq a b && D.beqs s t
  | _, _ => false
end
mutual
theorem D.beq_refl : ∀ a : D, D.beq a a = true
  | .non => rfl
  | .bl a => by simp [D.beq]
  | .int a => by simp [D.beq]
  | .str a => by simp [D.beq]
  | .tup a => by rw [D.beq]; exact D.beqs_refl a
  | .lst a => by rw [D.beq]; exact D.beqs_refl a
  | .ref a => by simp [D.beq]
  | .scr a => by simp [D.beq]
theorem D.beqs_refl : ∀ a : List D, D.beqs a a = true
  | [] => rfl
  | a :: s => by rw [D.beqs, D.beq_refl a, D.beqs_refl s]; rfl
end
mutual
theorem D.beq_eq : ∀ a b : D, D.beq a b = true → a = b
  | .non, b, h => by cases b <;> simp [D.beq] at h ⊢
  | .bl a, b, h => by cases b <;> simp [D.beq] at h ⊢; exact h
  | .int a, b, h => by cases b <;> simp [D.beq] at h ⊢; exact h
  | .str a, b, h => by cases b <;> simp [D.beq] at h ⊢; exact h
  | .tup a, b, h => by
    cases b <;> simp [D.beq] at h ⊢
    exact D.beqs_eq a _ h
  | .lst a, b, h => by
    cases b <;> simp [D.beq] at h ⊢
    exact D.beqs_eq a _ h
  | .ref a, b, h => by cases b <;> simp [D.beq] at h ⊢; exact h
  | .scr a, b, h => by cases b <;> simp [D.beq] at h ⊢; exact h
theorem D.beqs_eq : ∀ a b : List D, D.beqs a b = true → a = b
  | [], [], _ => rfl
  | [], _ :: _, h => by simp [D.beqs] at h
  | _ :: _, [], h => by simp [D.beqs] at h
  | a :: s, b :: t, h => by
    rw [D.beqs, Bool.and_eq_true] at h
    rw [D.beq_eq a b h.1, D.beqs_eq s t h.2]
end
instance : DecidableEq D := fun a b => if h : D.beq a b = true then isTrue (D.beq_eq a b h) else isFalse fun e => h (e ▸ D.beq_refl a)

/-- mutable objects -/
inductive O where
  | lst (xs : List D)
  | dict (kvs : List (D × D))
  | inst (c : Nat) (fs : List (Nat × D))
  | exc (c : Nat) (fs : List (Nat × D))
  deriving DecidableEq

abbrev MH := List O
abbrev Sl := List (Option D)
abbrev Tv := List (Option V)

/-- an exception: its class's number, its fields -/
abbrev EXC := Nat × List (Nat × D)

inductive Res (α : Type) where
  | ok (a : α) (h : MH)
  | exc (x : EXC) (h : MH)
  | bad
def Res.bind {α β : Type} : Res α → (α → MH → Res β) → Res β
  | .ok a h, f => f a h
  | .exc x h, _ => .exc x h
  | .bad, _ => .bad

/-! ### how data lie in the abstract heap -/
mutual
inductive Rep (K : PySem.W.Frag) (F : Hp) (ρ : List Addr) : D → V → Prop
  | non : Rep K F ρ .non .non
  | bl (b : Bool) : Rep K F ρ (.bl b) (.bl b)
  | int (i : Int) : Rep K F ρ (.int i) (.int i)
  | str (x : Str) : Rep K F ρ (.str x) (.str x)
  | tup {xs : List D} {a : Addr} {vs : List V} : SqT K F a vs → Reps K F ρ xs vs → Rep K F ρ (.tup xs) (.ref a)
  | lst {xs : List D} {a : Addr} {vs : List V} : F a = some (.lst vs) → Reps K F ρ xs vs → Rep K F ρ (.lst xs) (.ref a)
  | scr {ns : List Int} {a : Addr} : SqL K F a (ns.map V.int) → Rep K F ρ (.scr ns) (.ref a)
  | ref {n : Nat} {a : Addr} : ρ[n]? = some a → Rep K F ρ (.ref n) (.ref a)
inductive Reps (K : PySem.W.Frag) (F : Hp) (ρ : List Addr) : List D → List V → Prop
  | nil : Reps K F ρ [] []
  | cons {d : D} {v : V} {ds : List D} {vs : List V} : Rep K F ρ d v → Reps K F ρ ds vs → Reps K F ρ (d :: ds) (v :: vs)
end

/-- more of the heap: what stood stands -/
def Le (F F' : Hp) : Prop := ∀ a o, F a = some o → F' a = some o
theorem Le.refl (F : Hp) : Le F F := fun _ _ e => e
theorem Le.trans {F G H : Hp} (h1 : Le F G) (h2 : Le G H) : Le F H := fun a o e => h2 a o (h1 a o e)
theorem Le.upd {F : Hp} {p : Addr} {o : HO} (h : F p = none) : Le F (upd F p o) := fun a u e => by
  rw [upd_ne (ne_of_none e h)]; exact e
theorem Le.none {F H : Hp} (h : Le F H) {a : Addr} (e : H a = Option.none) : F a = Option.none := by
  cases q : F a with
  | none => rfl
  | some o => rw [h a o q] at e; cases e

/-- the known part of the heap grows, the numbering grows -/
structure Ext (F : Hp) (ρ : List Addr) (F' : Hp) (ρ' : List Addr) : Prop where
  le : Le F F'
  pre : ρ <+: ρ'
theorem Ext.refl (F : Hp) (ρ : List Addr) : Ext F ρ F ρ := ⟨Le.refl F, List.prefix_refl ρ⟩
theorem Ext.trans {F F' F'' : Hp} {ρ ρ' ρ'' : List Addr} (h1 : Ext F ρ F' ρ') (h2 : Ext F' ρ' F'' ρ'') : Ext F ρ F'' ρ'' := ⟨h1.le.trans h2.le, h1.pre.trans h2.pre⟩
theorem pre_get {ρ ρ' : List Addr} (h : ρ <+: ρ') {n : Nat} {a : Addr} (e : ρ[n]? = some a) : ρ'[n]? = some a := by
  obtain ⟨t, rfl⟩ := h
  have hl : n < ρ.length := (List.getElem?_eq_some_iff.mp e).1
  rw [List.getElem?_append_left hl]; exact e

theorem Rd.le {F F' : Hp} {a : Addr} {u : HO} (h : Le F F') (r : Rd F a u) : Rd F' a u := by
  rcases r with r | ⟨o, r⟩
  · exact .inl (h _ _ r)
  · exact .inr ⟨o, h _ _ r⟩
theorem sqT_le {K : PySem.W.Frag} {F F' : Hp} {a : Addr} {xs : List V} (h : Le F F') (r : SqT K F a xs) : SqT K F' a xs := by
  rcases r with r | r
  · exact .inl (Rd.le h r)
  · exact .inr r
theorem sqL_le {K : PySem.W.Frag} {F F' : Hp} {a : Addr} {xs : List V} (h : Le F F') (r : SqL K F a xs) : SqL K F' a xs := by
  rcases r with r | r
  · exact .inl (Rd.le h r)
  · exact .inr r

section
variable {K : PySem.W.Frag} {F F' : Hp} {ρ ρ' : List Addr}
mutual
theorem Rep.mono (x : Ext F ρ F' ρ') : ∀ {d : D} {v : V}, Rep K F ρ d v → Rep K F' ρ' d v
  | _, _, .non => .non
  | _, _, .bl b => .bl b
  | _, _, .int i => .int i
  | _, _, .str s => .str s
  | _, _, .tup h hs => .tup (sqT_le x.le h) (Reps.mono x hs)
  | _, _, .lst h hs => .lst (x.le _ _ h) (Reps.mono x hs)
  | _, _, .scr h => .scr (sqL_le x.le h)
  | _, _, .ref e => .ref (pre_get x.pre e)
theorem Reps.mono (x : Ext F ρ F' ρ') : ∀ {ds : List D} {vs : List V}, Reps K F ρ ds vs → Reps K F' ρ' ds vs
  | _, _, .nil => .nil
  | _, _, .cons h hs => .cons (Rep.mono x h) (Reps.mono x hs)
end
theorem Reps.length : ∀ {ds : List D} {vs : List V}, Reps K F ρ ds vs → ds.length = vs.length
  | _, _, .nil => rfl
  | _, _, .cons _ hs => by rw [List.length_cons, List.length_cons, Reps.length hs]
theorem Reps.append : ∀ {ds es : List D} {vs ws : List V}, Reps K F ρ ds vs → Reps K F ρ es ws → Reps K F ρ (ds ++ es) (vs ++ ws)
  | _, _, _, _, .nil, q => q
  | _, _, _, _, .cons h hs, q => .cons h (Reps.append hs q)
theorem Reps.get : ∀ {ds : List D} {vs : List V} {i : Nat} {d : D}, Reps K F ρ ds vs → ds[i]? = some d → ∃ v, vs[i]? = some v ∧ Rep K F ρ d v
  | _, _, _, _, .nil, e => by simp at e
  | _, _, 0, _, .cons h _, e => by
    simp at e; subst e; exact ⟨_, rfl, h⟩
  | _, _, i + 1, _, .cons _ hs, e => by
    obtain ⟨v, e1, r⟩ := Reps.get (i := i) hs (by simpa using e)
    exact ⟨v, by simpa using e1, r⟩
theorem Reps.getV : ∀ {ds : List D} {vs : List V} {i : Nat} {v : V}, Reps K F ρ ds vs → vs[i]? = some v → ∃ d, ds[i]? = some d ∧ Rep K F ρ d v
  | _, _, _, _, .nil, e => by simp at e
  | _, _, 0, _, .cons h _, e => by
    simp at e; subst e; exact ⟨_, rfl, h⟩
  | _, _, i + 1, _, .cons _ hs, e => by
    obtain ⟨v, e1, r⟩ := Reps.getV (i := i) hs (by simpa using e)
    exact ⟨v, by simpa using e1, r⟩
theorem Reps.take : ∀ {ds : List D} {vs : List V} (n : Nat), Reps K F ρ ds vs → Reps K F ρ (ds.take n) (vs.take n)
  | _, _, 0, _ => .nil
  | _, _, _ + 1, .nil => .nil
  | _, _, n + 1, .cons h hs => .cons h (Reps.take n hs)
theorem Reps.drop : ∀ {ds : List D} {vs : List V} (n : Nat), Reps K F ρ ds vs → Reps K F ρ (ds.drop n) (vs.drop n)
  | _, _, 0, h => h
  | _, _, _ + 1, .nil => .nil
  | _, _, n + 1, .cons _ hs => Reps.drop n hs
theorem Reps.set {d : D} {v : V} (r : Rep K F ρ d v) : ∀ {ds : List D} {vs : List V} (n : Nat), Reps K F ρ ds vs → Reps K F ρ (ds.set n d) (vs.set n v)
  | _, _, _, .nil => .nil
  | _, _, 0, .cons _ hs => .cons r hs
  | _, _, n + 1, .cons h hs => .cons h (Reps.set r n hs)
theorem Reps.ints : ∀ (ns : List Int), Reps K F ρ (ns.map D.int) (ns.map V.int)
  | [] => .nil
  | n :: ns => .cons (.int n) (Reps.ints ns)
theorem Reps.of_ints : ∀ {ns : List Int} {vs : List V}, Reps K F ρ (ns.map D.int) vs → vs = ns.map V.int
  | [], _, .nil => rfl
  | n :: ns, _, .cons h hs => by
    cases h
    rw [Reps.of_ints hs]; rfl
theorem Reps.of_bls : ∀ {ns : List Bool} {vs : List V}, Reps K F ρ (ns.map D.bl) vs → vs = ns.map V.bl
  | [], _, .nil => rfl
  | n :: ns, _, .cons h hs => by
    cases h
    rw [Reps.of_bls hs]; rfl
theorem Reps.of_strs : ∀ {ns : List Str} {vs : List V}, Reps K F ρ (ns.map D.str) vs → vs = ns.map V.str
  | [], _, .nil => rfl
  | n :: ns, _, .cons h hs => by
    cases h
    rw [Reps.of_strs hs]; rfl
theorem Reps.nil_iff {vs : List V} (h : Reps K F ρ [] vs) : vs = [] := by cases h; rfl
theorem Reps.inv_cons {d : D} {ds : List D} {vs : List V} (h : Reps K F ρ (d :: ds) vs) : ∃ v ws, vs = v :: ws ∧ Rep K F ρ d v ∧ Reps K F ρ ds ws := by
  cases h with
  | cons a b => exact ⟨_, _, rfl, a, b⟩
end

/-- what a known part may hold: what no one writes -/
def Fz : HO → Prop
  | .lst _ => True
  | .tup _ => True
  | .frz _ _ => True
  | _ => False

end MI

/-! MI, part B: the plain heap in the abstract heap; readings. -/
namespace MI
open PySem PySem.Spec L2

/-- numbers of classes and attributes -/
structure Nm where
  ca : Nat → Addr
  an : Nat → Str
/-- what the relation of the heaps hangs on -/
structure Tb where
  P : Program
  w : World
  K : PySem.W.Frag
  n : Nm
  pr : Addr → Option HO
abbrev Tb.at (T : Tb) (pr : Addr → Option HO) : Tb := ⟨T.P, T.w, T.K, T.n, pr⟩
abbrev tb (X : Cx) (n : Nm) : Tb := ⟨X.prog, X.w, X.K, n, fun _ => none⟩

/-! ### keys of dicts -/
mutual
def D.key : D → Option NestedKey
  | .non => some .none
  | .int i => some (.num i)
  | .str x => some (.text x)
  | .tup xs => (D.keys xs).map .tup
  | _ => none
def D.keys : List D → Option (List NestedKey)
  | [] => some []
  | d :: ds => match D.key d, D.keys ds with
    | some k, some ks => some (k :: ks)
    | _, _ => none
end
/-- a key of a dict, not too deep -/
def D.keyOk (d : D) : Bool := match d.key with
  | some k => decide (k.depth ≤ 8)
  | none => false
theorem D.keyOk_iff {d : D} : d.keyOk = true ↔ ∃ k, d.key = some k ∧ k.depth ≤ 8 := by
  unfold D.keyOk
  cases d.key with
  | none => simp
  | some k => simp
mutual
theorem D.key_inj : ∀ {a b : D} {k : NestedKey}, a.key = some k → b.key = some k → a = b
  | .non, b, k, h1, h2 => by
    simp [D.key] at h1; subst h1
    cases b <;> simp [D.key] at h2 ⊢
  | .int i, b, k, h1, h2 => by
    simp [D.key] at h1; subst h1
    cases b <;> simp [D.key] at h2 ⊢
    exact h2.symm
  | .str i, b, k, h1, h2 => by
    simp [D.key] at h1; subst h1
    cases b <;> simp [D.key] at h2 ⊢
    exact h2.symm
  | .tup xs, b, k, h1, h2 => by
    rw [D.key, Option.map_eq_some_iff] at h1
    obtain ⟨ks, e1, rfl⟩ := h1
    cases b with
    | tup ys =>
      rw [D.key, Option.map_eq_some_iff] at h2
      obtain ⟨ks', e2, e3⟩ := h2
      cases e3
      rw [D.keys_inj e1 e2]
    | _ => simp [D.key] at h2
  | .bl _, _, _, h1, _ => by simp [D.key] at h1
  | .lst _, _, _, h1, _ => by simp [D.key] at h1
  | .ref _, _, _, h1, _ => by simp [D.key] at h1
  | .scr _, _, _, h1, _ => by simp [D.key] at h1
theorem D.keys_inj : ∀ {a b : List D} {k : List NestedKey}, D.keys a = some k → D.keys b = some k → a = b
  | [], [], _, _, _ => rfl
  | [], d :: ds, k, h1, h2 => by
    rw [D.keys] at h1; cases h1
    rw [D.keys] at h2
    cases e1 : d.key <;> cases e2 : D.keys ds <;> rw [e1, e2] at h2 <;> simp at h2
  | d :: ds, b, k, h1, h2 => by
    rw [D.keys] at h1
    cases e1 : d.key with
    | none => rw [e1] at h1; simp at h1
    | some k1 =>
      cases e2 : D.keys ds with
      | none => rw [e1, e2] at h1; simp at h1
      | some ks =>
        rw [e1, e2] at h1
        simp at h1
        subst h1
        cases b with
        | nil => rw [D.keys] at h2; cases h2
        | cons c cs =>
          rw [D.keys] at h2
          cases e3 : c.key with
          | none => rw [e3] at h2; simp at h2
          | some k2 =>
            cases e4 : D.keys cs with
            | none => rw [e3, e4] at h2; simp at h2
            | some ks2 =>
              rw [e3, e4] at h2
              simp at h2
              obtain ⟨h5, h6⟩ := h2
              subst h5 h6
              rw [D.key_inj e1 e3, D.keys_inj e2 e4]
end

/-- a dict with keys of any depth: the key, its own value, what it holds -/
def DictO (w : World) (a : Addr) (xs : List (NestedKey × V × V)) : HO := .ext fun h => ∃ o es ep, h.get? a = some o ∧ o.ExactDict ∧ o.data = .dict es ep ∧ ep = xs.length ∧
  Paired (fun (x : NestedKey × V × V) (e : DictEntry) => e.hash = x.1.hash w ∧ RelV x.2.1 e.key ∧ RelV x.2.2 e.val) xs es.toList
theorem dictO_ok {P : Program} {w : World} {H : Hp} {h : Heap} {a : Addr} {xs : List (NestedKey × V × V)} {o : Obj} {es : Array DictEntry} {ep : Nat} (e : h.get? a = some o) (c : o.ExactDict) (d : o.data = .dict es ep) (z : ep = xs.length)
    (p : Paired (fun (x : NestedKey × V × V) (e : DictEntry) => e.hash = x.1.hash w ∧ RelV x.2.1 e.key ∧ RelV x.2.2 e.val) xs es.toList) : ObjOk P w H h a (DictO w a xs) :=
  ⟨⟨o, es, ep, e, c, d, z, p⟩, ⟨o, e⟩, fun _ _ ⟨o, es, ep, q, r⟩ k => ⟨o, es, ep, k o q, r⟩⟩

/-- the entries of a dict, side by side -/
inductive DRel (K : PySem.W.Frag) (F : Hp) (ρ : List Addr) : List (D × D) → List (NestedKey × V × V) → Prop
  | nil : DRel K F ρ [] []
  | cons {d e : D} {k : NestedKey} {v u : V} {ds : List (D × D)} {xs : List (NestedKey × V × V)} : d.key = some k → k.depth ≤ 8 → Rep K F ρ d v → Rep K F ρ e u → DRel K F ρ ds xs → DRel K F ρ ((d, e) :: ds) ((k, v, u) :: xs)
/-- the fields of an object, side by side -/
inductive FRel (K : PySem.W.Frag) (F : Hp) (ρ : List Addr) (an : Nat → Str) : List (Nat × D) → List (Str × V) → Prop
  | nil : FRel K F ρ an [] []
  | cons {i : Nat} {d : D} {v : V} {fs : List (Nat × D)} {gs : List (Str × V)} : Rep K F ρ d v → FRel K F ρ an fs gs → FRel K F ρ an ((i, d) :: fs) ((an i, v) :: gs)

/-- the own dict of an exception that is kept as a value -/
def ExcO (cls : Value) (dd : Option Addr) (a : Addr) : HO := .ext fun h => ∃ (oe : Obj) (vs : Array Value), h.get? a = some oe ∧ Zc cls dd oe ∧ oe.data = .fields vs
/-- the fields of an exception: none where it has no dict of its own -/
def XRel (K : PySem.W.Frag) (F : Hp) (ρ : List Addr) (an : Nat → Str) (H : Hp) (fs : List (Nat × D)) : Option Addr → Prop
  | none => fs = []
  | some d => ∃ gs, H d = some (.xd gs) ∧ FRel K F ρ an fs gs

/-- how a mutable object lies at a -/
def ORep (T : Tb) (F : Hp) (ρ : List Addr) (H : Hp) (a : Addr) : O → Prop
  | .lst xs => ∃ vs, H a = some (.lst vs) ∧ Reps T.K F ρ xs vs
  | .dict kvs => ∃ xs, H a = some (DictO T.w a xs) ∧ (a == sysModules) = false ∧ DRel T.K F ρ kvs xs ∧ (xs.map (·.1)).Nodup ∧ xs.length ≤ sizeLine
  | .inst c fs => ∃ dx gs, H a = some (.ins (T.n.ca c) dx gs) ∧ FRel T.K F ρ T.n.an fs gs
  | .exc c fs => ∃ dd, H a = some (ExcO (.ref (T.n.ca c)) dd a) ∧ XRel T.K F ρ T.n.an H fs dd

structure SR (T : Tb) (F : Hp) (ρ : List Addr) (H : Hp) (h : MH) : Prop where
  le : Le F H
  nd : ρ.Nodup
  len : h.length = ρ.length
  obj : ∀ (n : Nat) (o : O) (a : Addr), h[n]? = some o → ρ[n]? = some a → F a = none ∧ ORep T F ρ H a o
  prt : ∀ (a : Addr) (u : HO), T.pr a = some u → H a = some u ∧ F a = none ∧ ∀ n : Nat, ρ[n]? ≠ some a

/-- the slots, side by side -/
def SLR (K : PySem.W.Frag) (F : Hp) (ρ : List Addr) (σ : Sl) (τ : St) : Prop := σ.length = τ.length ∧ ∀ (i : Nat) (d : D), σ[i]? = some (some d) → ∃ v, τ[i]? = some (some v) ∧ Rep K F ρ d v

section
variable {K : PySem.W.Frag} {F F' : Hp} {ρ ρ' : List Addr}
theorem DRel.mono (x : Ext F ρ F' ρ') : ∀ {ds : List (D × D)} {xs : List (NestedKey × V × V)}, DRel K F ρ ds xs → DRel K F' ρ' ds xs
  | _, _, .nil => .nil
  | _, _, .cons a b c d e => .cons a b (c.mono x) (d.mono x) (DRel.mono x e)
theorem FRel.mono {an : Nat → Str} (x : Ext F ρ F' ρ') : ∀ {fs : List (Nat × D)} {gs : List (Str × V)}, FRel K F ρ an fs gs → FRel K F' ρ' an fs gs
  | _, _, .nil => .nil
  | _, _, .cons a b => .cons (a.mono x) (FRel.mono x b)
theorem SLR.mono (x : Ext F ρ F' ρ') {σ : Sl} {τ : St} (h : SLR K F ρ σ τ) : SLR K F' ρ' σ τ := ⟨h.1, fun i d e => by
  obtain ⟨v, e1, r⟩ := h.2 i d e
  exact ⟨v, e1, r.mono x⟩⟩
theorem SLR.set {σ : Sl} {τ : St} (h : SLR K F ρ σ τ) {d : D} {v : V} (r : Rep K F ρ d v) (i : Nat) : SLR K F ρ (σ.set i (some d)) (τ.set i (some v)) := ⟨by simp [h.1], fun j e q => by
  by_cases hj : i = j
  · subst hj
    by_cases hl : i < σ.length
    · rw [List.getElem?_set_self hl] at q
      cases q
      exact ⟨v, List.getElem?_set_self (by rw [← h.1]; exact hl), r⟩
    · rw [List.getElem?_eq_none (by simpa using hl)] at q; cases q
  · rw [List.getElem?_set_ne hj] at q
    obtain ⟨v', e1, r'⟩ := h.2 j e q
    exact ⟨v', by rw [List.getElem?_set_ne hj]; exact e1, r'⟩⟩
theorem SLR.del {σ : Sl} {τ : St} (h : SLR K F ρ σ τ) (i : Nat) : SLR K F ρ (σ.set i none) (τ.set i none) := ⟨by simp [h.1], fun j e q => by
  by_cases hj : i = j
  · subst hj
    by_cases hl : i < σ.length
    · rw [List.getElem?_set_self hl] at q; cases q
    · rw [List.getElem?_eq_none (by simpa using hl)] at q; cases q
  · rw [List.getElem?_set_ne hj] at q
    obtain ⟨v', e1, r'⟩ := h.2 j e q
    exact ⟨v', by rw [List.getElem?_set_ne hj]; exact e1, r'⟩⟩
/-- the slots of a comprehension's own names forgotten -/
def wipeM (σ : Sl) : List Nat → Sl
  | [] => σ
  | v :: vs => (wipeM σ vs).set v none
theorem SLR.wipe {σ : Sl} {τ : St} (h : SLR K F ρ σ τ) : ∀ vs : List Nat, SLR K F ρ (wipeM σ vs) (L2.wipe τ vs)
  | [] => h
  | v :: vs => (SLR.wipe h vs).del v
theorem SLR.start {ds : List D} {vs : List V} (r : Reps K F ρ ds vs) (N : List Str) (h : ds.length ≤ N.length) : SLR K F ρ (ds.map some ++ List.replicate (N.length - ds.length) none) (L2.start N vs) := by
  have hl := r.length
  refine ⟨by unfold L2.start; simp; omega, fun i d e => ?_⟩
  by_cases hi : i < ds.length
  · rw [List.getElem?_append_left (by simpa using hi), List.getElem?_map] at e
    cases q : ds[i]? with
    | none => rw [q] at e; cases e
    | some d' =>
      rw [q] at e; cases e
      obtain ⟨v, e1, r1⟩ := r.get q
      refine ⟨v, ?_, r1⟩
      unfold L2.start
      rw [List.getElem?_append_left (by simp; omega), List.getElem?_map, e1]; rfl
  · rw [List.getElem?_append_right (by simpa using hi)] at e
    rw [List.getElem?_replicate] at e
    split at e <;> cases e
end

section
variable {T : Tb} {F F' : Hp} {ρ ρ' : List Addr} {H H' : Hp} {h : MH}
theorem XRel.keep {K : PySem.W.Frag} {an : Nat → Str} {fs : List (Nat × D)} {dd : Option Addr} (x : Ext F ρ F' ρ') (k : ∀ b gs, H b = some (.xd gs) → H' b = some (.xd gs)) (r : XRel K F ρ an H fs dd) : XRel K F' ρ' an H' fs dd := by
  cases dd with
  | none => exact r
  | some d =>
    obtain ⟨gs, e, q⟩ := r
    exact ⟨gs, k d gs e, q.mono x⟩
theorem ORep.keep {a : Addr} {o : O} (x : Ext F ρ F' ρ') (k : H' a = H a) (kx : ∀ b gs, H b = some (.xd gs) → H' b = some (.xd gs)) (r : ORep T F ρ H a o) : ORep T F' ρ' H' a o := by
  cases o with
  | lst xs =>
    obtain ⟨vs, e, q⟩ := r
    exact ⟨vs, k.trans e, q.mono x⟩
  | dict kvs =>
    obtain ⟨xs, e, z, q, c⟩ := r
    exact ⟨xs, k.trans e, z, q.mono x, c⟩
  | inst c fs =>
    obtain ⟨dx, gs, e, q⟩ := r
    exact ⟨dx, gs, k.trans e, q.mono x⟩
  | exc c fs =>
    obtain ⟨dd, e, q⟩ := r
    exact ⟨dd, k.trans e, q.keep x kx⟩
theorem ORep.some {a : Addr} {o : O} (r : ORep T F ρ H a o) : ∃ u, H a = some u := by
  cases o with
  | lst xs => obtain ⟨vs, e, _⟩ := r; exact ⟨_, e⟩
  | dict kvs => obtain ⟨xs, e, _⟩ := r; exact ⟨_, e⟩
  | inst c fs => obtain ⟨dx, gs, e, _⟩ := r; exact ⟨_, e⟩
  | exc c fs => obtain ⟨dd, e, _⟩ := r; exact ⟨_, e⟩
theorem SR.at (s : SR T F ρ H h) {n : Nat} {o : O} (e : h[n]? = some o) : ∃ a, ρ[n]? = some a ∧ F a = none ∧ ORep T F ρ H a o := by
  have hl : n < h.length := (List.getElem?_eq_some_iff.mp e).1
  have hl' : n < ρ.length := by rw [← s.len]; exact hl
  obtain ⟨h1, h2⟩ := s.obj n o ρ[n] e (List.getElem?_eq_getElem hl')
  exact ⟨ρ[n], List.getElem?_eq_getElem hl', h1, h2⟩
/-- an address of a mutable object is tracked -/
theorem SR.track (s : SR T F ρ H h) {n : Nat} {a : Addr} (e : ρ[n]? = some a) : ∃ o u, h[n]? = some o ∧ H a = some u ∧ F a = none ∧ ORep T F ρ H a o := by
  have hl : n < ρ.length := (List.getElem?_eq_some_iff.mp e).1
  have hl' : n < h.length := by rw [s.len]; exact hl
  obtain ⟨h1, h2⟩ := s.obj n h[n] a (List.getElem?_eq_getElem hl') e
  obtain ⟨u, hu⟩ := h2.some
  exact ⟨_, u, List.getElem?_eq_getElem hl', hu, h1, h2⟩
theorem SR.notin (s : SR T F ρ H h) {p : Addr} (hp : H p = none) : ∀ (n : Nat) (a : Addr), ρ[n]? = some a → a ≠ p := fun n a e z => by
  obtain ⟨o, u, _, hu, _⟩ := s.track e
  rw [z, hp] at hu; cases hu
theorem nd_get {ρ : List Addr} (nd : ρ.Nodup) {i j : Nat} {a : Addr} (h1 : ρ[i]? = some a) (h2 : ρ[j]? = some a) : i = j :=
  (List.getElem?_inj (List.getElem?_eq_some_iff.mp h1).1 nd).mp (h1.trans h2.symm)
/-- a new object that no one will write -/
theorem SR.frozen (s : SR T F ρ H h) {p : Addr} {o : HO} (hp : H p = none) : SR T (upd F p o) ρ (upd H p o) h ∧ Ext F ρ (upd F p o) ρ := by
  have hF : F p = none := s.le.none hp
  have ex : Ext F ρ (upd F p o) ρ := ⟨Le.upd hF, List.prefix_refl _⟩
  refine ⟨⟨fun a u e => ?_, s.nd, s.len, fun n o' a e1 e2 => ?_, fun a u e => ?_⟩, ex⟩
  · by_cases ha : a = p
    · subst ha; rw [upd_same] at e ⊢; exact e
    · rw [upd_ne ha] at e ⊢; exact s.le a u e
  · obtain ⟨h1, h2⟩ := s.obj n o' a e1 e2
    have ne := s.notin hp n a e2
    refine ⟨by rw [upd_ne ne]; exact h1, h2.keep ex (upd_ne ne) fun b gs q => ?_⟩
    rw [upd_ne (ne_of_none q hp)]; exact q
  · obtain ⟨h1, h2, h3⟩ := s.prt a u e
    have ne : a ≠ p := ne_of_none h1 hp
    exact ⟨by rw [upd_ne ne]; exact h1, by rw [upd_ne ne]; exact h2, h3⟩
/-- the abstract heap grows by what we don't number -/
theorem SR.grow (s : SR T F ρ H h) (k : ∀ a u, H a = some u → H' a = some u) : SR T F ρ H' h := by
  refine ⟨fun a u e => k a u (s.le a u e), s.nd, s.len, fun n o a e1 e2 => ?_, fun a u e => let ⟨h1, h2⟩ := s.prt a u e; ⟨k a u h1, h2⟩⟩
  obtain ⟨h1, h2⟩ := s.obj n o a e1 e2
  obtain ⟨u, hu⟩ := h2.some
  exact ⟨h1, h2.keep (Ext.refl _ _) (by rw [hu]; exact k a u hu) fun b gs q => k b _ q⟩
/-- what stands and is neither known nor numbered is changed -/
theorem SR.other (s : SR T F ρ H h) {p : Addr} {o : HO} (hF : F p = none) (hn : ∀ (n : Nat) (a : Addr), ρ[n]? = some a → a ≠ p) (hx : ∀ gs, H p ≠ some (.xd gs)) (hp : T.pr p = none) : SR T F ρ (upd H p o) h := by
  refine ⟨fun a u e => ?_, s.nd, s.len, fun n o' a e1 e2 => ?_, fun a u e => ?_⟩
  · rw [upd_ne (ne_of_none e hF)]; exact s.le a u e
  · obtain ⟨h1, h2⟩ := s.obj n o' a e1 e2
    exact ⟨h1, h2.keep (Ext.refl _ _) (upd_ne (hn n a e2)) fun b gs q => by
      rw [upd_ne fun z => by subst z; exact hx gs q]; exact q⟩
  · obtain ⟨h1, h2⟩ := s.prt a u e
    exact ⟨by rw [upd_ne fun z => by subst z; rw [hp] at e; cases e]; exact h1, h2⟩
/-- other watches -/
theorem SR.watch {pr : Addr → Option HO} (s : SR T F ρ H h) (w : ∀ a u, pr a = some u → H a = some u ∧ F a = none ∧ ∀ n : Nat, ρ[n]? ≠ some a) : SR (T.at pr) F ρ H h := ⟨s.le, s.nd, s.len, s.obj, w⟩
/-- no one will write it any more -/
theorem SR.freeze (s : SR T F ρ H h) {p : Addr} {o : HO} (hF : F p = none) (hn : ∀ n : Nat, ρ[n]? ≠ some p) (hH : H p = some o) (hp : T.pr p = none) : SR T (upd F p o) ρ H h ∧ Ext F ρ (upd F p o) ρ := by
  have ex : Ext F ρ (upd F p o) ρ := ⟨Le.upd hF, List.prefix_refl _⟩
  refine ⟨⟨fun a u e => ?_, s.nd, s.len, fun n o' a e1 e2 => ?_, fun a u e => ?_⟩, ex⟩
  · by_cases ha : a = p
    · subst ha; rw [upd_same] at e; rw [hH]; exact e
    · rw [upd_ne ha] at e; exact s.le a u e
  · obtain ⟨h1, h2⟩ := s.obj n o' a e1 e2
    exact ⟨by rw [upd_ne (fun z : a = p => hn n (by rw [← z]; exact e2))]; exact h1, h2.keep ex rfl fun _ _ q => q⟩
  · obtain ⟨h1, h2, h3⟩ := s.prt a u e
    exact ⟨h1, by rw [upd_ne fun z => by subst z; rw [hp] at e; cases e]; exact h2, h3⟩
/-- it is numbered -/
theorem SR.adopt (s : SR T F ρ H h) {p : Addr} {o : O} (hF : F p = none) (hn : ∀ n : Nat, ρ[n]? ≠ some p) (hp : T.pr p = none) (r : ∀ F' ρ', Ext F ρ F' ρ' → ORep T F' ρ' H p o) : SR T F (ρ ++ [p]) H (h ++ [o]) ∧ Ext F ρ F (ρ ++ [p]) ∧ (ρ ++ [p])[h.length]? = some p := by
  have ex : Ext F ρ F (ρ ++ [p]) := ⟨Le.refl F, List.prefix_append _ _⟩
  have hl : (ρ ++ [p])[h.length]? = some p := by rw [s.len]; simp
  refine ⟨⟨s.le, ?_, by simp [s.len], fun n o' a e1 e2 => ?_, fun a u e => ?_⟩, ex, hl⟩
  · refine List.nodup_append.mpr ⟨s.nd, by simp, fun x hx y hy => ?_⟩
    rw [List.mem_singleton.mp hy]
    obtain ⟨i, hi⟩ := List.mem_iff_getElem?.mp hx
    exact fun z => hn i (z ▸ hi)
  · by_cases hn : n < h.length
    · rw [List.getElem?_append_left hn] at e1
      rw [List.getElem?_append_left (by rw [← s.len]; exact hn)] at e2
      obtain ⟨h1, h2⟩ := s.obj n o' a e1 e2
      exact ⟨h1, h2.keep ex rfl fun _ _ q => q⟩
    · have hn' : n = h.length := by
        have := (List.getElem?_eq_some_iff.mp e1).1
        simp at this; omega
      subst hn'
      rw [hl] at e2; cases e2
      rw [List.getElem?_append_right (Nat.le_refl _)] at e1
      simp at e1; subst e1
      exact ⟨hF, r _ _ ex⟩
  · obtain ⟨h1, h2, h3⟩ := s.prt a u e
    refine ⟨h1, h2, fun n q => ?_⟩
    by_cases hn : n < ρ.length
    · rw [List.getElem?_append_left hn] at q; exact h3 n q
    · rw [List.getElem?_append_right (by omega)] at q
      have : p = a := by
        cases hk : n - ρ.length with
        | zero => rw [hk] at q; simpa using q
        | succ k => rw [hk] at q; simp at q
      subst this; rw [hp] at e; cases e
/-- a new mutable object -/
theorem SR.push (s : SR T F ρ H h) {p : Addr} {u : HO} {o : O} (hp : H p = none) (r : ∀ F' ρ', Ext F ρ F' ρ' → ORep T F' ρ' (upd H p u) p o) : SR T F (ρ ++ [p]) (upd H p u) (h ++ [o]) ∧ Ext F ρ F (ρ ++ [p]) ∧ (ρ ++ [p])[h.length]? = some p := by
  have ex : Ext F ρ F (ρ ++ [p]) := ⟨Le.refl F, List.prefix_append _ _⟩
  have hl : (ρ ++ [p])[h.length]? = some p := by rw [s.len]; simp
  refine ⟨⟨(s.grow (H' := upd H p u) fun a v e => by rw [upd_ne (ne_of_none e hp)]; exact e).le, ?_, by simp [s.len], fun n o' a e1 e2 => ?_, fun a u e => ?_⟩, ex, hl⟩
  · refine List.nodup_append.mpr ⟨s.nd, by simp, fun x hx y hy => ?_⟩
    rw [List.mem_singleton.mp hy]
    obtain ⟨i, hi⟩ := List.mem_iff_getElem?.mp hx
    exact s.notin hp i x hi
  · by_cases hn : n < h.length
    · rw [List.getElem?_append_left hn] at e1
      rw [List.getElem?_append_left (by rw [← s.len]; exact hn)] at e2
      obtain ⟨h1, h2⟩ := s.obj n o' a e1 e2
      exact ⟨h1, h2.keep ex (upd_ne (s.notin hp n a e2)) fun b gs q => by rw [upd_ne (ne_of_none q hp)]; exact q⟩
    · have hn' : n = h.length := by
        have := (List.getElem?_eq_some_iff.mp e1).1
        simp at this; omega
      subst hn'
      rw [hl] at e2; cases e2
      rw [List.getElem?_append_right (Nat.le_refl _)] at e1
      simp at e1; subst e1
      exact ⟨s.le.none hp, r _ _ ex⟩
  · obtain ⟨h1, h2, h3⟩ := s.prt a u e
    have ne : a ≠ p := ne_of_none h1 hp
    refine ⟨by rw [upd_ne ne]; exact h1, h2, fun n q => ?_⟩
    by_cases hn : n < ρ.length
    · rw [List.getElem?_append_left hn] at q; exact h3 n q
    · rw [List.getElem?_append_right (by omega)] at q
      cases hk : n - ρ.length with
      | zero => rw [hk] at q; simp at q; exact ne q.symm
      | succ k => rw [hk] at q; simp at q
/-- a mutable object is changed -/
theorem SR.put (s : SR T F ρ H h) {n : Nat} {a : Addr} {u : HO} {o : O} (e : ρ[n]? = some a) (hx : ∀ gs, H a ≠ some (.xd gs)) (r : ORep T F ρ (upd H a u) a o) : SR T F ρ (upd H a u) (h.set n o) := by
  obtain ⟨o0, u0, e0, hu, hF, _⟩ := s.track e
  refine ⟨fun b v q => ?_, s.nd, by simp [s.len], fun m o' b e1 e2 => ?_, fun b v q => ?_⟩
  · rw [upd_ne (ne_of_none q hF)]; exact s.le b v q
  · by_cases hm : n = m
    · subst hm
      rw [e] at e2; cases e2
      have hl : n < h.length := (List.getElem?_eq_some_iff.mp e0).1
      rw [List.getElem?_set_self hl] at e1; cases e1
      exact ⟨hF, r⟩
    · rw [List.getElem?_set_ne hm] at e1
      obtain ⟨h1, h2⟩ := s.obj m o' b e1 e2
      have ne : b ≠ a := fun z => hm (nd_get s.nd e (z ▸ e2))
      exact ⟨h1, h2.keep (Ext.refl _ _) (upd_ne ne) fun c gs q => by
        rw [upd_ne fun z => by subst z; exact hx gs q]; exact q⟩
  · obtain ⟨h1, h2, h3⟩ := s.prt b v q
    exact ⟨by rw [upd_ne fun z => by subst z; exact h3 n e]; exact h1, h2, h3⟩
end

/-! ### what is wanted behind -/
/-- an exception of ours, as it flies -/
structure XIs (T : Tb) (x : EXC) (F : Hp) (ρ : List Addr) (H : Hp) (cls : Value) (dd : Option Addr) : Prop where
  cls : cls = .ref (T.n.ca x.1)
  own : XRel T.K F ρ T.n.an H x.2 dd
  num : ∀ (d : Addr) (n : Nat), dd = some d → ρ[n]? ≠ some d
  kno : ∀ d, dd = some d → F d = none

def Post (T : Tb) (F : Hp) (ρ : List Addr) (r : Res D) (Q : VK) (E : XK) : Prop :=
  match r with
  | .ok d h' => ∀ F' ρ' H' v, Ext F ρ F' ρ' → SR T F' ρ' H' h' → Rep T.K F' ρ' d v → Q v H'
  | .exc x h' => ∀ F' ρ' H' cls dd, Ext F ρ F' ρ' → SR T F' ρ' H' h' → XIs T x F' ρ' H' cls dd → E cls dd H'
  | .bad => False
def PostL (T : Tb) (F : Hp) (ρ : List Addr) (r : Res (List D)) (Q : List V → Hp → Prop) (E : XK) : Prop :=
  match r with
  | .ok d h' => ∀ F' ρ' H' v, Ext F ρ F' ρ' → SR T F' ρ' H' h' → Reps T.K F' ρ' d v → Q v H'
  | .exc x h' => ∀ F' ρ' H' cls dd, Ext F ρ F' ρ' → SR T F' ρ' H' h' → XIs T x F' ρ' H' cls dd → E cls dd H'
  | .bad => False
def PostB (T : Tb) (F : Hp) (ρ : List Addr) (r : Res Bool) (Q : Bool → Hp → Prop) (E : XK) : Prop :=
  match r with
  | .ok b h' => ∀ F' ρ' H', Ext F ρ F' ρ' → SR T F' ρ' H' h' → Q b H'
  | .exc x h' => ∀ F' ρ' H' cls dd, Ext F ρ F' ρ' → SR T F' ρ' H' h' → XIs T x F' ρ' H' cls dd → E cls dd H'
  | .bad => False

theorem Post.mono {T : Tb} {F F' : Hp} {ρ ρ' : List Addr} {r : Res D} {Q Q' : VK} {E : XK} (x : Ext F ρ F' ρ') (h : Post T F ρ r Q E) (hq : ∀ v H, Q v H → Q' v H) : Post T F' ρ' r Q' E := by
  cases r with
  | ok d h' => exact fun F'' ρ'' H' v y s r => hq _ _ (h F'' ρ'' H' v (x.trans y) s r)
  | exc e h' => exact fun F'' ρ'' H' c d y s r => h F'' ρ'' H' c d (x.trans y) s r
  | bad => exact h
theorem PostL.mono {T : Tb} {F F' : Hp} {ρ ρ' : List Addr} {r : Res (List D)} {Q Q' : List V → Hp → Prop} {E : XK} (x : Ext F ρ F' ρ') (h : PostL T F ρ r Q E) (hq : ∀ v H, Q v H → Q' v H) : PostL T F' ρ' r Q' E := by
  cases r with
  | ok d h' => exact fun F'' ρ'' H' v y s r => hq _ _ (h F'' ρ'' H' v (x.trans y) s r)
  | exc e h' => exact fun F'' ρ'' H' c d y s r => h F'' ρ'' H' c d (x.trans y) s r
  | bad => exact h
theorem PostB.mono {T : Tb} {F F' : Hp} {ρ ρ' : List Addr} {r : Res Bool} {Q Q' : Bool → Hp → Prop} {E : XK} (x : Ext F ρ F' ρ') (h : PostB T F ρ r Q E) (hq : ∀ v H, Q v H → Q' v H) : PostB T F' ρ' r Q' E := by
  cases r with
  | ok d h' => exact fun F'' ρ'' H' y s => hq _ _ (h F'' ρ'' H' (x.trans y) s)
  | exc e h' => exact fun F'' ρ'' H' c d y s r => h F'' ρ'' H' c d (x.trans y) s r
  | bad => exact h

abbrev Ev := Sl → MH → Res D
abbrev EvL := Sl → MH → Res (List D)
abbrev EvB := Sl → MH → Res Bool

/-- the readings -/
def tM (T : Tb) (W : WX) (f : Ev) : TE := fun τ H Q => ∃ pr F ρ h σ, SR (T.at pr) F ρ H h ∧ SLR T.K F ρ σ τ ∧ Post (T.at pr) F ρ (f σ h) Q (fun c d H' => W c d τ H')
def tML (T : Tb) (W : WX) (f : EvL) : TA := fun τ H Q => ∃ pr F ρ h σ, SR (T.at pr) F ρ H h ∧ SLR T.K F ρ σ τ ∧ PostL (T.at pr) F ρ (f σ h) Q (fun c d H' => W c d τ H')
def tMB (T : Tb) (W : WX) (f : EvB) : TT := fun τ H Q => ∃ pr F ρ h σ, SR (T.at pr) F ρ H h ∧ SLR T.K F ρ σ τ ∧ PostB (T.at pr) F ρ (f σ h) Q (fun c d H' => W c d τ H')

abbrev SE (X : Cx) (n : Nm) (W : WX) (e : Expr) (f : Ev) : Prop := PE X e (tM (tb X n) W f)
abbrev SA (X : Cx) (n : Nm) (W : WX) (es : List Expr) (f : EvL) : Prop := PA X es (tML (tb X n) W f)
abbrev ST (X : Cx) (n : Nm) (W : WX) (e : Expr) (f : EvB) : Prop := PT X e (tMB (tb X n) W f)

theorem PE_imp {X : Cx} {e : Expr} {t t' : TE} (h : PE X e t) (i : ∀ σ H Q, t' σ H Q → t σ H Q) : PE X e t' := ⟨fun pins s σ H Q I q => h.run pins s σ H Q I (i σ H Q q)⟩
theorem PT_imp {X : Cx} {e : Expr} {t t' : TT} (h : PT X e t) (i : ∀ σ H Q, t' σ H Q → t σ H Q) : PT X e t' := ⟨fun pins s σ H Q I q => h.run pins s σ H Q I (i σ H Q q)⟩
theorem PW_imp {X : Cx} {e : Expr} {t t' : TT} (h : PW X e t) (i : ∀ σ H Q, t' σ H Q → t σ H Q) : PW X e t' := ⟨fun wh pins s σ H Q I q => h.run wh pins s σ H Q I (i σ H Q q)⟩
theorem PA_imp {X : Cx} {es : List Expr} {t t' : TA} (h : PA X es t) (i : ∀ σ H Q, t' σ H Q → t σ H Q) : PA X es t' := ⟨fun pos pins s σ H Q I q => h.run pos pins s σ H Q I (i σ H Q q)⟩
theorem PS_imp {X : Cx} {st : Stmt} {t t' : TS} (h : PS X st t) (i : ∀ D σ H, t' D σ H → t D σ H) : PS X st t' := ⟨fun pins s σ H D I q => h.run pins s σ H D I (i D σ H q)⟩
theorem PSs_imp {X : Cx} {st : List Stmt} {t t' : TS} (h : PSs X st t) (i : ∀ D σ H, t' D σ H → t D σ H) : PSs X st t' := ⟨fun pins s σ H D I q => h.run pins s σ H D I (i D σ H q)⟩

/-- one after another -/
theorem tM_bind {T : Tb} {W : WX} {F : Hp} {ρ : List Addr} {H : Hp} {h : MH} {σ : Sl} {τ : St} {f : Ev} {g : D → MH → Res D} {Q : VK} (s : SR T F ρ H h) (l : SLR T.K F ρ σ τ)
    (p : Post T F ρ ((f σ h).bind g) Q fun c d H' => W c d τ H') {R : VK}
    (k : ∀ F' ρ' H' d h' v, Ext F ρ F' ρ' → SR T F' ρ' H' h' → SLR T.K F' ρ' σ τ → Rep T.K F' ρ' d v → Post T F' ρ' (g d h') Q (fun c d H' => W c d τ H') → R v H') : tM T W f τ H R := by
  refine ⟨_, F, ρ, h, σ, s, l, ?_⟩
  cases e : f σ h with
  | ok d h' =>
    rw [e] at p
    exact fun F' ρ' H' v x s' r => k F' ρ' H' d h' v x s' (l.mono x) r (Post.mono x p fun _ _ q => q)
  | exc x h' =>
    rw [e] at p
    exact p
  | bad =>
    rw [e] at p
    exact p

end MI

/-! MI, part D: names, constants, operations. -/
namespace MI
open PySem PySem.Spec L2

/-! ### names, constants -/
def eVar (i : Nat) : Ev := fun σ h => match σ[i]? with
  | some (some d) => .ok d h
  | _ => .bad
def eC (d : D) : Ev := fun _ h => .ok d h
section
variable {X : Cx} {n : Nm} {W : WX}
theorem se_var {i : Nat} {x : Str} {pos : Pos} (hN : X.N[i]? = some x) (hv : Vis X.env.scope x) (hd : (x == ("__debug__" : Str)) = false) (hcd : (x == ("__classdict__" : Str)) = false) : SE X n W (.Name x pos) (eVar i) := by
  refine PE_imp (pe_var hN hv hd hcd) fun τ H Q h => ?_
  obtain ⟨_, F, ρ, h, σ, s, l, p⟩ := h
  unfold eVar at p
  cases e : σ[i]? with
  | none => rw [e] at p; exact p.elim
  | some o =>
    cases o with
    | none => rw [e] at p; exact p.elim
    | some d =>
      rw [e] at p
      obtain ⟨v, e1, r⟩ := l.2 i d e
      exact ⟨v, e1, p F ρ H v (Ext.refl _ _) s r⟩
theorem se_const {e : Expr} {d : D} {v : V} (h : PE X e (tC v)) (r : ∀ K F ρ, Rep K F ρ d v) : SE X n W e (eC d) := by
  refine PE_imp h fun τ H Q h => ?_
  obtain ⟨_, F, ρ, h, σ, s, l, p⟩ := h
  exact p F ρ H v (Ext.refl _ _) s (r _ _ _)
theorem se_int {i : Int} {j : Nat} {pos : Pos} : SE X n W (.Constant (.int i) j pos) (eC (.int i)) := se_const pe_int fun _ _ _ => .int i
theorem se_bl {b : Bool} {j : Nat} {pos : Pos} : SE X n W (.Constant (.bool b) j pos) (eC (.bl b)) := se_const pe_bl fun _ _ _ => .bl b
theorem se_non {j : Nat} {pos : Pos} : SE X n W (.Constant .none j pos) (eC .non) := se_const pe_non fun _ _ _ => .non
theorem se_str {x : Str} {j : Nat} {pos : Pos} : SE X n W (.Constant (.str x) j pos) (eC (.str x)) := se_const pe_str fun _ _ _ => .str x
/-- a module's constant -/
theorem se_glob {x : Str} {v : V} {u : Value} {d : D} {pos : Pos} (hg : Gl X x) (hm : X.mg x = some u) (r : RelV v u) (r2 : ∀ K F ρ, Rep K F ρ d v) (hd : (x == ("__debug__" : Str)) = false) : SE X n W (.Name x pos) (eC d) := se_const (pe_glob hg hm r hd) r2

/-! ### operations on values -/
abbrev Op2 := MH → D → D → Option D
def okE (h : MH) : Option D → Res D
  | some d => .ok d h
  | none => .bad
def eBin (o : Op2) (a b : Ev) : Ev := fun σ h => (a σ h).bind fun x h1 => (b σ h1).bind fun y h2 => okE h2 (o h2 x y)
def rO (T : Tb) (o : Op2) : R2 := fun vx vy H Q => ∃ pr F ρ h x y d, SR (T.at pr) F ρ H h ∧ Rep T.K F ρ x vx ∧ Rep T.K F ρ y vy ∧ o h x y = some d ∧ ∀ F' ρ' H' v, Ext F ρ F' ρ' → SR (T.at pr) F' ρ' H' h → Rep T.K F' ρ' d v → Q v H'

theorem okE_post {T : Tb} {F : Hp} {ρ : List Addr} {h : MH} {o : Option D} {Q : VK} {E : XK} (p : Post T F ρ (okE h o) Q E) : ∃ d, o = some d ∧ ∀ F' ρ' H' v, Ext F ρ F' ρ' → SR T F' ρ' H' h → Rep T.K F' ρ' d v → Q v H' := by
  cases o with
  | none => exact p.elim
  | some d => exact ⟨d, rfl, p⟩
/-- two expressions and an operation -/
theorem tM_op2 {T : Tb} {f g : Ev} {o : Op2} {τ : Tv} {H : Hp} {Q : VK} (q : tM T W (eBin o f g) τ H Q) : tOp (rO T o) (tM T W f) (tM T W g) τ H Q := by
  obtain ⟨_, F, ρ, h, σ, s, l, p⟩ := q
  refine tM_bind s l p fun F1 ρ1 H1 x h1 vx x1 s1 l1 r1 p1 => ?_
  refine tM_bind s1 l1 p1 fun F2 ρ2 H2 y h2 vy x2 s2 l2 r2 p2 => ?_
  obtain ⟨d, e, k⟩ := okE_post p2
  exact ⟨_, F2, ρ2, h2, x, y, d, s2, r1.mono x2, r2, e, k⟩
theorem se_bin {op : Operator} {o : Op2} {a b : Expr} {f g : Ev} {pos : Pos} (ho : OpR X (binaryOp op) (rO (tb X n) o)) (ha : SE X n W a f) (hb : SE X n W b g) : SE X n W (.BinOp a op b pos) (eBin o f g) :=
  PE_imp (pe_op ho ha hb) fun _ _ _ q => tM_op2 q
theorem se_cmp {op : CmpOp} {o : Op2} {a b : Expr} {f g : Ev} {pos : Pos} (ho : OpR X (compareOp op) (rO (tb X n) o)) (ha : SE X n W a f) (hb : SE X n W b g) (hm : behindInMarks op b = false) : SE X n W (.Compare a [op] [b] pos) (eBin o f g) :=
  PE_imp (pe_cmpR ho ha hb hm) fun _ _ _ q => tM_op2 q

/-- a value's truth, where it is a bool -/
def eT (f : Ev) : EvB := fun σ h => (f σ h).bind fun x h1 => match x with
  | .bl b => .ok b h1
  | _ => .bad
theorem tMB_of {T : Tb} {f : Ev} {τ : Tv} {H : Hp} {Q : Bool → Hp → Prop} (q : tMB T W (eT f) τ H Q) : tM T W f τ H fun x H1 => ∃ k, x = .bl k ∧ Q k H1 := by
  obtain ⟨_, F, ρ, h, σ, s, l, p⟩ := q
  refine ⟨_, F, ρ, h, σ, s, l, ?_⟩
  unfold eT at p
  cases e : f σ h with
  | ok d h' =>
    rw [e] at p
    intro F' ρ' H' v x s' r
    cases r with
    | bl b => exact ⟨b, rfl, p F' ρ' H' x s'⟩
    | _ => exact p.elim
  | exc x h' =>
    rw [e] at p
    exact p
  | bad =>
    rw [e] at p
    exact p
theorem st_cmp {op : CmpOp} {o : Op2} {a b : Expr} {f g : Ev} {pos : Pos} (ho : OpR X (compareOp op) (rO (tb X n) o)) (ha : SE X n W a f) (hb : SE X n W b g) (hm : behindInMarks op b = false) : ST X n W (.Compare a [op] [b] pos) (eT (eBin o f g)) := by
  refine PT_imp (pt_cmpR ho ha hb hm) fun τ H Q q => ?_
  have q2 := tMB_of q
  exact tM_op2 q2
/-- an expression whose test is its value's truth -/
theorem st_val {e : Expr} {f : Ev} (h : SE X n W e f) (he : ∀ whole, isTrue e X.env whole = (do let v ← whole; standAt e.pos; holding [v] (truthy v))) : ST X n W e (eT f) :=
  PT_imp (pt_val h he) fun _ _ _ q => tMB_of q

/-! ### a op b op' c -/
def eChain (o o' : Op2) (a b c : Ev) : Ev := fun σ h => (a σ h).bind fun x h1 => (b σ h1).bind fun y h2 => match o h2 x y with
  | some (.bl true) => (c σ h2).bind fun z h3 => okE h3 (o' h3 y z)
  | some (.bl false) => .ok (.bl false) h2
  | _ => .bad
theorem tM_chain {T : Tb} {f g k : Ev} {o o' : Op2} {τ : Tv} {H : Hp} {Q : VK} (q : tM T W (eChain o o' f g k) τ H Q) : tChain (rO T o) (rO T o') (tM T W f) (tM T W g) (tM T W k) τ H Q := by
  obtain ⟨_, F, ρ, h, σ, s, l, p⟩ := q
  refine tM_bind s l p fun F1 ρ1 H1 x h1 vx x1 s1 l1 r1 p1 => ?_
  refine tM_bind s1 l1 p1 fun F2 ρ2 H2 y h2 vy x2 s2 l2 r2 p2 => ?_
  cases e : o h2 x y with
  | none => rw [e] at p2; exact p2.elim
  | some d =>
    refine ⟨_, F2, ρ2, h2, x, y, d, s2, r1.mono x2, r2, e, fun F3 ρ3 H3 v x3 s3 r3 => ?_⟩
    rw [e] at p2
    cases r3 with
    | bl b =>
      refine ⟨b, rfl, ?_⟩
      cases b with
      | false =>
        rw [if_neg Bool.false_ne_true]
        exact p2 F3 ρ3 H3 _ x3 s3 (.bl false)
      | true =>
        rw [if_pos rfl]
        refine tM_bind s3 (l2.mono x3) (Post.mono x3 p2 fun _ _ z => z) fun F4 ρ4 H4 z h4 vz x4 s4 l4 r4 p4 => ?_
        obtain ⟨d', e', k'⟩ := okE_post p4
        exact ⟨_, F4, ρ4, h4, y, z, d', s4, (r2.mono x3).mono x4, r4, e', k'⟩
    | _ => exact p2.elim
theorem se_chain {op op' : CmpOp} {o o' : Op2} {a b c : Expr} {f g k : Ev} {pos : Pos} (ho : OpR X (compareOp op) (rO (tb X n) o)) (ho' : OpR X (compareOp op') (rO (tb X n) o')) (ha : SE X n W a f) (hb : SE X n W b g) (hc : SE X n W c k)
    (hm : lastMarks [op, op'] [b, c] = false) : SE X n W (.Compare a [op, op'] [b, c] pos) (eChain o o' f g k) := PE_imp (pe_chain ho ho' ha hb hc hm) fun _ _ _ q => tM_chain q
theorem st_chain {op op' : CmpOp} {o o' : Op2} {a b c : Expr} {f g k : Ev} {pos : Pos} (ho : OpR X (compareOp op) (rO (tb X n) o)) (ho' : OpR X (compareOp op') (rO (tb X n) o')) (ha : SE X n W a f) (hb : SE X n W b g) (hc : SE X n W c k)
    (hm : lastMarks [op, op'] [b, c] = false) : ST X n W (.Compare a [op, op'] [b, c] pos) (eT (eChain o o' f g k)) := by
  refine PT_imp (pt_chain ho ho' ha hb hc hm) fun τ H Q q => ?_
  exact tM_chain (tMB_of q)

/-! ### and, or, not, a if t else b -/
def bAnd (a b : EvB) : EvB := fun σ h => (a σ h).bind fun x h1 => if x = true then b σ h1 else .ok false h1
def bOr (a b : EvB) : EvB := fun σ h => (a σ h).bind fun x h1 => if x = true then .ok true h1 else b σ h1
def bNot (a : EvB) : EvB := fun σ h => (a σ h).bind fun x h1 => .ok (!x) h1
def eAnd (a : EvB) (b : Ev) : Ev := fun σ h => (a σ h).bind fun x h1 => if x = true then b σ h1 else .ok (.bl false) h1
def eOr (a : EvB) (b : Ev) : Ev := fun σ h => (a σ h).bind fun x h1 => if x = true then .ok (.bl true) h1 else b σ h1
def eNot (a : EvB) : Ev := fun σ h => (a σ h).bind fun x h1 => .ok (.bl (!x)) h1
def eIf (t : EvB) (a b : Ev) : Ev := fun σ h => (t σ h).bind fun x h1 => if x = true then a σ h1 else b σ h1

theorem tMB_bindB {T : Tb} {W : WX} {F : Hp} {ρ : List Addr} {H : Hp} {h : MH} {σ : Sl} {τ : Tv} {f : EvB} {g : Bool → MH → Res Bool} {Q : Bool → Hp → Prop} (s : SR T F ρ H h) (l : SLR T.K F ρ σ τ)
    (p : PostB T F ρ ((f σ h).bind g) Q fun c d H' => W c d τ H') {R : Bool → Hp → Prop}
    (k : ∀ F' ρ' H' d h', Ext F ρ F' ρ' → SR T F' ρ' H' h' → SLR T.K F' ρ' σ τ → PostB T F' ρ' (g d h') Q (fun c d H' => W c d τ H') → R d H') : tMB T W f τ H R := by
  refine ⟨_, F, ρ, h, σ, s, l, ?_⟩
  cases e : f σ h with
  | ok d h' =>
    rw [e] at p
    exact fun F' ρ' H' x s' => k F' ρ' H' d h' x s' (l.mono x) (PostB.mono x p fun _ _ q => q)
  | exc x h' => rw [e] at p; exact p
  | bad => rw [e] at p; exact p
theorem tMB_bind {T : Tb} {W : WX} {F : Hp} {ρ : List Addr} {H : Hp} {h : MH} {σ : Sl} {τ : Tv} {f : EvB} {g : Bool → MH → Res D} {Q : VK} (s : SR T F ρ H h) (l : SLR T.K F ρ σ τ)
    (p : Post T F ρ ((f σ h).bind g) Q fun c d H' => W c d τ H') {R : Bool → Hp → Prop}
    (k : ∀ F' ρ' H' d h', Ext F ρ F' ρ' → SR T F' ρ' H' h' → SLR T.K F' ρ' σ τ → Post T F' ρ' (g d h') Q (fun c d H' => W c d τ H') → R d H') : tMB T W f τ H R := by
  refine ⟨_, F, ρ, h, σ, s, l, ?_⟩
  cases e : f σ h with
  | ok d h' =>
    rw [e] at p
    exact fun F' ρ' H' x s' => k F' ρ' H' d h' x s' (l.mono x) (Post.mono x p fun _ _ q => q)
  | exc x h' => rw [e] at p; exact p
  | bad => rw [e] at p; exact p

abbrev SW (X : Cx) (n : Nm) (W : WX) (e : Expr) (f : EvB) : Prop := PW X e (tMB (tb X n) W f)
theorem tMB_and {T : Tb} {f g : EvB} {τ : Tv} {H : Hp} {Q : Bool → Hp → Prop} (q : tMB T W (bAnd f g) τ H Q) : tAnd (tMB T W f) (tMB T W g) τ H Q := by
  obtain ⟨_, F, ρ, h, σ, s, l, p⟩ := q
  refine tMB_bindB s l p fun F1 ρ1 H1 d h1 x1 s1 l1 p1 => ?_
  cases d with
  | true => rw [if_pos rfl] at p1 ⊢; exact ⟨_, F1, ρ1, h1, σ, s1, l1, p1⟩
  | false => rw [if_neg Bool.false_ne_true] at p1 ⊢; exact p1 F1 ρ1 H1 (Ext.refl _ _) s1
theorem tMB_or {T : Tb} {f g : EvB} {τ : Tv} {H : Hp} {Q : Bool → Hp → Prop} (q : tMB T W (bOr f g) τ H Q) : tOr (tMB T W f) (tMB T W g) τ H Q := by
  obtain ⟨_, F, ρ, h, σ, s, l, p⟩ := q
  refine tMB_bindB s l p fun F1 ρ1 H1 d h1 x1 s1 l1 p1 => ?_
  cases d with
  | false => rw [if_neg Bool.false_ne_true] at p1 ⊢; exact ⟨_, F1, ρ1, h1, σ, s1, l1, p1⟩
  | true => rw [if_pos rfl] at p1 ⊢; exact p1 F1 ρ1 H1 (Ext.refl _ _) s1
theorem sw_and1 {a : Expr} {f : EvB} {pos : Pos} (h : ST X n W a f) : SW X n W (.BoolOp .And [a] pos) f := pw_and1 h
theorem sw_or1 {a : Expr} {f : EvB} {pos : Pos} (h : ST X n W a f) : SW X n W (.BoolOp .Or [a] pos) f := pw_or1 h
theorem sw_and {a b : Expr} {r : List Expr} {f g : EvB} {pos : Pos} (h : ST X n W a f) (k : SW X n W (.BoolOp .And (b :: r) pos) g) : SW X n W (.BoolOp .And (a :: b :: r) pos) (bAnd f g) := PW_imp (pw_and h k) fun _ _ _ q => tMB_and q
theorem sw_or {a b : Expr} {r : List Expr} {f g : EvB} {pos : Pos} (h : ST X n W a f) (k : SW X n W (.BoolOp .Or (b :: r) pos) g) : SW X n W (.BoolOp .Or (a :: b :: r) pos) (bOr f g) := PW_imp (pw_or h k) fun _ _ _ q => tMB_or q
theorem st_not {a : Expr} {f : EvB} {pos : Pos} (h : ST X n W a f) : ST X n W (.UnaryOp .Not a pos) (bNot f) := by
  refine PT_imp (pt_not h) fun τ H Q q => ?_
  obtain ⟨_, F, ρ, h, σ, s, l, p⟩ := q
  exact tMB_bindB s l p fun F1 ρ1 H1 d h1 x1 s1 l1 p1 => p1 F1 ρ1 H1 (Ext.refl _ _) s1
/-- the first of two, a bool -/
theorem tM_boolT {T : Tb} {f : Ev} {τ : Tv} {H : Hp} {R : Bool → Hp → Prop} (q : tMB T W (eT f) τ H R) : tM T W f τ H fun x H1 => ∃ c, x = .bl c ∧ R c H1 := tMB_of q
theorem se_one {op : BoolOp} {a : Expr} {f : Ev} {pos : Pos} (h : SE X n W a f) : SE X n W (.BoolOp op [a] pos) f := pe_one h
theorem se_and {a b : Expr} {r : List Expr} {f g : Ev} {pos : Pos} (h : SE X n W a f) (k : SE X n W (.BoolOp .And (b :: r) pos) g) : SE X n W (.BoolOp .And (a :: b :: r) pos) (eAnd (eT f) g) := by
  refine PE_imp (pe_and h k) fun τ H Q q => ?_
  obtain ⟨_, F, ρ, h, σ, s, l, p⟩ := q
  refine tM_boolT (R := fun c H1 => if c = true then tM _ W g τ H1 Q else Q (.bl false) H1) (tMB_bind s l p fun F1 ρ1 H1 d h1 x1 s1 l1 p1 => ?_)
  cases d with
  | true => rw [if_pos rfl] at p1 ⊢; exact ⟨_, F1, ρ1, h1, σ, s1, l1, p1⟩
  | false => rw [if_neg Bool.false_ne_true] at p1 ⊢; exact p1 F1 ρ1 H1 _ (Ext.refl _ _) s1 (.bl false)
theorem se_or {a b : Expr} {r : List Expr} {f g : Ev} {pos : Pos} (h : SE X n W a f) (k : SE X n W (.BoolOp .Or (b :: r) pos) g) : SE X n W (.BoolOp .Or (a :: b :: r) pos) (eOr (eT f) g) := by
  refine PE_imp (pe_or h k) fun τ H Q q => ?_
  obtain ⟨_, F, ρ, h, σ, s, l, p⟩ := q
  refine tM_boolT (R := fun c H1 => if c = true then Q (.bl true) H1 else tM _ W g τ H1 Q) (tMB_bind s l p fun F1 ρ1 H1 d h1 x1 s1 l1 p1 => ?_)
  cases d with
  | false => rw [if_neg Bool.false_ne_true] at p1 ⊢; exact ⟨_, F1, ρ1, h1, σ, s1, l1, p1⟩
  | true => rw [if_pos rfl] at p1 ⊢; exact p1 F1 ρ1 H1 _ (Ext.refl _ _) s1 (.bl true)
theorem se_not {a : Expr} {f : Ev} {pos : Pos} (h : SE X n W a f) : SE X n W (.UnaryOp .Not a pos) (eNot (eT f)) := by
  refine PE_imp (pe_not h) fun τ H Q q => ?_
  obtain ⟨_, F, ρ, h, σ, s, l, p⟩ := q
  exact tM_boolT (R := fun c H1 => Q (.bl (!c)) H1) (tMB_bind s l p fun F1 ρ1 H1 d h1 x1 s1 l1 p1 => p1 F1 ρ1 H1 _ (Ext.refl _ _) s1 (.bl _))
theorem se_ifExp {c a b : Expr} {t : EvB} {f g : Ev} {pos : Pos} (hc : ST X n W c t) (ha : SE X n W a f) (hb : SE X n W b g) : SE X n W (.IfExp c a b pos) (eIf t f g) := by
  refine PE_imp (pe_ifExp hc ha hb) fun τ H Q q => ?_
  obtain ⟨_, F, ρ, h, σ, s, l, p⟩ := q
  refine tMB_bind s l p fun F1 ρ1 H1 d h1 x1 s1 l1 p1 => ?_
  cases d with
  | true => rw [if_pos rfl] at p1 ⊢; exact ⟨_, F1, ρ1, h1, σ, s1, l1, p1⟩
  | false => rw [if_neg Bool.false_ne_true] at p1 ⊢; exact ⟨_, F1, ρ1, h1, σ, s1, l1, p1⟩
end
end MI

/-! MI, part E: the operations one by one. -/
namespace MI
open PySem PySem.Spec L2

/-- how long a made text, list or tuple may be here -/
def lim : Nat := 1000000
theorem lim_ok {n : Nat} (h : n ≤ lim) : n ≤ sizeLine := by
  have e : (sizeLine : Nat) = 16777216 := sizeLine_eq
  unfold lim at h
  omega

/-- the items of a list -/
def lstOf (h : MH) : D → Option (List D)
  | .lst xs => some xs
  | .ref n => match h[n]? with
    | some (.lst xs) => some xs
    | _ => none
  | _ => none
/-- the items of a list, a tuple, the script -/
def seqOf (h : MH) : D → Option (List D)
  | .lst xs => some xs
  | .tup xs => some xs
  | .scr ns => some (ns.map .int)
  | .ref n => match h[n]? with
    | some (.lst xs) => some xs
    | _ => none
  | _ => none
def asInts : List D → Option (List Int)
  | [] => some []
  | .int i :: ds => (asInts ds).map (i :: ·)
  | _ => none
theorem asInts_eq : ∀ {ds : List D} {ns : List Int}, asInts ds = some ns → ds = ns.map D.int
  | [], ns, h => by cases h; rfl
  | d :: ds, ns, h => by
    cases d with
    | int i =>
      unfold asInts at h
      rw [Option.map_eq_some_iff] at h
      obtain ⟨ms, e, rfl⟩ := h
      rw [asInts_eq e]; rfl
    | _ => cases h

section
variable {T : Tb} {F : Hp} {ρ : List Addr} {H : Hp} {h : MH}
theorem lstOf_rep (s : SR T F ρ H h) {d : D} {v : V} {xs : List D} (r : Rep T.K F ρ d v) (e : lstOf h d = some xs) : ∃ a vs, v = .ref a ∧ H a = some (.lst vs) ∧ Reps T.K F ρ xs vs := by
  cases r with
  | @lst xs' a vs hF hs =>
    cases e
    exact ⟨a, vs, rfl, s.le _ _ hF, hs⟩
  | @ref n a hρ =>
    obtain ⟨o, u, e0, _, _, q⟩ := s.track hρ
    unfold lstOf at e
    dsimp only at e
    rw [e0] at e
    cases o with
    | lst ys =>
      cases e
      obtain ⟨vs, e1, e2⟩ := q
      exact ⟨a, vs, rfl, e1, e2⟩
    | _ => cases e
  | _ => cases e
theorem seqOf_rep (s : SR T F ρ H h) {d : D} {v : V} {xs : List D} (r : Rep T.K F ρ d v) (e : seqOf h d = some xs) : ∃ a vs, v = .ref a ∧ (SqL T.K H a vs ∨ SqT T.K H a vs) ∧ Reps T.K F ρ xs vs := by
  cases r with
  | @lst xs' a vs hF hs =>
    cases e
    exact ⟨a, vs, rfl, .inl (SqL.of (s.le _ _ hF)), hs⟩
  | @tup xs' a vs hF hs =>
    cases e
    exact ⟨a, vs, rfl, .inr (sqT_le s.le hF), hs⟩
  | @scr ns a hF =>
    cases e
    exact ⟨a, _, rfl, .inl (sqL_le s.le hF), Reps.ints ns⟩
  | @ref n a hρ =>
    obtain ⟨o, u, e0, _, _, q⟩ := s.track hρ
    unfold seqOf at e
    dsimp only at e
    rw [e0] at e
    cases o with
    | lst ys =>
      cases e
      obtain ⟨vs, e1, e2⟩ := q
      exact ⟨a, vs, rfl, .inl (SqL.of e1), e2⟩
    | _ => cases e
  | _ => cases e
end

/-! ### arithmetic -/
def small64 (i : Int) : Bool := decide (-(2 ^ 64) < i) && decide (i < 2 ^ 64)
def addO : Op2 := fun h x y => match x, y with
  | .int i, .int j => some (.int (i + j))
  | .str a, .str b => if a.length + b.length ≤ lim then some (.str (a ++ b)) else none
  | .tup a, .tup b => if a.length + b.length ≤ lim then some (.tup (a ++ b)) else none
  | x, y => match lstOf h x, lstOf h y with
    | some a, some b => if a.length + b.length ≤ lim then some (.lst (a ++ b)) else none
    | _, _ => none
def subO : Op2 := fun _ x y => match x, y with
  | .int i, .int j => some (.int (i - j))
  | _, _ => none
def mulO : Op2 := fun h x y => match x, y with
  | .int i, .int j => if small64 i || small64 j then some (.int (i * j)) else none
  | .tup a, .int k => if a.length ≤ 1000 ∧ 2 ≤ k ∧ k ≤ 1000 ∧ a.length ≠ 0 then some (.tup (List.replicate k.toNat a).flatten) else none
  | x, .int k => match lstOf h x with
    | some a => if a.length ≤ 1000 ∧ -1000 ≤ k ∧ k ≤ 1000 then some (.lst (List.replicate k.toNat a).flatten) else none
    | none => none
  | _, _ => none
def fdivO : Op2 := fun _ x y => match x, y with
  | .int i, .int j => if 0 < j ∧ j < 1073741824 then some (.int (i / j)) else none
  | _, _ => none
def modO : Op2 := fun _ x y => match x, y with
  | .int i, .int j => if 0 < j then some (.int (i % j)) else none
  | _, _ => none
def powO : Op2 := fun _ x y => match x, y with
  | .int i, .int j => if 0 ≤ j ∧ j ≤ 1000 ∧ i.natAbs < 2 ^ 64 then some (.int (i ^ j.toNat)) else none
  | _, _ => none

section
variable {X : Cx} {n : Nm}
theorem opO_int {f : Value → Value → Sem Value} {g : Int → Int → Int} (h : OpR X f (rI0 fun i j => .int (g i j))) : OpR X f fun vx vy H Q => ∃ pr F ρ h i j, SR ((tb X n).at pr) F ρ H h ∧ vx = .int i ∧ vy = .int j ∧ ∀ F' ρ' H' v, Ext F ρ F' ρ' → SR ((tb X n).at pr) F' ρ' H' h → Rep X.K F' ρ' (.int (g i j)) v → Q v H' := by
  rintro pins s σ H x y v u Q I rx ry ⟨_, F, ρ, h0, i, j, S, rfl, rfl, k⟩
  exact h pins s σ H _ _ v u Q I rx ry ⟨i, j, rfl, rfl, k F ρ H _ (Ext.refl _ _) S (.int _)⟩
theorem flat_reps {K : PySem.W.Frag} {F : Hp} {ρ : List Addr} {xs : List D} {vs : List V} (r : Reps K F ρ xs vs) : ∀ k : Nat, Reps K F ρ (List.replicate k xs).flatten (List.replicate k vs).flatten
  | 0 => .nil
  | k + 1 => by
    rw [List.replicate_succ, List.replicate_succ, List.flatten_cons, List.flatten_cons]
    exact r.append (flat_reps r k)
theorem add_ok : OpR X (binaryOp .Add) (rO (tb X n) addO) := by
  rintro pins s σ H x y v u Q I rx ry ⟨_, F, ρ, h, dx, dy, d, S, r1, r2, e, k⟩
  have lsts : (match lstOf h dx, lstOf h dy with
      | some a, some b => if a.length + b.length ≤ lim then some (D.lst (a ++ b)) else none
      | _, _ => none) = some d → wpAny (model X.prog X.w) X.A (binaryOp .Add v u) (EP X pins σ Q) X.xe s := by
    intro e
    cases e1 : lstOf h dx with
    | none => rw [e1] at e; cases e
    | some a =>
      cases e2 : lstOf h dy with
      | none => rw [e1, e2] at e; cases e
      | some b =>
        rw [e1, e2] at e
        dsimp only at e
        split at e
        · rename_i hl
          cases e
          obtain ⟨p, vs, rfl, hp, q1⟩ := lstOf_rep S r1 e1
          obtain ⟨p', vs', rfl, hp', q2⟩ := lstOf_rep S r2 e2
          have l1 := q1.length
          have l2 := q2.length
          refine op_cat pins s σ H _ _ v u Q I rx ry ⟨p, p', vs, vs', rfl, rfl, hp, hp', lim_ok (by omega), fun t ht => ?_⟩
          obtain ⟨S', x'⟩ := S.frozen (o := .lst (vs ++ vs')) ht
          exact k _ _ _ _ x' S' (.lst upd_same ((q1.append q2).mono x'))
        · cases e
  cases dx with
  | int i =>
    cases dy with
    | int j =>
      cases e
      cases r1
      cases r2
      exact op_add pins s σ H _ _ v u Q I rx ry ⟨i, j, rfl, rfl, k F ρ H _ (Ext.refl _ _) S (.int _)⟩
    | _ => exact lsts e
  | str a =>
    cases dy with
    | str b =>
      cases r1
      cases r2
      unfold addO at e
      dsimp only at e
      split at e
      · rename_i hl
        cases e
        exact op_add_str pins s σ H _ _ v u Q I rx ry ⟨a, b, rfl, rfl, lim_ok hl, k F ρ H _ (Ext.refl _ _) S (.str _)⟩
      · cases e
    | _ => exact lsts e
  | tup a =>
    cases dy with
    | tup b =>
      unfold addO at e
      dsimp only at e
      split at e
      · rename_i hl
        cases e
        cases r1 with
        | tup h1 q1 =>
          cases r2 with
          | tup h2 q2 =>
            rename_i p vs p' vs'
            have l1 := q1.length
            have l2 := q2.length
            refine op_catA pins s σ H _ _ v u Q I rx ry ⟨p, p', vs, vs', rfl, rfl, sqT_le S.le h1, sqT_le S.le h2, lim_ok (by omega), fun z => ?_, fun _ z => ?_, fun _ _ t ht => ?_⟩
            · subst z
              cases q1
              exact k F ρ H _ (Ext.refl _ _) S (.tup h2 q2)
            · subst z
              cases q2
              exact k F ρ H _ (Ext.refl _ _) S (.tup h1 (by rw [List.append_nil]; exact q1))
            · obtain ⟨S', x'⟩ := S.frozen (o := .tup (vs ++ vs')) ht
              exact k _ _ _ _ x' S' (.tup (SqT.of upd_same) ((q1.append q2).mono x'))
      · cases e
    | _ => exact lsts e
  | _ => exact lsts e
theorem sub_ok : OpR X (binaryOp .Sub) (rO (tb X n) subO) := by
  rintro pins s σ H x y v u Q I rx ry ⟨_, F, ρ, h, dx, dy, d, S, r1, r2, e, k⟩
  cases dx with
  | int i =>
    cases dy with
    | int j =>
      cases e
      cases r1
      cases r2
      exact op_sub pins s σ H _ _ v u Q I rx ry ⟨i, j, rfl, rfl, k F ρ H _ (Ext.refl _ _) S (.int _)⟩
    | _ => cases e
  | _ => cases e
theorem fdiv_ok : OpR X (binaryOp .FloorDiv) (rO (tb X n) fdivO) := by
  rintro pins s σ H x y v u Q I rx ry ⟨_, F, ρ, h, dx, dy, d, S, r1, r2, e, k⟩
  cases dx with
  | int i =>
    cases dy with
    | int j =>
      unfold fdivO at e
      dsimp only at e
      split at e
      · rename_i hc
        cases e
        cases r1
        cases r2
        exact op_fdiv pins s σ H _ _ v u Q I rx ry ⟨i, j, rfl, rfl, hc, k F ρ H _ (Ext.refl _ _) S (.int _)⟩
      · cases e
    | _ => cases e
  | _ => cases e
theorem mod_ok : OpR X (binaryOp .Mod) (rO (tb X n) modO) := by
  rintro pins s σ H x y v u Q I rx ry ⟨_, F, ρ, h, dx, dy, d, S, r1, r2, e, k⟩
  cases dx with
  | int i =>
    cases dy with
    | int j =>
      unfold modO at e
      dsimp only at e
      split at e
      · rename_i hc
        cases e
        cases r1
        cases r2
        exact op_mod pins s σ H _ _ v u Q I rx ry ⟨i, j, rfl, rfl, hc, k F ρ H _ (Ext.refl _ _) S (.int _)⟩
      · cases e
    | _ => cases e
  | _ => cases e
theorem pow_ok : OpR X (binaryOp .Pow) (rO (tb X n) powO) := by
  rintro pins s σ H x y v u Q I rx ry ⟨_, F, ρ, h, dx, dy, d, S, r1, r2, e, k⟩
  cases dx with
  | int i =>
    cases dy with
    | int j =>
      unfold powO at e
      dsimp only at e
      split at e
      · rename_i hc
        cases e
        cases r1
        cases r2
        exact op_pow pins s σ H _ _ v u Q I rx ry ⟨i, j, rfl, rfl, ⟨hc.1, by have := hc.2.1; omega, hc.2.2⟩, k F ρ H _ (Ext.refl _ _) S (.int _)⟩
      · cases e
    | _ => cases e
  | _ => cases e
theorem mul_ok : OpR X (binaryOp .Mult) (rO (tb X n) mulO) := by
  rintro pins s σ H x y v u Q I rx ry ⟨_, F, ρ, h, dx, dy, d, S, r1, r2, e, k⟩
  have lsts : ∀ j : Int, dy = .int j → (match lstOf h dx with
      | some a => if a.length ≤ 1000 ∧ -1000 ≤ j ∧ j ≤ 1000 then some (D.lst (List.replicate j.toNat a).flatten) else none
      | none => none) = some d → wpAny (model X.prog X.w) X.A (binaryOp .Mult v u) (EP X pins σ Q) X.xe s := by
    clear e
    intro j ej e
    subst ej
    cases r2
    cases e1 : lstOf h dx with
    | none => rw [e1] at e; cases e
    | some a =>
      rw [e1] at e
      dsimp only at e
      split at e
      · rename_i hl
        cases e
        obtain ⟨p, vs, rfl, hp, q1⟩ := lstOf_rep S r1 e1
        have l1 := q1.length
        have hz : vs.length * j.toNat ≤ sizeLine := by
          have h2 : vs.length * j.toNat ≤ 1000 * 1000 := Nat.mul_le_mul (by omega) (by omega)
          exact lim_ok (by unfold lim; omega)
        refine op_rep pins s σ H _ _ v u Q I rx ry ⟨p, j, vs, rfl, rfl, hp, by omega, by omega, hz, fun t ht => ?_⟩
        obtain ⟨S', x'⟩ := S.frozen (o := .lst (List.replicate j.toNat vs).flatten) ht
        exact k _ _ _ _ x' S' (.lst upd_same ((flat_reps q1 _).mono x'))
      · cases e
  cases dy with
  | int j =>
    cases dx with
    | int i =>
      unfold mulO at e
      dsimp only at e
      split at e
      · rename_i hc
        cases e
        cases r1
        cases r2
        refine op_mul pins s σ H _ _ v u Q I rx ry ⟨i, j, rfl, rfl, ?_, k F ρ H _ (Ext.refl _ _) S (.int _)⟩
        rcases Bool.or_eq_true_iff.mp hc with q | q
        · obtain ⟨a, b⟩ := Bool.and_eq_true_iff.mp q
          exact .inl ⟨of_decide_eq_true a, of_decide_eq_true b⟩
        · obtain ⟨a, b⟩ := Bool.and_eq_true_iff.mp q
          exact .inr ⟨of_decide_eq_true a, of_decide_eq_true b⟩
      · cases e
    | tup a =>
      unfold mulO at e
      dsimp only at e
      split at e
      · rename_i hc
        cases e
        cases r1 with
        | tup h1 q1 =>
          rename_i p vs
          cases r2
          have l1 := q1.length
          refine op_repT pins s σ H _ _ v u Q I rx ry ⟨p, j, vs, rfl, rfl, sqT_le S.le h1, fun z => hc.2.2.2 (by rw [l1, z]; rfl), hc.2.1, hc.2.2.1, by omega, fun t ht => ?_⟩
          obtain ⟨S', x'⟩ := S.frozen (o := .tup (List.replicate j.toNat vs).flatten) ht
          exact k _ _ _ _ x' S' (.tup (SqT.of upd_same) ((flat_reps q1 _).mono x'))
      · cases e
    | _ => exact lsts j rfl e
  | _ => cases dx <;> cases e
end

/-! ### data as the library reads it -/
mutual
def D.py (r : Nat → Option PyData) : D → Option PyData
  | .non => some .none
  | .bl b => some (.bool b)
  | .int i => some (.int i)
  | .str x => some (.str x)
  | .tup xs => (D.pys r xs).map .tuple
  | .lst xs => (D.pys r xs).map .list
  | .scr ns => some (.list (ns.map .int))
  | .ref n => r n
def D.pys (r : Nat → Option PyData) : List D → Option (List PyData)
  | [] => some []
  | d :: ds => match D.py r d, D.pys r ds with
    | some p, some ps => some (p :: ps)
    | _, _ => none
end
/-- lists within lists, so deep -/
def refPy : Nat → MH → Nat → Option PyData
  | 0, _, _ => none
  | k + 1, h, n => match h[n]? with
    | some (.lst xs) => (D.pys (refPy k h) xs).map .list
    | _ => none
def toPy (h : MH) (d : D) : Option PyData := D.py (refPy 3 h) d

section
variable {T : Tb} {F : Hp} {ρ : List Addr} {H : Hp} {h : MH}
theorem ints_dp {K : PySem.W.Frag} {H : Hp} : ∀ ns : List Int, DpAll K H (ns.map V.int) (ns.map .int)
  | [] => .nil
  | i :: ns => .cons (.int i) (ints_dp ns)
mutual
theorem py_dp (s : SR T F ρ H h) {r : Nat → Option PyData} (hr : ∀ n p a, r n = some p → ρ[n]? = some a → Dp T.K H (.ref a) p) : ∀ {d : D} {v : V} {p : PyData}, Rep T.K F ρ d v → D.py r d = some p → Dp T.K H v p
  | _, _, _, .non, e => by cases e; exact .non
  | _, _, _, .bl b, e => by cases e; exact .bl b
  | _, _, _, .int i, e => by cases e; exact .int i
  | _, _, _, .str x, e => by cases e; exact .str x
  | _, _, _, .tup h1 hs, e => by
    rw [D.py, Option.map_eq_some_iff] at e
    obtain ⟨ps, e1, rfl⟩ := e
    exact .tup (sqT_le s.le h1) (pys_dp s hr hs e1)
  | _, _, _, .lst h1 hs, e => by
    rw [D.py, Option.map_eq_some_iff] at e
    obtain ⟨ps, e1, rfl⟩ := e
    exact .lst (SqL.of (s.le _ _ h1)) (pys_dp s hr hs e1)
  | _, _, _, .scr h1, e => by
    cases e
    exact .lst (sqL_le s.le h1) (ints_dp _)
  | _, _, _, .ref e0, e => by exact hr _ _ _ e e0
theorem pys_dp (s : SR T F ρ H h) {r : Nat → Option PyData} (hr : ∀ n p a, r n = some p → ρ[n]? = some a → Dp T.K H (.ref a) p) : ∀ {ds : List D} {vs : List V} {ps : List PyData}, Reps T.K F ρ ds vs → D.pys r ds = some ps → DpAll T.K H vs ps
  | _, _, _, .nil, e => by cases e; exact .nil
  | _, _, _, .cons (d := d) (ds := ds) h1 hs, e => by
    rw [D.pys] at e
    cases e1 : D.py r d with
    | none => rw [e1] at e; cases e
    | some p =>
      cases e2 : D.pys r ds with
      | none => rw [e1, e2] at e; cases e
      | some ps' =>
        rw [e1, e2] at e
        cases e
        exact .cons (py_dp s hr h1 e1) (pys_dp s hr hs e2)
end
theorem refPy_dp (s : SR T F ρ H h) : ∀ (k n : Nat) (p : PyData) (a : Addr), refPy k h n = some p → ρ[n]? = some a → Dp T.K H (.ref a) p
  | 0, _, _, _, e, _ => by cases e
  | k + 1, n, p, a, e, e0 => by
    obtain ⟨o, u, e1, _, _, q⟩ := s.track e0
    unfold refPy at e
    rw [e1] at e
    cases o with
    | lst xs =>
      dsimp only at e
      rw [Option.map_eq_some_iff] at e
      obtain ⟨ps, e2, rfl⟩ := e
      obtain ⟨vs, h1, hs⟩ := q
      exact .lst (SqL.of h1) (pys_dp s (refPy_dp s k) hs e2)
    | _ => cases e
theorem toPy_dp (s : SR T F ρ H h) {d : D} {v : V} {p : PyData} (r : Rep T.K F ρ d v) (e : toPy h d = some p) : Dp T.K H v p := py_dp s (refPy_dp s 3) r e
end

/-! ### comparisons -/
def eqO : Op2 := fun h x y => match toPy h x, toPy h y with
  | some a, some b => if SeqAt.shaped a && SeqAt.shaped b then some (.bl (PyData.eqv a b)) else none
  | _, _ => none
def neO : Op2 := fun h x y => match toPy h x, toPy h y with
  | some a, some b => if SeqAt.shaped a && SeqAt.shaped b then some (.bl (!PyData.eqv a b)) else none
  | _, _ => none
def ltO : Op2 := fun _ x y => match x, y with
  | .int i, .int j => some (.bl (decide (i < j)))
  | .tup a, .tup b => match asInts a, asInts b with
    | some m, some n => some (.bl (HT.lexLt m n))
    | _, _ => none
  | _, _ => none
def leI (ns ms : List Int) : Bool := Ob.lexAt (fun j => decide (ns.getD j 0 = ms.getD j 0)) (fun j => decide (ns.getD j 0 ≤ ms.getD j 0)) (decide (ns.length ≤ ms.length)) 0 (min ns.length ms.length)
def leO : Op2 := fun _ x y => match x, y with
  | .int i, .int j => some (.bl (decide (i ≤ j)))
  | .tup a, .tup b => match asInts a, asInts b with
    | some m, some n => some (.bl (leI m n))
    | _, _ => none
  | _, _ => none
def gtO : Op2 := fun _ x y => match x, y with
  | .int i, .int j => some (.bl (decide (j < i)))
  | _, _ => none
def geO : Op2 := fun _ x y => match x, y with
  | .int i, .int j => some (.bl (decide (j ≤ i)))
  | _, _ => none
def isO : Op2 := fun _ x y => match x, y with
  | x, .non => some (.bl (decide (x = .non)))
  | .bl a, .bl b => some (.bl (decide (a = b)))
  | _, _ => none
def isNotO : Op2 := fun _ x y => match x, y with
  | x, .non => some (.bl (!decide (x = .non)))
  | .bl a, .bl b => some (.bl (!decide (a = b)))
  | _, _ => none
/-- x in y: a list, a tuple; a text; a dict -/
def isIn (h : MH) (x y : D) : Option Bool := match x, y with
  | .str a, .str b => some (!(Builtin.Str.occurrences b a 0 b.length 1).isEmpty)
  | x, y => match toPy h x, toPy h y with
    | some d, some (.list ds) => if SeqAt.shaped d && SeqAt.shaped (.list ds) then some (ds.any fun z => PyData.eqv z d) else none
    | some d, some (.tuple ds) => if SeqAt.shaped d && SeqAt.shaped (.tuple ds) then some (ds.any fun z => PyData.eqv z d) else none
    | _, _ => none

section
variable {X : Cx} {n : Nm}
theorem Rep.non_iff {K : PySem.W.Frag} {F : Hp} {ρ : List Addr} {d : D} {v : V} (r : Rep K F ρ d v) : decide (v = .non) = decide (d = .non) := by
  cases r <;> rfl
theorem int_inv {K : PySem.W.Frag} {F : Hp} {ρ : List Addr} {i : Int} {v : V} (r : Rep K F ρ (.int i) v) : v = .int i := by cases r; rfl
theorem opB {f : Value → Value → Sem Value} {g : Int → Int → Bool} {o : Op2} (h : OpR X f (rI0 fun i j => .bl (g i j))) (ho : ∀ (m : MH) x y d, o m x y = some d → ∃ i j, x = .int i ∧ y = .int j ∧ d = .bl (g i j)) : OpR X f (rO (tb X n) o) := by
  rintro pins s σ H x y v u Q I rx ry ⟨_, F, ρ, h0, dx, dy, d, S, r1, r2, e, k⟩
  obtain ⟨i, j, rfl, rfl, rfl⟩ := ho _ _ _ _ e
  cases r1
  cases r2
  exact h pins s σ H _ _ v u Q I rx ry ⟨i, j, rfl, rfl, k F ρ H _ (Ext.refl _ _) S (.bl _)⟩
theorem gt_ok : OpR X (compareOp .Gt) (rO (tb X n) gtO) := opB op_gt fun m x y d e => by
  cases x <;> cases y <;> simp [gtO] at e
  exact ⟨_, _, rfl, rfl, e.symm⟩
theorem ge_ok : OpR X (compareOp .GtE) (rO (tb X n) geO) := opB op_ge fun m x y d e => by
  cases x <;> cases y <;> simp [geO] at e
  exact ⟨_, _, rfl, rfl, e.symm⟩
theorem lt_ok (hu : X.A.units < cLine) : OpR X (compareOp .Lt) (rO (tb X n) ltO) := by
  rintro pins s σ H x y v u Q I rx ry ⟨_, F, ρ, h0, dx, dy, d, S, r1, r2, e, k⟩
  cases dx with
  | int i =>
    cases dy with
    | int j =>
      cases e
      cases r1
      cases r2
      exact op_lt pins s σ H _ _ v u Q I rx ry ⟨i, j, rfl, rfl, k F ρ H _ (Ext.refl _ _) S (.bl _)⟩
    | _ => cases e
  | tup a =>
    cases dy with
    | tup b =>
      unfold ltO at e
      dsimp only at e
      cases e1 : asInts a with
      | none => rw [e1] at e; cases e
      | some m =>
        cases e2 : asInts b with
        | none => rw [e1, e2] at e; cases e
        | some m' =>
          rw [e1, e2] at e
          cases e
          have a1 := asInts_eq e1
          have a2 := asInts_eq e2
          subst a1 a2
          cases r1 with
          | tup h1 q1 =>
            cases r2 with
            | tup h2 q2 =>
              have b1 := Reps.of_ints q1
              have b2 := Reps.of_ints q2
              subst b1 b2
              exact op_ltT hu pins s σ H _ _ v u Q I rx ry ⟨_, _, m, m', rfl, rfl, sqT_le S.le h1, sqT_le S.le h2, k F ρ H _ (Ext.refl _ _) S (.bl _)⟩
    | _ => cases e
  | _ => cases e
theorem le_ok (hu : X.A.units < cLine) : OpR X (compareOp .LtE) (rO (tb X n) leO) := by
  rintro pins s σ H x y v u Q I rx ry ⟨_, F, ρ, h0, dx, dy, d, S, r1, r2, e, k⟩
  cases dx with
  | int i =>
    cases dy with
    | int j =>
      cases e
      cases r1
      cases r2
      exact op_le pins s σ H _ _ v u Q I rx ry ⟨i, j, rfl, rfl, k F ρ H _ (Ext.refl _ _) S (.bl _)⟩
    | _ => cases e
  | tup a =>
    cases dy with
    | tup b =>
      unfold leO at e
      dsimp only at e
      cases e1 : asInts a with
      | none => rw [e1] at e; cases e
      | some m =>
        cases e2 : asInts b with
        | none => rw [e1, e2] at e; cases e
        | some m' =>
          rw [e1, e2] at e
          cases e
          have a1 := asInts_eq e1
          have a2 := asInts_eq e2
          subst a1 a2
          cases r1 with
          | tup h1 q1 =>
            cases r2 with
            | tup h2 q2 =>
              have b1 := Reps.of_ints q1
              have b2 := Reps.of_ints q2
              subst b1 b2
              exact op_leT hu pins s σ H _ _ v u Q I rx ry ⟨_, _, m, m', rfl, rfl, sqT_le S.le h1, sqT_le S.le h2, k F ρ H _ (Ext.refl _ _) S (.bl _)⟩
    | _ => cases e
  | _ => cases e
theorem is_ok : OpR X (compareOp .Is) (rO (tb X n) isO) := by
  rintro pins s σ H x y v u Q I rx ry ⟨_, F, ρ, h0, dx, dy, d, S, r1, r2, e, k⟩
  cases dy with
  | non =>
    have e' : d = .bl (decide (dx = .non)) := by cases dx <;> exact (Option.some.inj e).symm
    subst e'
    cases r2
    refine op_isN pins s σ H _ _ v u Q I rx ry ⟨rfl, ?_⟩
    rw [r1.non_iff]
    exact k F ρ H _ (Ext.refl _ _) S (.bl _)
  | bl b =>
    cases dx with
    | bl a =>
      cases e
      cases r1
      cases r2
      exact op_isBl pins s σ H _ _ v u Q I rx ry ⟨a, b, rfl, rfl, k F ρ H _ (Ext.refl _ _) S (.bl _)⟩
    | _ => cases e
  | _ => cases dx <;> cases e
theorem isNot_ok : OpR X (compareOp .IsNot) (rO (tb X n) isNotO) := by
  rintro pins s σ H x y v u Q I rx ry ⟨_, F, ρ, h0, dx, dy, d, S, r1, r2, e, k⟩
  cases dy with
  | non =>
    have e' : d = .bl (!decide (dx = .non)) := by cases dx <;> exact (Option.some.inj e).symm
    subst e'
    cases r2
    refine op_notN pins s σ H _ _ v u Q I rx ry ⟨rfl, ?_⟩
    rw [r1.non_iff]
    exact k F ρ H _ (Ext.refl _ _) S (.bl _)
  | bl b =>
    cases dx with
    | bl a =>
      cases e
      cases r1
      cases r2
      exact op_notBl pins s σ H _ _ v u Q I rx ry ⟨a, b, rfl, rfl, k F ρ H _ (Ext.refl _ _) S (.bl _)⟩
    | _ => cases e
  | _ => cases dx <;> cases e
theorem eq_ok (hu : X.A.units + 64 < cLine) : OpR X (compareOp .Eq) (rO (tb X n) eqO) := by
  rintro pins s σ H x y v u Q I rx ry ⟨_, F, ρ, h0, dx, dy, d, S, r1, r2, e, k⟩
  unfold eqO at e
  cases e1 : toPy h0 dx with
  | none => rw [e1] at e; cases e
  | some a =>
    cases e2 : toPy h0 dy with
    | none => rw [e1, e2] at e; cases e
    | some b =>
      rw [e1, e2] at e
      dsimp only at e
      split at e
      · rename_i hs
        cases e
        obtain ⟨s1, s2⟩ := Bool.and_eq_true_iff.mp hs
        exact op_eqD hu pins s σ H _ _ v u Q I rx ry ⟨a, b, toPy_dp S r1 e1, toPy_dp S r2 e2, s1, s2, k F ρ H _ (Ext.refl _ _) S (.bl _)⟩
      · cases e
theorem ne_ok (hu : X.A.units + 64 < cLine) : OpR X (compareOp .NotEq) (rO (tb X n) neO) := by
  rintro pins s σ H x y v u Q I rx ry ⟨_, F, ρ, h0, dx, dy, d, S, r1, r2, e, k⟩
  unfold neO at e
  cases e1 : toPy h0 dx with
  | none => rw [e1] at e; cases e
  | some a =>
    cases e2 : toPy h0 dy with
    | none => rw [e1, e2] at e; cases e
    | some b =>
      rw [e1, e2] at e
      dsimp only at e
      split at e
      · rename_i hs
        cases e
        obtain ⟨s1, s2⟩ := Bool.and_eq_true_iff.mp hs
        exact op_neD hu pins s σ H _ _ v u Q I rx ry ⟨a, b, toPy_dp S r1 e1, toPy_dp S r2 e2, s1, s2, k F ρ H _ (Ext.refl _ _) S (.bl _)⟩
      · cases e
end
end MI

/-! MI, part C: dicts whose keys are numbers, texts, None and tuples of such, mixed. -/
namespace MI
open PySem PySem.Spec L2

/-- the keys of a dict's entries, side by side -/
structure KeysN (w : World) (h : Heap) (es : Array DictEntry) (ks : List NestedKey) : Prop where
  len : es.size = ks.length
  ent : ∀ (j : Nat) (k : NestedKey) (e : DictEntry), ks[j]? = some k → es[j]? = some e → e.hash = k.hash w ∧ NestedIs h k e.key ∧ k.depth ≤ 8
  nd : ks.Nodup

section
variable {P : Program} {w : World} {A : Around} {E : Value → Shared → Prop} {s : Shared}
theorem KeysN.both {h : Heap} {es : Array DictEntry} {ks : List NestedKey} (K : KeysN w h es ks) {j : Nat} (hj : j < es.size) : ∃ k, ks[j]? = some k ∧ es[j].hash = k.hash w ∧ NestedIs h k es[j].key ∧ k.depth ≤ 8 := by
  have hj' : j < ks.length := by rw [← K.len]; exact hj
  refine ⟨ks[j], List.getElem?_eq_getElem hj', K.ent j _ _ (List.getElem?_eq_getElem hj') (Array.getElem?_eq_getElem hj)⟩
theorem KeysN.mem {h : Heap} {es : Array DictEntry} {ks : List NestedKey} (K : KeysN w h es ks) {e : DictEntry} (he : e ∈ es) : ∃ k, k ∈ ks ∧ e.hash = k.hash w ∧ NestedIs h k e.key ∧ k.depth ≤ 8 := by
  obtain ⟨j, hj, rfl⟩ := Array.mem_iff_getElem.mp he
  obtain ⟨k, e1, r⟩ := K.both hj
  exact ⟨k, List.mem_of_getElem? e1, r⟩
/-- == of two keys, asked -/
theorem eqBool_key {x y : NestedKey} {a b : Value} {Q : Bool → Shared → Prop} (hu : A.units + 8 < cLine) (hx : NestedIs s.heap x a) (hy : NestedIs s.heap y b) (dy : y.depth ≤ 8) (h : Q (decide (x = y)) s) : wpAny (model P w) A (eqBool a b) Q E s :=
  eqAt_key x y A s a b hx hy (by omega) _ _ _ _ (by rw [← NestedKey.decide_eq]; exact h)

theorem tells_not {key : Value} {k : NestedKey} {stored : List Value} {Q : Bool → Shared → Prop} (hkey : NestedIs s.heap k key) (dk : k.depth ≤ 8) (hst : ∀ v ∈ stored, ∃ k', NestedIs s.heap k' v ∧ k'.depth ≤ 8) (h : Q false s) :
    wpAny (model P w) A (tableMayTell key stored) Q E s := by
  unfold tableMayTell
  split
  · exact wpAny_pure h
  · refine wpAny_bind (quiet_key k key 8 s hkey dk _ _ _ ?_)
    simp only [Bool.not_true, Bool.false_eq_true, if_false]
    refine wpAny_bind ?_
    refine wpAny_forIn_list _ (fun rest r s' => s' = s ∧ r = (none, ()) ∧ ∀ v ∈ rest, ∃ k', NestedIs s.heap k' v ∧ k'.depth ≤ 8) _ ?_ ?_ _ _ ⟨rfl, rfl, hst⟩
    · rintro x rest r s' ⟨rfl, rfl, hr⟩
      obtain ⟨k', hb, db⟩ := hr x List.mem_cons_self
      refine wpAny_bind (quiet_key k' x 8 s' hb db _ _ _ ?_)
      simp only [Bool.not_true, Bool.false_eq_true, if_false]
      exact wpAny_pure ⟨rfl, rfl, fun v hv => hr v (List.mem_cons_of_mem _ hv)⟩
    · rintro r s' ⟨rfl, rfl, _⟩
      exact wpAny_pure h

theorem ite_wp {M : Model} {α : Type} {c : Prop} [Decidable c] {a b : Sem α} {Q : α → Shared → Prop} {E : Value → Shared → Prop} {A : Around} {s : Shared} (h1 : c → wpAny M A a Q E s) (h2 : ¬ c → wpAny M A b Q E s) : wpAny M A (if c then a else b) Q E s := by
  by_cases h : c
  · rw [if_pos h]; exact h1 h
  · rw [if_neg h]; exact h2 h
/-- where the keys of one hash stand, from a place on -/
def plc (es : Array DictEntry) (hh : Int) (i : Nat) : List Nat := (List.range' i (es.size - i)).filter fun i => (es[i]?.map (·.hash)) == some hh

theorem find_key {d : Addr} {o : Obj} {es : Array DictEntry} {ep : Nat} {ks : List NestedKey} {k : NestedKey} {key : Value} {Q : Option Nat → Shared → Prop} (hu : A.units + 8 < cLine) (hkey : NestedIs s.heap k key) (dk : k.depth ≤ 8)
    (ho : s.heap.get? d = some o) (hd : o.data = .dict es ep) (K : KeysN w s.heap es ks)
    (hnone : k ∉ ks → Q none s) (hsome : ∀ j : Nat, ks[j]? = some k → Q (some j) s) :
    wpAny (model P w) A (dictFind d key (k.hash w)) Q E s := by
  have uniq : ∀ {i j : Nat}, ks[i]? = some k → ks[j]? = some k → i = j := fun {i j} h1 h2 => nd_getK K.nd h1 h2
  have haskey : ∀ j : Nat, ks[j]? = some k → ((es[j]?.map (·.hash)) == some (k.hash w)) = true := fun j hj => by
    have hl : j < es.size := by rw [K.len]; exact (List.getElem?_eq_some_iff.mp hj).1
    obtain ⟨k', e1, e2, _⟩ := K.both hl
    rw [hj] at e1
    cases e1
    rw [Array.getElem?_eq_getElem hl, Option.map_some, e2]
    simp
  have nomem : (∀ j : Nat, ks[j]? ≠ some k) → k ∉ ks := fun h hm => by
    obtain ⟨j, hj⟩ := List.mem_iff_getElem?.mp hm
    exact h j hj
  have hst : ∀ v ∈ (placesWithHash es.size (fun i => es[i]?.map (·.hash)) (k.hash w)).filterMap (fun i => es[i]?.map (·.key)), ∃ k', NestedIs s.heap k' v ∧ k'.depth ≤ 8 := by
    intro v hv
    obtain ⟨i, _, hi⟩ := List.mem_filterMap.mp hv
    cases hei : es[i]? with
    | none => rw [hei] at hi; cases hi
    | some e =>
      rw [hei] at hi
      obtain rfl : e.key = v := by simpa using hi
      obtain ⟨k', _, _, r, dr⟩ := K.mem (Array.mem_of_getElem? hei)
      exact ⟨k', r, dr⟩
  have hpl : placesWithHash es.size (fun i => es[i]?.map (·.hash)) (k.hash w) = plc es (k.hash w) 0 := by unfold placesWithHash plc; rw [List.range_eq_range', Nat.sub_zero]
  -- one turn of a search
  have turn : ∀ {i x : Nat} {rest : List Nat}, x :: rest = plc es (k.hash w) i → i ≤ es.size → x < es.size ∧ i ≤ x ∧ rest = plc es (k.hash w) (x + 1) ∧ ∀ j : Nat, i ≤ j → j < x → ks[j]? ≠ some k := by
    intro i x rest hr hi
    obtain ⟨hix, hxn, hpx, hskip, hrest⟩ := filter_range'_cons _ _ _ _ _ hr.symm
    refine ⟨by omega, hix, by rw [hrest]; unfold plc; congr 2; omega, fun j h1 h2 hj => ?_⟩
    have := hskip j h1 h2
    rw [haskey j hj] at this
    cases this
  have stop : ∀ {i : Nat}, [] = plc es (k.hash w) i → ∀ j : Nat, i ≤ j → ks[j]? ≠ some k := by
    intro i hr j h1 hj
    have hl : j < es.size := by rw [K.len]; exact (List.getElem?_eq_some_iff.mp hj).1
    have := List.filter_eq_nil_iff.mp hr.symm j (List.mem_range'_1.mpr ⟨h1, by omega⟩)
    exact this (haskey j hj)
  have ext : ∀ {i x : Nat}, (∀ j : Nat, j < i → ks[j]? ≠ some k) → (∀ j : Nat, i ≤ j → j < x → ks[j]? ≠ some k) → ∀ j : Nat, j < x → ks[j]? ≠ some k := fun h1 h2 j hj => by
    rename_i i x
    rcases Nat.lt_or_ge j i with h | h
    · exact h1 j h
    · exact h2 j h hj
  have next : ∀ {x : Nat} {k' : NestedKey}, ks[x]? = some k' → k' ≠ k → (∀ j : Nat, j < x → ks[j]? ≠ some k) → ∀ j : Nat, j < x + 1 → ks[j]? ≠ some k := fun {x k'} e1 ne h1 j hj hjk => by
    rcases Nat.lt_or_ge j x with h | h
    · exact h1 j h hjk
    · have : j = x := by omega
      subst this
      rw [e1] at hjk
      cases hjk
      exact ne rfl
  have plain : wpAny (model P w) A (dictWalkPlain d key (k.hash w) es (placesWithHash es.size (fun i => es[i]?.map (·.hash)) (k.hash w))) Q E s := by
    rw [hpl]
    unfold dictWalkPlain
    refine wpAny_bind ?_
    refine wpAny_forIn_list _ (fun rest b s' => s' = s ∧ b = (none, ()) ∧ ∃ i : Nat, rest = plc es (k.hash w) i ∧ i ≤ es.size ∧ ∀ j : Nat, j < i → ks[j]? ≠ some k) _ ?_ ?_ _ _ ⟨rfl, rfl, 0, rfl, Nat.zero_le _, fun _ h => absurd h (Nat.not_lt_zero _)⟩
    · rintro x rest b s' ⟨rfl, rfl, i, hr, hi, hno⟩
      obtain ⟨hlt, hix, hrest, hskip⟩ := turn hr hi
      obtain ⟨k', e1, e2, r, dr⟩ := K.both hlt
      have hx := ext hno hskip
      simp only [Array.getElem?_eq_getElem hlt]
      by_cases hh : (es[x].hash == k.hash w) = true
      · rw [if_pos hh]
        refine wpAny_bind (wpAny_dictEpoch ho hd (wpAny_bind (eqBool_key hu r hkey dk (wpAny_bind (wpAny_dictEpoch ho hd ?_)))))
        show wpAny _ _ (if (ep != ep) = true then _ else _) _ E _
        rw [if_neg (by simp)]
        by_cases hkk : k' = k
        · rw [decide_eq_true hkk]
          subst hkk
          exact wpAny_bind (wpAny_rule (wpAny_pure (wpAny_pure (hsome x e1))))
        · rw [decide_eq_false hkk]
          exact wpAny_bind (wpAny_rule (wpAny_pure ⟨rfl, rfl, x + 1, hrest, hlt, next e1 hkk hx⟩))
      · rw [if_neg hh]
        refine wpAny_pure ⟨rfl, rfl, x + 1, hrest, hlt, next e1 (fun e => ?_) hx⟩
        subst e
        rw [e2] at hh
        simp at hh
    · rintro b s' ⟨rfl, rfl, i, hr, hi, hno⟩
      refine wpAny_pure (hnone (nomem fun j hj => ?_))
      rcases Nat.lt_or_ge j i with h | h
      · exact hno j h hj
      · exact stop hr j h hj
  have found : ∀ (x : Str) (t : Tok), key = .str x t → wpAny (model P w) A (foundByValue d key es x) Q E s := by
    rintro x t rfl
    have ek : k = .text x := by cases hkey; rfl
    subst ek
    have hs : ∀ j (hj : j < es.size), es[j].key.isStr x = true ↔ ks[j]? = some (.text x) := fun j hj => by
      obtain ⟨k', e1, _, r, _⟩ := K.both hj
      constructor
      · intro h1
        cases hk : es[j].key with
        | str y t' =>
          rw [hk] at h1 r
          have : y = x := by simpa [Value.isStr] using h1
          subst this
          cases r
          exact e1
        | _ => rw [hk] at h1; cases h1
      · intro h1
        rw [e1] at h1
        cases h1
        cases hk : es[j].key with
        | str y t' =>
          rw [hk] at r
          cases r
          simp [Value.isStr]
        | _ => rw [hk] at r; cases r
    unfold foundByValue
    cases hf : es.findIdx? (fun e => e.key.isStr x) with
    | none =>
      refine wpAny_pure (hnone (nomem fun j hj => ?_))
      have hl : j < es.size := by rw [K.len]; exact (List.getElem?_eq_some_iff.mp hj).1
      have := Array.findIdx?_eq_none_iff.mp hf es[j] (Array.getElem_mem hl)
      rw [(hs j hl).mpr hj] at this
      cases this
    | some j =>
      obtain ⟨hl, h1, _⟩ := Array.findIdx?_eq_some_iff_getElem.mp hf
      obtain ⟨k', e1, _, r, _⟩ := K.both hl
      have e2 := (hs j hl).mp h1
      rw [e1] at e2
      cases e2
      simp only [Array.getElem?_eq_getElem hl]
      refine wpAny_bind (wpAny_dictEpoch ho hd (wpAny_bind (eqBool_key hu r hkey dk (wpAny_bind (wpAny_dictEpoch ho hd ?_)))))
      show wpAny _ _ (if (ep != ep) = true then _ else _) _ E _
      rw [if_neg (by simp)]
      rw [decide_eq_true rfl]
      exact wpAny_bind (wpAny_rule (wpAny_pure (hsome j e1)))
  have hany : ∀ a : Addr, key = .ref a → ¬ (es.any fun e => e.key == Value.ref a && e.hash != k.hash w) = true := by
    rintro a rfl
    rw [← Array.any_toList, List.any_eq_true]
    rintro ⟨e, hin, hc⟩
    obtain ⟨k', _, e2, r, _⟩ := K.mem (Array.mem_toList_iff.mp hin)
    simp only [Bool.and_eq_true, beq_iff_eq, bne_iff_ne, ne_eq] at hc
    rw [hc.1] at r
    rw [NestedIs.inj _ _ _ r hkey] at e2
    exact hc.2 e2
  unfold dictFind
  try with_reducible refine wpAny_holding ?_
  refine wpAny_bind (wpAny_dictEntries ho hd ?_)
  rw [hpl] at plain hst
  cases key with
  | str z t =>
    dsimp only
    refine ite_wp (fun _ => found z t rfl) fun _ => ?_
    rw [hpl]
    refine ite_wp (fun _ => plain) fun _ => ?_
    all_goals refine ite_wp (fun _ => ?_) fun _ => ?_
    all_goals (
      first
        | refine wpAny_bind (wpAny_pure ?_)
        | refine wpAny_bind (tells_not hkey dk hst ?_)
      rw [if_neg (by simp)]
      refine wpAny_bind ?_
      refine wpAny_forIn_list _ (fun rest b s' => s' = s ∧ ∃ (i : Nat) (hit : Option Nat), b = (none, hit) ∧ rest = plc es (k.hash w) i ∧ i ≤ es.size ∧ ((hit = none ∧ ∀ j : Nat, j < i → ks[j]? ≠ some k) ∨ ∃ j : Nat, hit = some j ∧ j < i ∧ ks[j]? = some k)) _ ?_ ?_ _ _
        ⟨rfl, 0, none, rfl, rfl, Nat.zero_le _, .inl ⟨rfl, fun _ h => absurd h (Nat.not_lt_zero _)⟩⟩
      · rintro x rest b s' ⟨rfl, i, hit, rfl, hr, hi, hH⟩
        obtain ⟨hlt, hix, hrest, hskip⟩ := turn hr hi
        obtain ⟨k', e1, e2, r, dr⟩ := K.both hlt
        have hHx : (hit = none ∧ ∀ j : Nat, j < x → ks[j]? ≠ some k) ∨ ∃ j : Nat, hit = some j ∧ j < x ∧ ks[j]? = some k := by
          rcases hH with ⟨h0, hno⟩ | ⟨j, h1, hji, hj⟩
          · exact .inl ⟨h0, ext hno hskip⟩
          · exact .inr ⟨j, h1, by omega, hj⟩
        have hstay : k' ≠ k → (hit = none ∧ ∀ j : Nat, j < x + 1 → ks[j]? ≠ some k) ∨ ∃ j : Nat, hit = some j ∧ j < x + 1 ∧ ks[j]? = some k := by
          intro ne
          rcases hHx with ⟨h0, hno⟩ | ⟨j, h1, hji, hj⟩
          · exact .inl ⟨h0, next e1 ne hno⟩
          · exact .inr ⟨j, h1, by omega, hj⟩
        simp only [Array.getElem?_eq_getElem hlt]
        refine ite_wp (fun hh => ?_) fun hh => ?_
        · refine wpAny_bind (wpAny_dictEpoch ho hd (wpAny_bind (eqBool_key hu r hkey dk (wpAny_bind (wpAny_dictEpoch ho hd ?_)))))
          rw [if_neg (by simp)]
          by_cases hkk : k' = k
          · rw [decide_eq_true hkk]
            subst hkk
            rcases hHx with ⟨rfl, _⟩ | ⟨j, _, hji, hj⟩
            · simp only [Option.isSome_none, Bool.false_eq_true, if_false, if_true]
              refine wpAny_bind (wpAny_rule ?_)
              refine ite_wp (fun _ => ?_) fun _ => ?_
              · exact wpAny_pure (wpAny_pure (hsome x e1))
              · exact wpAny_pure ⟨rfl, x + 1, some x, rfl, hrest, hlt, .inr ⟨x, rfl, Nat.lt_succ_self x, e1⟩⟩
            · exact absurd (uniq hj e1) (by omega)
          · rw [decide_eq_false hkk]
            simp only [Bool.false_eq_true, if_false, Bool.false_and]
            refine wpAny_bind (wpAny_rule ?_)
            exact wpAny_pure ⟨rfl, x + 1, hit, rfl, hrest, hlt, hstay hkk⟩
        · refine wpAny_pure ⟨rfl, x + 1, hit, rfl, hrest, hlt, hstay fun e => ?_⟩
          subst e
          rw [e2] at hh
          simp at hh
      · rintro b s' ⟨rfl, i, hit, rfl, hr, hi, hH⟩
        rcases hH with ⟨rfl, hno⟩ | ⟨j, rfl, hji, hj⟩
        · refine wpAny_pure (hnone (nomem fun j hj => ?_))
          rcases Nat.lt_or_ge j i with h | h
          · exact hno j h hj
          · exact stop hr j h hj
        · exact wpAny_pure (hsome j hj))
  | ref a =>
    dsimp only
    rw [hpl]
    refine ite_wp (fun _ => plain) fun _ => ?_
    rw [if_neg (hany a rfl)]
    all_goals refine ite_wp (fun _ => ?_) fun _ => ?_
    all_goals (
      first
        | refine wpAny_bind (wpAny_pure ?_)
        | refine wpAny_bind (tells_not hkey dk hst ?_)
      rw [if_neg (by simp)]
      refine wpAny_bind ?_
      refine wpAny_forIn_list _ (fun rest b s' => s' = s ∧ ∃ (i : Nat) (hit : Option Nat), b = (none, hit) ∧ rest = plc es (k.hash w) i ∧ i ≤ es.size ∧ ((hit = none ∧ ∀ j : Nat, j < i → ks[j]? ≠ some k) ∨ ∃ j : Nat, hit = some j ∧ j < i ∧ ks[j]? = some k)) _ ?_ ?_ _ _
        ⟨rfl, 0, none, rfl, rfl, Nat.zero_le _, .inl ⟨rfl, fun _ h => absurd h (Nat.not_lt_zero _)⟩⟩
      · rintro x rest b s' ⟨rfl, i, hit, rfl, hr, hi, hH⟩
        obtain ⟨hlt, hix, hrest, hskip⟩ := turn hr hi
        obtain ⟨k', e1, e2, r, dr⟩ := K.both hlt
        have hHx : (hit = none ∧ ∀ j : Nat, j < x → ks[j]? ≠ some k) ∨ ∃ j : Nat, hit = some j ∧ j < x ∧ ks[j]? = some k := by
          rcases hH with ⟨h0, hno⟩ | ⟨j, h1, hji, hj⟩
          · exact .inl ⟨h0, ext hno hskip⟩
          · exact .inr ⟨j, h1, by omega, hj⟩
        have hstay : k' ≠ k → (hit = none ∧ ∀ j : Nat, j < x + 1 → ks[j]? ≠ some k) ∨ ∃ j : Nat, hit = some j ∧ j < x + 1 ∧ ks[j]? = some k := by
          intro ne
          rcases hHx with ⟨h0, hno⟩ | ⟨j, h1, hji, hj⟩
          · exact .inl ⟨h0, next e1 ne hno⟩
          · exact .inr ⟨j, h1, by omega, hj⟩
        simp only [Array.getElem?_eq_getElem hlt]
        refine ite_wp (fun hh => ?_) fun hh => ?_
        · refine wpAny_bind (wpAny_dictEpoch ho hd (wpAny_bind (eqBool_key hu r hkey dk (wpAny_bind (wpAny_dictEpoch ho hd ?_)))))
          rw [if_neg (by simp)]
          by_cases hkk : k' = k
          · rw [decide_eq_true hkk]
            subst hkk
            rcases hHx with ⟨rfl, _⟩ | ⟨j, _, hji, hj⟩
            · simp only [Option.isSome_none, Bool.false_eq_true, if_false, if_true]
              refine wpAny_bind (wpAny_rule ?_)
              refine ite_wp (fun _ => ?_) fun _ => ?_
              · exact wpAny_pure (wpAny_pure (hsome x e1))
              · exact wpAny_pure ⟨rfl, x + 1, some x, rfl, hrest, hlt, .inr ⟨x, rfl, Nat.lt_succ_self x, e1⟩⟩
            · exact absurd (uniq hj e1) (by omega)
          · rw [decide_eq_false hkk]
            simp only [Bool.false_eq_true, if_false, Bool.false_and]
            refine wpAny_bind (wpAny_rule ?_)
            exact wpAny_pure ⟨rfl, x + 1, hit, rfl, hrest, hlt, hstay hkk⟩
        · refine wpAny_pure ⟨rfl, x + 1, hit, rfl, hrest, hlt, hstay fun e => ?_⟩
          subst e
          rw [e2] at hh
          simp at hh
      · rintro b s' ⟨rfl, i, hit, rfl, hr, hi, hH⟩
        rcases hH with ⟨rfl, hno⟩ | ⟨j, rfl, hji, hj⟩
        · refine wpAny_pure (hnone (nomem fun j hj => ?_))
          rcases Nat.lt_or_ge j i with h | h
          · exact hno j h hj
          · exact stop hr j h hj
        · exact wpAny_pure (hsome j hj))
  | none =>
    dsimp only
    rw [hpl]
    refine ite_wp (fun _ => plain) fun _ => ?_
    all_goals refine ite_wp (fun _ => ?_) fun _ => ?_
    all_goals (
      first
        | refine wpAny_bind (wpAny_pure ?_)
        | refine wpAny_bind (tells_not hkey dk hst ?_)
      rw [if_neg (by simp)]
      refine wpAny_bind ?_
      refine wpAny_forIn_list _ (fun rest b s' => s' = s ∧ ∃ (i : Nat) (hit : Option Nat), b = (none, hit) ∧ rest = plc es (k.hash w) i ∧ i ≤ es.size ∧ ((hit = none ∧ ∀ j : Nat, j < i → ks[j]? ≠ some k) ∨ ∃ j : Nat, hit = some j ∧ j < i ∧ ks[j]? = some k)) _ ?_ ?_ _ _
        ⟨rfl, 0, none, rfl, rfl, Nat.zero_le _, .inl ⟨rfl, fun _ h => absurd h (Nat.not_lt_zero _)⟩⟩
      · rintro x rest b s' ⟨rfl, i, hit, rfl, hr, hi, hH⟩
        obtain ⟨hlt, hix, hrest, hskip⟩ := turn hr hi
        obtain ⟨k', e1, e2, r, dr⟩ := K.both hlt
        have hHx : (hit = none ∧ ∀ j : Nat, j < x → ks[j]? ≠ some k) ∨ ∃ j : Nat, hit = some j ∧ j < x ∧ ks[j]? = some k := by
          rcases hH with ⟨h0, hno⟩ | ⟨j, h1, hji, hj⟩
          · exact .inl ⟨h0, ext hno hskip⟩
          · exact .inr ⟨j, h1, by omega, hj⟩
        have hstay : k' ≠ k → (hit = none ∧ ∀ j : Nat, j < x + 1 → ks[j]? ≠ some k) ∨ ∃ j : Nat, hit = some j ∧ j < x + 1 ∧ ks[j]? = some k := by
          intro ne
          rcases hHx with ⟨h0, hno⟩ | ⟨j, h1, hji, hj⟩
          · exact .inl ⟨h0, next e1 ne hno⟩
          · exact .inr ⟨j, h1, by omega, hj⟩
        simp only [Array.getElem?_eq_getElem hlt]
        refine ite_wp (fun hh => ?_) fun hh => ?_
        · refine wpAny_bind (wpAny_dictEpoch ho hd (wpAny_bind (eqBool_key hu r hkey dk (wpAny_bind (wpAny_dictEpoch ho hd ?_)))))
          rw [if_neg (by simp)]
          by_cases hkk : k' = k
          · rw [decide_eq_true hkk]
            subst hkk
            rcases hHx with ⟨rfl, _⟩ | ⟨j, _, hji, hj⟩
            · simp only [Option.isSome_none, Bool.false_eq_true, if_false, if_true]
              refine wpAny_bind (wpAny_rule ?_)
              refine ite_wp (fun _ => ?_) fun _ => ?_
              · exact wpAny_pure (wpAny_pure (hsome x e1))
              · exact wpAny_pure ⟨rfl, x + 1, some x, rfl, hrest, hlt, .inr ⟨x, rfl, Nat.lt_succ_self x, e1⟩⟩
            · exact absurd (uniq hj e1) (by omega)
          · rw [decide_eq_false hkk]
            simp only [Bool.false_eq_true, if_false, Bool.false_and]
            refine wpAny_bind (wpAny_rule ?_)
            exact wpAny_pure ⟨rfl, x + 1, hit, rfl, hrest, hlt, hstay hkk⟩
        · refine wpAny_pure ⟨rfl, x + 1, hit, rfl, hrest, hlt, hstay fun e => ?_⟩
          subst e
          rw [e2] at hh
          simp at hh
      · rintro b s' ⟨rfl, i, hit, rfl, hr, hi, hH⟩
        rcases hH with ⟨rfl, hno⟩ | ⟨j, rfl, hji, hj⟩
        · refine wpAny_pure (hnone (nomem fun j hj => ?_))
          rcases Nat.lt_or_ge j i with h | h
          · exact hno j h hj
          · exact stop hr j h hj
        · exact wpAny_pure (hsome j hj))
  | bool b =>
    dsimp only
    rw [hpl]
    refine ite_wp (fun _ => plain) fun _ => ?_
    all_goals refine ite_wp (fun _ => ?_) fun _ => ?_
    all_goals (
      first
        | refine wpAny_bind (wpAny_pure ?_)
        | refine wpAny_bind (tells_not hkey dk hst ?_)
      rw [if_neg (by simp)]
      refine wpAny_bind ?_
      refine wpAny_forIn_list _ (fun rest b s' => s' = s ∧ ∃ (i : Nat) (hit : Option Nat), b = (none, hit) ∧ rest = plc es (k.hash w) i ∧ i ≤ es.size ∧ ((hit = none ∧ ∀ j : Nat, j < i → ks[j]? ≠ some k) ∨ ∃ j : Nat, hit = some j ∧ j < i ∧ ks[j]? = some k)) _ ?_ ?_ _ _
        ⟨rfl, 0, none, rfl, rfl, Nat.zero_le _, .inl ⟨rfl, fun _ h => absurd h (Nat.not_lt_zero _)⟩⟩
      · rintro x rest b s' ⟨rfl, i, hit, rfl, hr, hi, hH⟩
        obtain ⟨hlt, hix, hrest, hskip⟩ := turn hr hi
        obtain ⟨k', e1, e2, r, dr⟩ := K.both hlt
        have hHx : (hit = none ∧ ∀ j : Nat, j < x → ks[j]? ≠ some k) ∨ ∃ j : Nat, hit = some j ∧ j < x ∧ ks[j]? = some k := by
          rcases hH with ⟨h0, hno⟩ | ⟨j, h1, hji, hj⟩
          · exact .inl ⟨h0, ext hno hskip⟩
          · exact .inr ⟨j, h1, by omega, hj⟩
        have hstay : k' ≠ k → (hit = none ∧ ∀ j : Nat, j < x + 1 → ks[j]? ≠ some k) ∨ ∃ j : Nat, hit = some j ∧ j < x + 1 ∧ ks[j]? = some k := by
          intro ne
          rcases hHx with ⟨h0, hno⟩ | ⟨j, h1, hji, hj⟩
          · exact .inl ⟨h0, next e1 ne hno⟩
          · exact .inr ⟨j, h1, by omega, hj⟩
        simp only [Array.getElem?_eq_getElem hlt]
        refine ite_wp (fun hh => ?_) fun hh => ?_
        · refine wpAny_bind (wpAny_dictEpoch ho hd (wpAny_bind (eqBool_key hu r hkey dk (wpAny_bind (wpAny_dictEpoch ho hd ?_)))))
          rw [if_neg (by simp)]
          by_cases hkk : k' = k
          · rw [decide_eq_true hkk]
            subst hkk
            rcases hHx with ⟨rfl, _⟩ | ⟨j, _, hji, hj⟩
            · simp only [Option.isSome_none, Bool.false_eq_true, if_false, if_true]
              refine wpAny_bind (wpAny_rule ?_)
              refine ite_wp (fun _ => ?_) fun _ => ?_
              · exact wpAny_pure (wpAny_pure (hsome x e1))
              · exact wpAny_pure ⟨rfl, x + 1, some x, rfl, hrest, hlt, .inr ⟨x, rfl, Nat.lt_succ_self x, e1⟩⟩
            · exact absurd (uniq hj e1) (by omega)
          · rw [decide_eq_false hkk]
            simp only [Bool.false_eq_true, if_false, Bool.false_and]
            refine wpAny_bind (wpAny_rule ?_)
            exact wpAny_pure ⟨rfl, x + 1, hit, rfl, hrest, hlt, hstay hkk⟩
        · refine wpAny_pure ⟨rfl, x + 1, hit, rfl, hrest, hlt, hstay fun e => ?_⟩
          subst e
          rw [e2] at hh
          simp at hh
      · rintro b s' ⟨rfl, i, hit, rfl, hr, hi, hH⟩
        rcases hH with ⟨rfl, hno⟩ | ⟨j, rfl, hji, hj⟩
        · refine wpAny_pure (hnone (nomem fun j hj => ?_))
          rcases Nat.lt_or_ge j i with h | h
          · exact hno j h hj
          · exact stop hr j h hj
        · exact wpAny_pure (hsome j hj))
  | int i t =>
    dsimp only
    rw [hpl]
    refine ite_wp (fun _ => plain) fun _ => ?_
    all_goals refine ite_wp (fun _ => ?_) fun _ => ?_
    all_goals (
      first
        | refine wpAny_bind (wpAny_pure ?_)
        | refine wpAny_bind (tells_not hkey dk hst ?_)
      rw [if_neg (by simp)]
      refine wpAny_bind ?_
      refine wpAny_forIn_list _ (fun rest b s' => s' = s ∧ ∃ (i : Nat) (hit : Option Nat), b = (none, hit) ∧ rest = plc es (k.hash w) i ∧ i ≤ es.size ∧ ((hit = none ∧ ∀ j : Nat, j < i → ks[j]? ≠ some k) ∨ ∃ j : Nat, hit = some j ∧ j < i ∧ ks[j]? = some k)) _ ?_ ?_ _ _
        ⟨rfl, 0, none, rfl, rfl, Nat.zero_le _, .inl ⟨rfl, fun _ h => absurd h (Nat.not_lt_zero _)⟩⟩
      · rintro x rest b s' ⟨rfl, i, hit, rfl, hr, hi, hH⟩
        obtain ⟨hlt, hix, hrest, hskip⟩ := turn hr hi
        obtain ⟨k', e1, e2, r, dr⟩ := K.both hlt
        have hHx : (hit = none ∧ ∀ j : Nat, j < x → ks[j]? ≠ some k) ∨ ∃ j : Nat, hit = some j ∧ j < x ∧ ks[j]? = some k := by
          rcases hH with ⟨h0, hno⟩ | ⟨j, h1, hji, hj⟩
          · exact .inl ⟨h0, ext hno hskip⟩
          · exact .inr ⟨j, h1, by omega, hj⟩
        have hstay : k' ≠ k → (hit = none ∧ ∀ j : Nat, j < x + 1 → ks[j]? ≠ some k) ∨ ∃ j : Nat, hit = some j ∧ j < x + 1 ∧ ks[j]? = some k := by
          intro ne
          rcases hHx with ⟨h0, hno⟩ | ⟨j, h1, hji, hj⟩
          · exact .inl ⟨h0, next e1 ne hno⟩
          · exact .inr ⟨j, h1, by omega, hj⟩
        simp only [Array.getElem?_eq_getElem hlt]
        refine ite_wp (fun hh => ?_) fun hh => ?_
        · refine wpAny_bind (wpAny_dictEpoch ho hd (wpAny_bind (eqBool_key hu r hkey dk (wpAny_bind (wpAny_dictEpoch ho hd ?_)))))
          rw [if_neg (by simp)]
          by_cases hkk : k' = k
          · rw [decide_eq_true hkk]
            subst hkk
            rcases hHx with ⟨rfl, _⟩ | ⟨j, _, hji, hj⟩
            · simp only [Option.isSome_none, Bool.false_eq_true, if_false, if_true]
              refine wpAny_bind (wpAny_rule ?_)
              refine ite_wp (fun _ => ?_) fun _ => ?_
              · exact wpAny_pure (wpAny_pure (hsome x e1))
              · exact wpAny_pure ⟨rfl, x + 1, some x, rfl, hrest, hlt, .inr ⟨x, rfl, Nat.lt_succ_self x, e1⟩⟩
            · exact absurd (uniq hj e1) (by omega)
          · rw [decide_eq_false hkk]
            simp only [Bool.false_eq_true, if_false, Bool.false_and]
            refine wpAny_bind (wpAny_rule ?_)
            exact wpAny_pure ⟨rfl, x + 1, hit, rfl, hrest, hlt, hstay hkk⟩
        · refine wpAny_pure ⟨rfl, x + 1, hit, rfl, hrest, hlt, hstay fun e => ?_⟩
          subst e
          rw [e2] at hh
          simp at hh
      · rintro b s' ⟨rfl, i, hit, rfl, hr, hi, hH⟩
        rcases hH with ⟨rfl, hno⟩ | ⟨j, rfl, hji, hj⟩
        · refine wpAny_pure (hnone (nomem fun j hj => ?_))
          rcases Nat.lt_or_ge j i with h | h
          · exact hno j h hj
          · exact stop hr j h hj
        · exact wpAny_pure (hsome j hj))
  | _ => cases hkey
where
  nd_getK {ks : List NestedKey} (nd : ks.Nodup) {i j : Nat} {a : NestedKey} (h1 : ks[i]? = some a) (h2 : ks[j]? = some a) : i = j := (List.getElem?_inj (List.getElem?_eq_some_iff.mp h1).1 nd).mp (h1.trans h2.symm)
end

/-! ### the entries by keys -/
section
variable {α : Type}
abbrev KVs (α : Type) := List (NestedKey × α × α)
def lookN (xs : KVs α) (k : NestedKey) : Option α := (xs.find? fun x => decide (x.1 = k)).map (·.2.2)
def setN (k : NestedKey) (v : α) (x : NestedKey × α × α) : NestedKey × α × α := if x.1 = k then (x.1, x.2.1, v) else x
def putN (xs : KVs α) (k : NestedKey) (key v : α) : KVs α := if k ∈ xs.map (·.1) then xs.map (setN k v) else xs ++ [(k, key, v)]
def delN (xs : KVs α) (k : NestedKey) : KVs α := xs.filter fun x => decide (x.1 ≠ k)
theorem lookN_none {xs : KVs α} {k : NestedKey} (h : k ∉ xs.map (·.1)) : lookN xs k = none := by
  unfold lookN
  rw [Option.map_eq_none_iff, List.find?_eq_none]
  intro x hx e
  exact h (List.mem_map.mpr ⟨x, hx, of_decide_eq_true e⟩)
theorem lookN_at : ∀ {xs : KVs α} {k : NestedKey} {j : Nat} {x : NestedKey × α × α}, (xs.map (·.1)).Nodup → xs[j]? = some x → x.1 = k → lookN xs k = some x.2.2
  | [], _, _, _, _, h, _ => by simp at h
  | y :: ys, k, 0, x, _, h, e => by
    simp at h
    subst h
    unfold lookN
    simp [e]
  | y :: ys, k, j + 1, x, nd, h, e => by
    rw [List.map_cons, List.nodup_cons] at nd
    have h' : ys[j]? = some x := by simpa using h
    have ne : ¬ y.1 = k := fun z => nd.1 (by rw [z, ← e]; exact List.mem_map.mpr ⟨x, List.mem_of_getElem? h', rfl⟩)
    have ih := lookN_at nd.2 h' e
    unfold lookN at ih ⊢
    rw [List.find?_cons, decide_eq_false ne]
    exact ih
theorem keys_setN (xs : KVs α) (k : NestedKey) (v : α) : (xs.map (setN k v)).map (·.1) = xs.map (·.1) := by
  rw [List.map_map]
  refine List.map_congr_left fun x _ => ?_
  show (setN k v x).1 = x.1
  unfold setN
  split <;> rfl
theorem setN_not {xs : KVs α} {k : NestedKey} {v : α} (h : k ∉ xs.map (·.1)) : xs.map (setN k v) = xs := by
  have : xs.map (setN k v) = xs.map id := List.map_congr_left fun x hx => by
    unfold setN
    rw [if_neg fun e => h (List.mem_map.mpr ⟨x, hx, e⟩)]
    rfl
  rw [this, List.map_id]
theorem modify_setN {β : Type} (f : NestedKey × α × α → β) (g : β → β) (k : NestedKey) (v : α) (hg : ∀ a b, g (f (k, a, b)) = f (k, a, v)) : ∀ {xs : KVs α} {j : Nat} {x : NestedKey × α × α}, (xs.map (·.1)).Nodup → xs[j]? = some x → x.1 = k → (xs.map f).modify j g = (xs.map (setN k v)).map f
  | [], _, _, _, h, _ => by simp at h
  | y :: ys, 0, x, nd, h, e => by
    simp at h
    subst h
    rw [List.map_cons, List.nodup_cons] at nd
    rw [List.map_cons, List.map_cons, List.map_cons, setN_not (by rw [← e]; exact nd.1)]
    unfold setN
    rw [if_pos e]
    obtain ⟨a, b, c⟩ := y
    have e' : a = k := e
    subst e'
    show g (f (a, b, c)) :: ys.map f = f (a, b, v) :: ys.map f
    rw [hg]
  | y :: ys, j + 1, x, nd, h, e => by
    rw [List.map_cons, List.nodup_cons] at nd
    have h' : ys[j]? = some x := by simpa using h
    have ne : ¬ y.1 = k := fun z => nd.1 (by rw [z, ← e]; exact List.mem_map.mpr ⟨x, List.mem_of_getElem? h', rfl⟩)
    have ih := modify_setN f g k v hg nd.2 h' e
    rw [List.map_cons, List.map_cons, List.map_cons]
    unfold setN
    rw [if_neg ne]
    show f y :: (ys.map f).modify j g = _
    rw [ih]
    rfl
theorem delN_not {xs : KVs α} {k : NestedKey} (h : k ∉ xs.map (·.1)) : delN xs k = xs := by
  unfold delN
  rw [List.filter_eq_self]
  intro x hx
  exact decide_eq_true fun e => h (List.mem_map.mpr ⟨x, hx, e⟩)
theorem erase_delN : ∀ {xs : KVs α} {k : NestedKey} {j : Nat} {x : NestedKey × α × α}, (xs.map (·.1)).Nodup → xs[j]? = some x → x.1 = k → xs.eraseIdx j = delN xs k
  | [], _, _, _, _, h, _ => by simp at h
  | y :: ys, k, 0, x, nd, h, e => by
    simp at h
    subst h
    rw [List.map_cons, List.nodup_cons] at nd
    rw [List.eraseIdx_cons_zero]
    have e2 : delN (y :: ys) k = delN ys k := by
      unfold delN
      rw [List.filter_cons_of_neg (by simp [e])]
    rw [e2, delN_not (by rw [← e]; exact nd.1)]
  | y :: ys, k, j + 1, x, nd, h, e => by
    rw [List.map_cons, List.nodup_cons] at nd
    have h' : ys[j]? = some x := by simpa using h
    have ne : ¬ y.1 = k := fun z => nd.1 (by rw [z, ← e]; exact List.mem_map.mpr ⟨x, List.mem_of_getElem? h', rfl⟩)
    rw [List.eraseIdx_cons_succ, erase_delN nd.2 h' e]
    unfold delN
    rw [List.filter_cons_of_pos (by simp [ne])]
theorem nd_delN {xs : KVs α} (nd : (xs.map (·.1)).Nodup) (k : NestedKey) : ((delN xs k).map (·.1)).Nodup := nd.sublist (List.Sublist.map _ List.filter_sublist)
theorem nd_putN {xs : KVs α} (nd : (xs.map (·.1)).Nodup) (k : NestedKey) (key v : α) : ((putN xs k key v).map (·.1)).Nodup := by
  unfold putN
  split
  · rw [keys_setN]; exact nd
  · rename_i h
    rw [List.map_append, List.nodup_append]
    refine ⟨nd, by simp, fun a ha b hb z => ?_⟩
    simp at hb
    rw [z, hb] at ha
    exact h ha
theorem map_eraseI {β : Type} (f : α → β) : ∀ (xs : List α) (j : Nat), (xs.eraseIdx j).map f = (xs.map f).eraseIdx j
  | [], _ => rfl
  | _ :: _, 0 => rfl
  | x :: xs, j + 1 => by rw [List.eraseIdx_cons_succ, List.map_cons, List.map_cons, List.eraseIdx_cons_succ, map_eraseI f xs j]
end

def ent (w : World) (x : NestedKey × Value × Value) : DictEntry := ⟨x.1.hash w, x.2.1, x.2.2⟩
/-- at d a dict of these entries -/
def DictNU (w : World) (h : Heap) (d : Addr) (xs : KVs Value) : Prop :=
  ∃ o es ep, h.get? d = some o ∧ o.ExactDict ∧ o.data = .dict es ep ∧ es.toList = xs.map (ent w) ∧ (∀ x ∈ xs, NestedIs h x.1 x.2.1 ∧ x.1.depth ≤ 8) ∧ (xs.map (·.1)).Nodup
/-- as so often changed in its keys as it has entries -/
def DictN (w : World) (h : Heap) (d : Addr) (xs : KVs Value) : Prop :=
  ∃ o es ep, h.get? d = some o ∧ o.ExactDict ∧ o.data = .dict es ep ∧ es.toList = xs.map (ent w) ∧ (∀ x ∈ xs, NestedIs h x.1 x.2.1 ∧ x.1.depth ≤ 8) ∧ (xs.map (·.1)).Nodup ∧ ep = xs.length

section
variable {P : Program} {w : World} {A : Around} {E : Value → Shared → Prop} {s : Shared} {d : Addr} {xs : KVs Value} {k : NestedKey} {key : Value}
theorem DictN.keys {h : Heap} {es : Array DictEntry} (e : es.toList = xs.map (ent w)) (hk : ∀ x ∈ xs, NestedIs h x.1 x.2.1 ∧ x.1.depth ≤ 8) (nd : (xs.map (·.1)).Nodup) : KeysN w h es (xs.map (·.1)) := by
  refine ⟨by rw [← Array.length_toList, e, List.length_map, List.length_map], fun j k' e' h1 h2 => ?_, nd⟩
  rw [List.getElem?_map, Option.map_eq_some_iff] at h1
  obtain ⟨x, h3, rfl⟩ := h1
  rw [← Array.getElem?_toList, e, List.getElem?_map, h3] at h2
  cases h2
  obtain ⟨a, b⟩ := hk x (List.mem_of_getElem? h3)
  exact ⟨rfl, a, b⟩
theorem DictN.typeIs (m : DictN w s.heap d xs) : s.TypeIs (.ref d) "dict" := let ⟨o, _, _, ho, hc, _⟩ := m; ⟨o, ho, hc.1⟩
theorem DictN.stay {h h' : Heap} (m : DictN w h d xs) (k : ∀ b o, h.get? b = some o → h'.get? b = some o) : DictN w h' d xs := by
  obtain ⟨o, es, ep, ho, hc, hd, he, hk, nd⟩ := m
  exact ⟨o, es, ep, k d o ho, hc, hd, he, fun x hx => ⟨NestedIs.at (fun a o vs n e _ => k a o e) _ _ (hk x hx).1, (hk x hx).2⟩, nd⟩
/-- a key is one still when a dict has changed -/
theorem NestedIs.but {h h' : Heap} {o : Obj} {es : Array DictEntry} {ep : Nat} {v : Value} (ho : h.get? d = some o) (hd : o.data = .dict es ep) (k : Heap.SameBut d h h') {x : NestedKey} (r : NestedIs h x v) : NestedIs h' x v :=
  NestedIs.at (fun a ob vs n e c => (k.2 a fun z => by
    subst z
    rw [ho] at e
    cases e
    rw [hd] at c
    cases c).trans e) _ _ r

theorem get_key {Q : Option Value → Shared → Prop} (hu : A.units + 8 < cLine) (hkey : NestedIs s.heap k key) (dk : k.depth ≤ 8) (m : DictN w s.heap d xs) (h : Q (lookN xs k) { s with toks := s.toks + k.draws }) : wpAny (model P w) A (dictGet d key) Q E s := by
  obtain ⟨o, es, ep, ho, _, hd, he, hk, nd, hep⟩ := m
  have KN := DictN.keys he hk nd
  unfold dictGet
  try with_reducible refine wpAny_holding ?_
  refine wpAny_bind (pyHash_key k key A s _ hkey (by omega) (wpAny_bind (find_key (s := { s with toks := s.toks + k.draws }) hu hkey dk ho hd KN (fun hno => ?_) fun j hj => ?_)))
  · rw [lookN_none hno] at h
    exact wpAny_pure h
  · rw [List.getElem?_map, Option.map_eq_some_iff] at hj
    obtain ⟨x, h3, h4⟩ := hj
    rw [lookN_at nd h3 h4] at h
    refine wpAny_bind (wpAny_dictEntries (s := { s with toks := s.toks + k.draws }) ho hd ?_)
    rw [← Array.getElem?_toList, he, List.getElem?_map, h3]
    exact wpAny_pure h

theorem set_key {v : Value} {Q : Unit → Shared → Prop} (hu : A.units + 8 < cLine) (hkey : NestedIs s.heap k key) (dk : k.depth ≤ 8) (m : DictN w s.heap d xs)
    (hQ : ∀ h', DictN w h' d (putN xs k key v) → Heap.SameBut d s.heap h' → Q () { s with heap := h', toks := s.toks + k.draws }) (hsz : xs.length ≤ sizeLine) : wpAny (model P w) A (dictSet d key v) Q E s := by
  obtain ⟨o, es, ep, ho, hc, hd, he, hk, nd, hep⟩ := m
  have KN := DictN.keys he hk nd
  have hz : es.size = xs.length := by rw [← Array.length_toList, he, List.length_map]
  unfold dictSet
  try with_reducible refine wpAny_holding ?_
  refine wpAny_bind (pyHash_key k key A s _ hkey (by omega) ?_)
  unfold dictSetHashed
  try with_reducible refine wpAny_holding ?_
  refine wpAny_bind (find_key (s := { s with toks := s.toks + k.draws }) hu hkey dk ho hd KN (fun hno => ?_) fun j hj => ?_)
  · refine wpAny_bind (wpAny_rule (wpAny_updateDictKeys (hz := by omega) (s := { s with toks := s.toks + k.draws }) ho hd ?_))
    refine hQ _ ⟨_, _, ep + 1, Heap.get?_update_self _ ho (Obj.isFreed_of_dict (Obj.data_mapDictKeys hd _)), hc.mapDictKeys _, Obj.data_mapDictKeys hd _, ?_, ?_, nd_putN nd k key v, (by unfold putN; rw [if_neg hno, List.length_append, hep]; rfl)⟩ (Heap.SameBut.update ..)
    · unfold putN
      rw [if_neg hno, Array.toList_push, he, List.map_append]
      rfl
    · unfold putN
      rw [if_neg hno]
      intro x hx
      rcases List.mem_append.mp hx with hx | hx
      · exact ⟨NestedIs.but ho hd (Heap.SameBut.update ..) (hk x hx).1, (hk x hx).2⟩
      · rw [List.mem_singleton.mp hx]
        exact ⟨NestedIs.but ho hd (Heap.SameBut.update ..) hkey, dk⟩
  · have hm : k ∈ xs.map (·.1) := List.mem_of_getElem? hj
    rw [List.getElem?_map, Option.map_eq_some_iff] at hj
    obtain ⟨x, h3, h4⟩ := hj
    refine wpAny_bind (wpAny_rule (wpAny_bind (wpAny_updateDict (s := { s with toks := s.toks + k.draws }) ho hd (wpAny_point ?_))))
    refine hQ _ ⟨_, _, ep, Heap.get?_update_self _ ho (Obj.isFreed_of_dict (Obj.data_mapDict hd _)), hc.mapDict _, Obj.data_mapDict hd _, ?_, ?_, nd_putN nd k key v, (by unfold putN; rw [if_pos hm, List.length_map]; exact hep)⟩ (Heap.SameBut.update ..)
    · unfold putN
      rw [if_pos hm]
      have := modify_setN (ent w) (fun e : DictEntry => { e with val := v }) k v (fun _ _ => rfl) nd h3 h4
      rw [← he] at this
      obtain ⟨l⟩ := es
      simpa using this
    · unfold putN
      rw [if_pos hm]
      intro y hy
      obtain ⟨z, hz', rfl⟩ := List.mem_map.mp hy
      have e1 : (setN k v z).1 = z.1 := by unfold setN; split <;> rfl
      have e2 : (setN k v z).2.1 = z.2.1 := by unfold setN; split <;> rfl
      rw [e1, e2]
      exact ⟨NestedIs.but ho hd (Heap.SameBut.update ..) (hk z hz').1, (hk z hz').2⟩

theorem take_key {Q : Option DictEntry → Shared → Prop} (hu : A.units + 8 < cLine) (hkey : NestedIs s.heap k key) (dk : k.depth ≤ 8) (m : DictN w s.heap d xs)
    (hnone : lookN xs k = none → Q none { s with toks := s.toks + k.draws }) (hsome : ∀ e v, lookN xs k = some v → e.val = v → ∀ h', DictNU w h' d (delN xs k) → Heap.SameBut d s.heap h' → Q (some e) { s with heap := h', toks := s.toks + k.draws }) (hsz : xs.length ≤ sizeLine) :
    wpAny (model P w) A (Builtin.Dict.takeOut d key) Q E s := by
  obtain ⟨o, es, ep, ho, hc, hd, he, hk, nd, hep⟩ := m
  have KN := DictN.keys he hk nd
  have hz : es.size = xs.length := by rw [← Array.length_toList, he, List.length_map]
  unfold Builtin.Dict.takeOut
  try with_reducible refine wpAny_holding ?_
  refine wpAny_bind (pyHash_key k key A s _ hkey (by omega) ?_)
  refine wpAny_bind (find_key (s := { s with toks := s.toks + k.draws }) hu hkey dk ho hd KN (fun hno => wpAny_pure (hnone (lookN_none hno))) fun j hj => ?_)
  rw [List.getElem?_map, Option.map_eq_some_iff] at hj
  obtain ⟨x, h3, h4⟩ := hj
  refine wpAny_bind (wpAny_dictEntries (s := { s with toks := s.toks + k.draws }) ho hd ?_)
  rw [← Array.getElem?_toList, he, List.getElem?_map, h3]
  refine wpAny_bind (wpAny_updateDictKeys (hz := by omega) (s := { s with toks := s.toks + k.draws }) ho hd (wpAny_pure (hsome _ x.2.2 (lookN_at nd h3 h4) rfl _
    ⟨_, _, ep + 1, Heap.get?_update_self _ ho (Obj.isFreed_of_dict (Obj.data_mapDictKeys hd _)), hc.mapDictKeys _, Obj.data_mapDictKeys hd _, ?_, ?_, nd_delN nd k⟩ (Heap.SameBut.update ..))))
  · rw [← erase_delN nd h3 h4, map_eraseI, ← he]
    obtain ⟨l⟩ := es
    simp
  · intro y hy
    have hy' := (List.mem_filter.mp hy).1
    exact ⟨NestedIs.but ho hd (Heap.SameBut.update ..) (hk y hy').1, (hk y hy').2⟩

theorem dflt_key {dflt : Value} {Q : Value → Shared → Prop} (hu : A.units + 8 < cLine) (hkey : NestedIs s.heap k key) (dk : k.depth ≤ 8) (m : DictN w s.heap d xs)
    (h1 : ∀ v, lookN xs k = some v → Q v { s with toks := s.toks + k.draws }) (h2 : lookN xs k = none → ∀ h', DictN w h' d (putN xs k key dflt) → Heap.SameBut d s.heap h' → Q dflt { s with heap := h', toks := s.toks + k.draws }) (hsz : xs.length ≤ sizeLine) :
    wpAny (model P w) A (dictSetDefault d key dflt) Q E s := by
  obtain ⟨o, es, ep, ho, hc, hd, he, hk, nd, hep⟩ := m
  have KN := DictN.keys he hk nd
  have hz : es.size = xs.length := by rw [← Array.length_toList, he, List.length_map]
  unfold dictSetDefault
  try with_reducible refine wpAny_holding ?_
  refine wpAny_bind (pyHash_key k key A s _ hkey (by omega) ?_)
  refine wpAny_bind (find_key (s := { s with toks := s.toks + k.draws }) hu hkey dk ho hd KN (fun hno => ?_) fun j hj => ?_)
  · refine wpAny_bind (wpAny_rule (wpAny_bind (wpAny_updateDictKeys (hz := by omega) (s := { s with toks := s.toks + k.draws }) ho hd (wpAny_pure ?_))))
    refine h2 (lookN_none hno) _ ⟨_, _, ep + 1, Heap.get?_update_self _ ho (Obj.isFreed_of_dict (Obj.data_mapDictKeys hd _)), hc.mapDictKeys _, Obj.data_mapDictKeys hd _, ?_, ?_, nd_putN nd k key dflt, (by unfold putN; rw [if_neg hno, List.length_append, hep]; rfl)⟩ (Heap.SameBut.update ..)
    · unfold putN
      rw [if_neg hno, Array.toList_push, he, List.map_append]
      rfl
    · unfold putN
      rw [if_neg hno]
      intro x hx
      rcases List.mem_append.mp hx with hx | hx
      · exact ⟨NestedIs.but ho hd (Heap.SameBut.update ..) (hk x hx).1, (hk x hx).2⟩
      · rw [List.mem_singleton.mp hx]
        exact ⟨NestedIs.but ho hd (Heap.SameBut.update ..) hkey, dk⟩
  · rw [List.getElem?_map, Option.map_eq_some_iff] at hj
    obtain ⟨x, h3, h4⟩ := hj
    refine wpAny_bind (wpAny_dictEntries (s := { s with toks := s.toks + k.draws }) ho hd ?_)
    rw [← Array.getElem?_toList, he, List.getElem?_map, h3]
    exact wpAny_bind (wpAny_rule (wpAny_pure (h1 _ (lookN_at nd h3 h4))))
end
end MI

/-! MI, part F: contexts, statements, functions. -/
namespace MI
open PySem PySem.Spec L2

abbrev Fn := List D → MH → Res D
/-- what a text's run hangs on -/
structure Md where
  P : Program
  w : World
  K : PySem.W.Frag
  mg : Str → Option Value
  base : Heap
abbrev md (X : Cx) : Md := ⟨X.prog, X.w, X.K, X.mg, X.base⟩
abbrev Md.tb (m : Md) (n : Nm) : Tb := ⟨m.P, m.w, m.K, n, fun _ => none⟩

/-! ### contexts -/
/-- all that the rules ask of a context; ow: names that may be stored through a cell -/
structure Cc (L : Md → Prop) (n : Nm) (k : Nat) (W : WX) (ow : Str → Bool) (N : List Str) (sc : Scope) (X : Cx) : Prop where
  gs : L (md X)
  room : Room k X.A
  grd : X.A.guards = some []
  calm : X.calm = true
  hN : X.N = N
  nd : N.Nodup
  hs : X.env.scope = sc
  fn : ∀ x, ow x = true → X.fn x = true
  tk : Takes X W
  ps : PassesOwn (model X.prog X.w) X.A X.env X.xe
  kd : X.env.scope.kind = .function

def visB (sc : Scope) (x : Str) : Bool := match sc.names.lookup x with
  | some .local => true
  | some .cell => true
  | some .free => true
  | _ => false
def locB (ow : Str → Bool) (sc : Scope) (x : Str) : Bool := match sc.names.lookup x with
  | some .local => true
  | some .cell => ow x
  | _ => false
def gloB (sc : Scope) (x : Str) : Bool := match sc.names.lookup x with
  | some .globalImplicit => true
  | _ => false
section
variable {L : Md → Prop} {n : Nm} {k : Nat} {W : WX} {ow : Str → Bool} {N : List Str} {sc : Scope} {X : Cx}
theorem Cc.nd' (c : Cc L n k W ow N sc X) : X.N.Nodup := by rw [c.hN]; exact c.nd
theorem Cc.ix (c : Cc L n k W ow N sc X) {i : Nat} {x : Str} (h : N[i]? = some x) : X.N[i]? = some x := by rw [c.hN]; exact h
theorem Cc.vis (c : Cc L n k W ow N sc X) {x : Str} (h : visB sc x = true) : Vis X.env.scope x := by
  rw [c.hs]
  unfold visB at h
  split at h
  · exact .inl (by assumption)
  · exact .inr (.inl (by assumption))
  · exact .inr (.inr (by assumption))
  · cases h
theorem Cc.loc (c : Cc L n k W ow N sc X) {x : Str} (h : locB ow sc x = true) : Loc X.env.scope x ∧ (X.fn x = true ∨ X.env.scope.names.lookup x = some .local) := by
  rw [c.hs]
  unfold locB at h
  split at h
  · rename_i e; exact ⟨.inl e, .inr e⟩
  · rename_i e; exact ⟨.inr e, .inl (c.fn x h)⟩
  · cases h
theorem Cc.glo (c : Cc L n k W ow N sc X) {x : Str} (h : gloB sc x = true) : Gl X x := by
  show X.env.scope.names.lookup x = _
  rw [c.hs]
  unfold gloB at h
  split at h
  · assumption
  · cases h
theorem Cc.weak (c : Cc L n k W ow N sc X) {j : Nat} (h : j ≤ k) : Cc L n j W ow N sc X := ⟨c.gs, c.room.mono h, c.grd, c.calm, c.hN, c.nd, c.hs, c.fn, c.tk, c.ps, c.kd⟩
def noW : WX := fun _ _ _ _ => False
theorem Cc.blk (c : Cc L n k W ow N sc X) (s : Shared) (H : Hp) (scope : Scope) (cl : List (Str × Addr)) (C : Addr) (fp : List Addr) (hk : scope.kind = .function) :
    Cc L n k noW (fun x => scope.names.lookup x == some .cell) N (relS scope sc) (X.blk s H scope (compEnvC scope cl C X.env) fp) := by
  refine ⟨c.gs, c.room, c.grd, c.calm, c.hN, c.nd, ?_, fun x h => h, fun u s' x => ?_, ?_, hk⟩
  · rw [← c.hs]; rfl
  · obtain ⟨_, _, _, _, _, _, _, _, _, _, _, _, _, _, _, _, w⟩ := x
    exact w.elim
  · exact PassesOwn.never
theorem Cc.var (c : Cc L n k W ow N sc X) {i : Nat} {x : Str} {p : Pos} (h1 : N[i]? = some x) (h2 : visB sc x = true) (h3 : (x == ("__debug__" : Str)) = false) (h4 : (x == ("__classdict__" : Str)) = false) : SE X n W (.Name x p) (eVar i) :=
  se_var (c.ix h1) (c.vis h2) h3 h4
end

/-! ### statements -/
inductive Fl where
  | nx (σ : Sl) (h : MH)
  | rt (d : D) (h : MH)
  | bk (σ : Sl) (h : MH)
  | ct (σ : Sl) (h : MH)
  | ex (x : EXC) (σ : Sl) (h : MH)
  | bad
abbrev EvS := Sl → MH → Fl

def PostS (T : Tb) (W : WX) (F : Hp) (ρ : List Addr) (r : Fl) (Dn : Ends) : Prop :=
  match r with
  | .nx σ h => ∀ F' ρ' H' τ, Ext F ρ F' ρ' → SR T F' ρ' H' h → SLR T.K F' ρ' σ τ → Dn.nx τ H'
  | .bk σ h => ∀ F' ρ' H' τ, Ext F ρ F' ρ' → SR T F' ρ' H' h → SLR T.K F' ρ' σ τ → Dn.bk τ H'
  | .ct σ h => ∀ F' ρ' H' τ, Ext F ρ F' ρ' → SR T F' ρ' H' h → SLR T.K F' ρ' σ τ → Dn.ct τ H'
  | .rt d h => ∀ F' ρ' H' v, Ext F ρ F' ρ' → SR T F' ρ' H' h → Rep T.K F' ρ' d v → Dn.rt v H'
  | .ex x σ h => ∀ F' ρ' H' τ cls dd, Ext F ρ F' ρ' → SR T F' ρ' H' h → SLR T.K F' ρ' σ τ → XIs T x F' ρ' H' cls dd → W cls dd τ H'
  | .bad => False
def tMS (T : Tb) (W : WX) (f : EvS) : TS := fun Dn τ H => ∃ pr F ρ h σ, SR (T.at pr) F ρ H h ∧ SLR T.K F ρ σ τ ∧ PostS (T.at pr) W F ρ (f σ h) Dn
abbrev SS (X : Cx) (n : Nm) (W : WX) (st : Stmt) (f : EvS) : Prop := PS X st (tMS (tb X n) W f)
abbrev SSs (X : Cx) (n : Nm) (W : WX) (st : List Stmt) (f : EvS) : Prop := PSs X st (tMS (tb X n) W f)

theorem PostS.mono {T : Tb} {W : WX} {F F' : Hp} {ρ ρ' : List Addr} {r : Fl} {Dn Dn' : Ends} (x : Ext F ρ F' ρ') (h : PostS T W F ρ r Dn) (h1 : ∀ τ H, Dn.nx τ H → Dn'.nx τ H) (h2 : ∀ v H, Dn.rt v H → Dn'.rt v H)
    (h3 : ∀ τ H, Dn.bk τ H → Dn'.bk τ H) (h4 : ∀ τ H, Dn.ct τ H → Dn'.ct τ H) : PostS T W F' ρ' r Dn' := by
  cases r with
  | nx σ h' => exact fun F'' ρ'' H' v y s r => h1 _ _ (h F'' ρ'' H' v (x.trans y) s r)
  | bk σ h' => exact fun F'' ρ'' H' v y s r => h3 _ _ (h F'' ρ'' H' v (x.trans y) s r)
  | ct σ h' => exact fun F'' ρ'' H' v y s r => h4 _ _ (h F'' ρ'' H' v (x.trans y) s r)
  | rt σ h' => exact fun F'' ρ'' H' v y s r => h2 _ _ (h F'' ρ'' H' v (x.trans y) s r)
  | ex e σ h' => exact fun F'' ρ'' H' v c d y s l r => h F'' ρ'' H' v c d (x.trans y) s l r
  | bad => exact h
theorem PostS.mono' {T : Tb} {W : WX} {F F' : Hp} {ρ ρ' : List Addr} {r : Fl} {Dn : Ends} (x : Ext F ρ F' ρ') (h : PostS T W F ρ r Dn) : PostS T W F' ρ' r Dn := h.mono x (fun _ _ q => q) (fun _ _ q => q) (fun _ _ q => q) fun _ _ q => q

/-- an expression's end, in a statement -/
def Res.fl {α : Type} (r : Res α) (σ : Sl) (k : α → MH → Fl) : Fl := match r with
  | .ok a h => k a h
  | .exc x h => .ex x σ h
  | .bad => .bad
def Fl.seq (r : Fl) (k : Sl → MH → Fl) : Fl := match r with
  | .nx σ h => k σ h
  | .rt d h => .rt d h
  | .bk σ h => .bk σ h
  | .ct σ h => .ct σ h
  | .ex x σ h => .ex x σ h
  | .bad => .bad
section
variable {T : Tb} {W : WX} {F : Hp} {ρ : List Addr} {H : Hp} {h : MH} {σ : Sl} {τ : Tv} {Dn : Ends}
theorem fl_bind {f : Ev} {g : D → MH → Fl} (s : SR T F ρ H h) (l : SLR T.K F ρ σ τ) (p : PostS T W F ρ ((f σ h).fl σ g) Dn) {R : VK}
    (k : ∀ F' ρ' H' d h' v, Ext F ρ F' ρ' → SR T F' ρ' H' h' → SLR T.K F' ρ' σ τ → Rep T.K F' ρ' d v → PostS T W F' ρ' (g d h') Dn → R v H') : tM T W f τ H R := by
  refine ⟨_, F, ρ, h, σ, s, l, ?_⟩
  cases e : f σ h with
  | ok d h' =>
    rw [e] at p
    exact fun F' ρ' H' v x s' r => k F' ρ' H' d h' v x s' (l.mono x) r (PostS.mono' x p)
  | exc x h' =>
    rw [e] at p
    exact fun F' ρ' H' c d x s' xi => p F' ρ' H' τ c d x s' (l.mono x) xi
  | bad => rw [e] at p; exact p
theorem fl_bindB {f : EvB} {g : Bool → MH → Fl} (s : SR T F ρ H h) (l : SLR T.K F ρ σ τ) (p : PostS T W F ρ ((f σ h).fl σ g) Dn) {R : Bool → Hp → Prop}
    (k : ∀ F' ρ' H' d h', Ext F ρ F' ρ' → SR T F' ρ' H' h' → SLR T.K F' ρ' σ τ → PostS T W F' ρ' (g d h') Dn → R d H') : tMB T W f τ H R := by
  refine ⟨_, F, ρ, h, σ, s, l, ?_⟩
  cases e : f σ h with
  | ok d h' =>
    rw [e] at p
    exact fun F' ρ' H' x s' => k F' ρ' H' d h' x s' (l.mono x) (PostS.mono' x p)
  | exc x h' =>
    rw [e] at p
    exact fun F' ρ' H' c d x s' xi => p F' ρ' H' τ c d x s' (l.mono x) xi
  | bad => rw [e] at p; exact p
end

def sSkip : EvS := fun σ h => .nx σ h
def sSeq (a b : EvS) : EvS := fun σ h => (a σ h).seq b
def sRet (f : Ev) : EvS := fun σ h => (f σ h).fl σ fun d h => .rt d h
def sRetN : EvS := fun _ h => .rt .non h
def sDrop (f : Ev) : EvS := fun σ h => (f σ h).fl σ fun _ h => .nx σ h
def sIf (t : EvB) (a b : EvS) : EvS := fun σ h => (t σ h).fl σ fun x h => if x = true then a σ h else b σ h
def sBrk : EvS := fun σ h => .bk σ h
def sCont : EvS := fun σ h => .ct σ h
/-- targets -/
abbrev EvG := D → Sl → MH → Option (Sl × MH)
def sAsg (f : Ev) (g : EvG) : EvS := fun σ h => (f σ h).fl σ fun d h => match g d σ h with
  | some (σ', h') => .nx σ' h'
  | none => .bad
/-- slots that stay: all but those of gs -/
def TSame (gs : List Nat) (τ τ' : Tv) : Prop := τ'.length = τ.length ∧ ∀ i, i ∉ gs → τ'[i]? = τ[i]?
theorem TSame.refl (gs : List Nat) (τ : Tv) : TSame gs τ τ := ⟨rfl, fun _ _ => rfl⟩
theorem TSame.app {a b : List Nat} {τ τ' τ'' : Tv} (h1 : TSame a τ τ') (h2 : TSame b τ' τ'') : TSame (a ++ b) τ τ'' := ⟨h2.1.trans h1.1, fun i hi => (h2.2 i fun z => hi (List.mem_append_right _ z)).trans (h1.2 i fun z => hi (List.mem_append_left _ z))⟩
theorem wipe_at (τ : Tv) (i : Nat) : ∀ vs : List Nat, (L2.wipe τ vs)[i]? = if i ∈ vs ∧ i < τ.length then some none else τ[i]?
  | [] => by simp [L2.wipe]
  | v :: vs => by
    unfold L2.wipe
    by_cases hv : v = i
    · subst hv
      by_cases hl : v < τ.length
      · rw [List.getElem?_set_self (by rw [L2.wipe_length]; exact hl), if_pos ⟨List.mem_cons_self, hl⟩]
      · rw [if_neg fun z => hl z.2, List.getElem?_eq_none (by rw [List.length_set, L2.wipe_length]; omega), List.getElem?_eq_none (by omega)]
    · rw [List.getElem?_set_ne hv, wipe_at τ i vs]
      have : (i ∈ v :: vs ∧ i < τ.length) ↔ (i ∈ vs ∧ i < τ.length) := by
        rw [List.mem_cons]
        exact ⟨fun z => ⟨z.1.resolve_left fun e => hv e.symm, z.2⟩, fun z => ⟨.inr z.1, z.2⟩⟩
      by_cases hi : i ∈ vs ∧ i < τ.length
      · rw [if_pos hi, if_pos (this.mpr hi)]
      · rw [if_neg hi, if_neg fun z => hi (this.mp z)]
theorem TSame.wipe {gs vs : List Nat} {τ τ' : Tv} (h : TSame gs τ τ') (hs : ∀ i ∈ gs, i ∈ vs) : L2.wipe τ' vs = L2.wipe τ vs := by
  refine List.ext_getElem? fun i => ?_
  rw [wipe_at, wipe_at, h.1]
  split
  · rfl
  · rename_i hn
    by_cases hl : i < τ.length
    · exact h.2 i fun z => hn ⟨hs i z, hl⟩
    · rw [List.getElem?_eq_none (by rw [h.1]; omega), List.getElem?_eq_none (by omega)]
def PostG (T : Tb) (gs : List Nat) (τ : Tv) (F : Hp) (ρ : List Addr) (r : Option (Sl × MH)) (Q : St → Hp → Prop) : Prop :=
  match r with
  | some (σ, h) => ∀ F' ρ' H' τ', Ext F ρ F' ρ' → SR T F' ρ' H' h → SLR T.K F' ρ' σ τ' → TSame gs τ τ' → Q τ' H'
  | none => False
def tMG (T : Tb) (gs : List Nat) (g : EvG) : TG := fun v τ H Q => ∃ pr F ρ h σ d, SR (T.at pr) F ρ H h ∧ SLR T.K F ρ σ τ ∧ Rep T.K F ρ d v ∧ PostG (T.at pr) gs τ F ρ (g d σ h) Q
abbrev SG (X : Cx) (n : Nm) (e : Expr) (gs : List Nat) (g : EvG) : Prop := PG X e (tMG (tb X n) gs g)
abbrev EvGs := List D → Sl → MH → Option (Sl × MH)
def tMGs (T : Tb) (gs : List Nat) (g : EvGs) : TGs := fun vs τ H Q => ∃ pr F ρ h σ ds, SR (T.at pr) F ρ H h ∧ SLR T.K F ρ σ τ ∧ Reps T.K F ρ ds vs ∧ PostG (T.at pr) gs τ F ρ (g ds σ h) Q
abbrev SGs (X : Cx) (n : Nm) (e : List Expr) (gs : List Nat) (g : EvGs) : Prop := PGs X e (tMGs (tb X n) gs g)
theorem PG_imp {X : Cx} {e : Expr} {t t' : TG} (h : PG X e t) (i : ∀ v σ H Q, t' v σ H Q → t v σ H Q) : PG X e t' := ⟨fun pins s σ H v u Q I r q => h.run pins s σ H v u Q I r (i v σ H Q q)⟩
theorem PGs_imp {X : Cx} {e : List Expr} {t t' : TGs} (h : PGs X e t) (i : ∀ v σ H Q, t' v σ H Q → t v σ H Q) : PGs X e t' := ⟨fun pins s σ H v u Q I r q => h.run pins s σ H v u Q I r (i v σ H Q q)⟩
theorem PostG.mono {T : Tb} {gs : List Nat} {τ : Tv} {F F' : Hp} {ρ ρ' : List Addr} {r : Option (Sl × MH)} {Q Q' : St → Hp → Prop} (x : Ext F ρ F' ρ') (h : PostG T gs τ F ρ r Q) (k : ∀ τ H, Q τ H → Q' τ H) : PostG T gs τ F' ρ' r Q' := by
  cases r with
  | none => exact h
  | some p => exact fun F'' ρ'' H' v y s r t => k _ _ (h F'' ρ'' H' v (x.trans y) s r t)

def gVar (i : Nat) : EvG := fun d σ h => some (σ.set i (some d), h)
def gsNil : EvGs := fun ds σ h => match ds with
  | [] => some (σ, h)
  | _ => none
def gsCons (g : EvG) (r : EvGs) : EvGs := fun ds σ h => match ds with
  | [] => none
  | d :: ds => match g d σ h with
    | some (σ', h') => r ds σ' h'
    | none => none
def gTupM (m : Nat) (g : EvGs) : EvG := fun d σ h => match d with
  | .tup xs => if xs.length = m then g xs σ h else none
  | _ => none

section
variable {L : Md → Prop} {n : Nm} {k : Nat} {W : WX} {ow : Str → Bool} {N : List Str} {sc : Scope} {X : Cx} {pos : Pos}
theorem ss_nil : SSs X n W [] sSkip := PSs_imp pss_nil fun Dn τ H q => by
  obtain ⟨_, F, ρ, h, σ, s, l, p⟩ := q
  exact p F ρ H τ (Ext.refl _ _) s l
theorem ss_cons {st : Stmt} {r : List Stmt} {f g : EvS} (h1 : SS X n W st f) (h2 : SSs X n W r g) : SSs X n W (st :: r) (sSeq f g) := PSs_imp (pss_cons h1 h2) fun Dn τ H q => by
  obtain ⟨_, F, ρ, h, σ, s, l, p⟩ := q
  refine ⟨_, F, ρ, h, σ, s, l, ?_⟩
  unfold sSeq at p
  cases e : f σ h with
  | nx σ' h' =>
    rw [e] at p
    exact fun F' ρ' H' τ' x s' l' => ⟨_, F', ρ', h', σ', s', l', PostS.mono' x p⟩
  | rt d h' => rw [e] at p; exact p
  | bk d h' => rw [e] at p; exact p
  | ct d h' => rw [e] at p; exact p
  | ex x d h' => rw [e] at p; exact p
  | bad => rw [e] at p; exact p
theorem ss_one {st : Stmt} {f : EvS} (h1 : SS X n W st f) : SSs X n W [st] f := PSs_imp (pss_one h1) fun Dn τ H q => q
theorem s_pass : SS X n W (.Pass pos) sSkip := PS_imp ps_pass fun Dn τ H q => by
  obtain ⟨_, F, ρ, h, σ, s, l, p⟩ := q
  exact p F ρ H τ (Ext.refl _ _) s l
theorem s_brk : SS X n W (.Break pos) sBrk := PS_imp ps_break fun Dn τ H q => by
  obtain ⟨_, F, ρ, h, σ, s, l, p⟩ := q
  exact p F ρ H τ (Ext.refl _ _) s l
theorem s_cont : SS X n W (.Continue pos) sCont := PS_imp ps_continue fun Dn τ H q => by
  obtain ⟨_, F, ρ, h, σ, s, l, p⟩ := q
  exact p F ρ H τ (Ext.refl _ _) s l
theorem s_doc {x : Str} {j : Nat} {p1 p2 : Pos} : SS X n W (.Expr (.Constant (.str x) j p1) p2) sSkip := PS_imp ps_doc fun Dn τ H q => by
  obtain ⟨_, F, ρ, h, σ, s, l, p⟩ := q
  exact p F ρ H τ (Ext.refl _ _) s l
theorem s_ret {e : Expr} {f : Ev} (he : SE X n W e f) : SS X n W (.Return (some e) pos) (sRet f) := PS_imp (ps_ret he) fun Dn τ H q => by
  obtain ⟨_, F, ρ, h, σ, s, l, p⟩ := q
  exact fl_bind s l p fun F' ρ' H' d h' v x s' l' r p' => p' F' ρ' H' v (Ext.refl _ _) s' r
theorem s_retN : SS X n W (.Return none pos) sRetN := PS_imp ps_retN fun Dn τ H q => by
  obtain ⟨_, F, ρ, h, σ, s, l, p⟩ := q
  exact p F ρ H _ (Ext.refl _ _) s .non
theorem s_drop {e : Expr} {f : Ev} (he : SE X n W e f) (hs : swapsWith e none pos.line X.env = pure false) : SS X n W (.Expr e pos) (sDrop f) := PS_imp (ps_expr he hs) fun Dn τ H q => by
  obtain ⟨_, F, ρ, h, σ, s, l, p⟩ := q
  exact fl_bind s l p fun F' ρ' H' d h' v x s' l' r p' => p' F' ρ' H' τ (Ext.refl _ _) s' l'
theorem s_if {c : Expr} {a b : List Stmt} {t : EvB} {f g : EvS} (hc : ST X n W c t) (ha : SSs X n W a f) (hb : SSs X n W b g) : SS X n W (.If c a b pos) (sIf t f g) := PS_imp (ps_if hc ha hb) fun Dn τ H q => by
  obtain ⟨_, F, ρ, h, σ, s, l, p⟩ := q
  refine fl_bindB s l p fun F' ρ' H' d h' x s' l' p' => ?_
  cases d with
  | true => rw [if_pos rfl] at p' ⊢; exact ⟨_, F', ρ', h', σ, s', l', p'⟩
  | false => rw [if_neg Bool.false_ne_true] at p' ⊢; exact ⟨_, F', ρ', h', σ, s', l', p'⟩
theorem s_asg {tg e : Expr} {f : Ev} {g : EvG} {gs : List Nat} (he : SE X n W e f) (hg : SG X n tg gs g) (hs : swapsWithSole [tg] e pos.line X.env = pure false) (hw : swappedStores [tg] e X.env = pure none)
    (h1 : (assignEach [tg] X.env).map (·.2) = [assign tg X.env]) : SS X n W (.Assign [tg] e pos) (sAsg f g) := PS_imp (ps_asg he hg hs hw h1) fun Dn τ H q => by
  obtain ⟨_, F, ρ, h, σ, s, l, p⟩ := q
  refine fl_bind s l p fun F' ρ' H' d h' v x s' l' r p' => ⟨_, F', ρ', h', σ, d, s', l', r, ?_⟩
  cases e : g d σ h' with
  | none => rw [e] at p'; exact p'
  | some y => rw [e] at p'; exact fun F2 ρ2 H2 τ2 x2 s2 l2 _ => p' F2 ρ2 H2 τ2 x2 s2 l2
theorem g_var (c : Cc L n k W ow N sc X) {i : Nat} {x : Str} (h1 : N[i]? = some x) (h2 : locB ow sc x = true) : SG X n (.Name x pos) [i] (gVar i) := by
  obtain ⟨a, b⟩ := c.loc h2
  refine PG_imp (pg_name c.nd' (c.ix h1) a b) fun v τ H Q q => ?_
  obtain ⟨_, F, ρ, h, σ, d, s, l, r, p⟩ := q
  exact p F ρ H _ (Ext.refl _ _) s (l.set r i) ⟨List.length_set, fun j hj => List.getElem?_set_ne fun z => hj (by rw [z]; exact List.mem_singleton.mpr rfl)⟩
theorem gs_nil : SGs X n [] [] gsNil := PGs_imp pgs_nil fun vs τ H Q q => by
  obtain ⟨_, F, ρ, h, σ, d, s, l, r, p⟩ := q
  cases r with
  | nil => exact ⟨rfl, p F ρ H τ (Ext.refl _ _) s l (TSame.refl _ _)⟩
  | cons a b => exact p.elim
theorem gs_cons {e : Expr} {es : List Expr} {g : EvG} {r : EvGs} {s1 s2 : List Nat} (h1 : SG X n e s1 g) (h2 : SGs X n es s2 r) (hs : (assignEach (e :: es) X.env).map (·.2) = assign e X.env :: (assignEach es X.env).map (·.2)) : SGs X n (e :: es) (s1 ++ s2) (gsCons g r) :=
  PGs_imp (pgs_cons h1 h2 hs) fun vs τ H Q q => by
  obtain ⟨pr, F, ρ, h, σ, d, s, l, r', p⟩ := q
  cases r' with
  | nil => exact p.elim
  | cons a b =>
    rename_i dd vv ds ws
    refine ⟨_, _, rfl, _, F, ρ, h, σ, _, s, l, a, ?_⟩
    unfold gsCons at p
    dsimp only at p
    cases e : g dd σ h with
    | none => rw [e] at p; exact p
    | some y =>
      rw [e] at p
      obtain ⟨σ1, h1⟩ := y
      dsimp only at p
      intro F' ρ' H' τ' x s' l' t1
      refine ⟨_, F', ρ', _, _, _, s', l', b.mono x, ?_⟩
      cases e2 : r ds σ1 h1 with
      | none => rw [e2] at p; exact p
      | some y2 =>
        rw [e2] at p
        exact fun F2 ρ2 H2 τ2 x2 s2 l2 t2 => p F2 ρ2 H2 τ2 (x.trans x2) s2 l2 (t1.app t2)
theorem g_tup (c : Cc L n k W ow N sc X) {es : List Expr} {j m : Nat} {g : EvGs} {gs : List Nat} (hg : SGs X n es gs g) (hn : (assignEach es X.env).length = m) (hst : (assignEach es X.env).findIdx? (·.1) = none) : SG X n (.Tuple es j pos) gs (gTupM m g) :=
  PG_imp (pg_tup c.calm hg hn hst) fun v τ H Q q => by
  obtain ⟨_, F, ρ, h, σ, d, s, l, r, p⟩ := q
  unfold gTupM at p
  cases r with
  | tup a b =>
    dsimp only at p
    split at p
    · rename_i hm
      exact ⟨_, _, rfl, sqT_le s.le a, by rw [← b.length]; exact hm, _, F, ρ, h, σ, _, s, l, b, p⟩
    · exact p.elim
  | _ => exact p.elim
end

/-! ### functions -/
def spM (T : Tb) (np : Nat) (g : Fn) : Sp := fun vs H Q E => vs.length = np ∧ ∃ pr F ρ h ds, SR (T.at pr) F ρ H h ∧ Reps T.K F ρ ds vs ∧ Post (T.at pr) F ρ (g ds h) Q E
structure FnG (m : Md) (n : Nm) (k : Nat) (f : Addr) (fd : FuncData) (ps : List Str) (g : Fn) : Prop where
  run : ∀ (A : Around) (o : List Env) (s : Shared) (H : Hp) (args : Args) (us : List Value) (vs : List V) (Q : VK) (E : XK), Room k A → A.guards = some [] → Env0 m.P m.w m.K m.mg m.base A o s H → BindsTo s fd args (ps.zip us) → Vals vs us →
    spM (m.tb n) ps.length g vs H Q E → codeAny (model m.P m.w) A (.call (.ref f) args) (CR (L2.CX m.P m.w) o m.P m.w H s Q E) s
def startM (m : Nat) (ds : List D) : Sl := ds.map some ++ List.replicate (m - ds.length) none
/-- what a body's end is to its caller -/
def Fl.out (r : Fl) : Res D := match r with
  | .nx _ h => .ok .non h
  | .rt d h => .ok d h
  | .ex x _ h => .exc x h
  | _ => .bad
def fnM (m : Nat) (f : EvS) : Fn := fun ds h => (f (startM m ds) h).out

theorem fn_g {L : Md → Prop} {m : Md} {n : Nm} {k : Nat} {x qual : Str} {params : Arguments} {body : List Stmt} {sc : Scope} {f : Addr} {fd : FuncData} {N ps : List Str} {g : EvS} (FD : FunD m.K x qual params body sc [] [] f fd) (S : FnScope N ps sc) (gs : L m)
    (hb : ∀ (X : Cx) (W : WX), Cc L n k W (fun _ => true) N sc X → md X = m → X.stack = X.env :: X.outer → X.env.frame = some X.env.locals → X.ex = [] → SSs X n W body g) : FnG m n (k + 1) f fd ps (fnM N.length g) := by
  obtain ⟨oc, od, dV, kV, doc, pm, an, cdv, ct, osl, rfl, lk, hcd, _, _⟩ := FD.ex
  refine ⟨fun A o s H args us vs Q E hr hgd e0 hbd rv hsp => ?_⟩
  obtain ⟨hl, pr, F, ρ, h, ds, sr, rd, po⟩ := hsp
  have stay : ∀ b o, m.base.get? b = some o → s.heap.get? b = some o := fun b o e => (e0.bs b o e).1
  have inK : m.K.In s.heap := e0.mod.kin.keeps stay
  have hkd : ∀ y ∈ ps.zip us, sc.names.lookup y.1 = some .local ∨ (sc.names.lookup y.1 = some .cell ∧ ((cellsFrom (s.heap.objs.size + 1) sc.names []).lookup y.1).isSome = true) := by
    rintro ⟨a, b⟩ hy
    rcases S.par a (List.of_mem_zip hy).1 with q | q
    · exact .inl q
    · exact .inr ⟨q, PySem.W.cellsFrom_some _ _ _ (.inl q)⟩
  refine codeAny_call_function (body := body) hr.depth (inK _ _ lk) rfl S.co S.gen rfl (PySem.W.codeRec_of inK hcd) (hbd _ _ _ _ ?_)
  refine wpAny_newFunctionEnv_cells S.kind hkd fun env he s1 x => ?_
  subst he
  refine ⟨(e0.mod.nolimit.keeps stay).keeps x.toInCall.keep, codeAny_func ?_⟩
  obtain ⟨Y, hY⟩ : ∃ Y, Y = cxOf (L2.CX m.P m.w) m.P m.w m.K m.mg m.base N qual sc f cdv A o s H E := ⟨_, rfl⟩
  have I0 := inv_start (CX := L2.CX m.P m.w) (E := E) S hr.hd e0 hl rv x
  have cc : Cc L n k (fun c d _ H => E c d H) (fun _ => true) N sc Y := by
    subst hY
    exact ⟨gs, hr.deeper _, hgd, rfl, rfl, S.nd, rfl, fun _ _ => rfl, takes_of rfl rfl rfl rfl, passes_of rfl, S.kind⟩
  have bd := hb Y _ cc (by subst hY; rfl) (by subst hY; rfl) (by subst hY; rfl) (by subst hY; rfl)
  subst hY
  have sl : SLR m.K F ρ (startM N.length ds) (L2.start N vs) := SLR.start rd N (by
    rw [rd.length, hl, ← S.pre, List.length_take]; exact Nat.min_le_right _ _)
  have fin : ∀ {σ' : St} {H' : Hp} {v : V} {u : Value} {s' : Shared}, Inv (cxOf (L2.CX m.P m.w) m.P m.w m.K m.mg m.base N qual sc f cdv A o s H E) [] σ' H' s' → RelV v u → Q v H' → CE o m.P m.w H s Q u s' :=
    fun {σ' H' v u s'} J r q => ⟨v, H', J.os, J.bare, J.base, J.hok, r, q⟩
  refine wpAny_mono (bd.run [] s1 (L2.start N vs) H { nx := fun _ H' => Q .non H', rt := Q } I0 ⟨_, F, ρ, h, _, sr, sl, ?_⟩) (fun fl s' hs => ?_) fun e s' hs => hs
  · show PostS ((m.tb n).at pr) _ F ρ (g (startM N.length ds) h) _
    unfold fnM at po
    cases e : g (startM N.length ds) h with
    | nx σ' h' => rw [e] at po; exact fun F' ρ' H' τ x s' l => po F' ρ' H' .non x s' .non
    | rt d h' => rw [e] at po; exact po
    | bk σ' h' => rw [e] at po; exact po.elim
    | ct σ' h' => rw [e] at po; exact po.elim
    | ex y σ' h' => rw [e] at po; exact fun F' ρ' H' τ c d x s' l xi => po F' ρ' H' c d x s' xi
    | bad => rw [e] at po; exact po
  · cases fl with
    | ret u => obtain ⟨v, σ', H', J, r, q⟩ := hs; exact fin J r q
    | next => obtain ⟨σ', H', J, q⟩ := hs; exact fin (v := .non) (u := .none) J rfl q
    | brk => obtain ⟨_, _, _, q⟩ := hs; exact q.elim
    | cont => obtain ⟨_, _, _, q⟩ := hs; exact q.elim

/-- a function of the text, as one knows it by its name -/
structure GF (m : Md) (n : Nm) (x : Str) (k : Nat) (np : Nat) (g : Fn) : Prop where
  ex : ∃ (f : Addr) (fd : FuncData) (ps : List Str), m.mg x = some (.ref f) ∧ PySem.W.keepIn m.K (.ref f) = true ∧ ps.length = np ∧ Binds m.K fd ps [] ∧ FnG m n k f fd ps g
def eCall (g : Fn) (as : EvL) : Ev := fun σ h => (as σ h).bind g
section
variable {L : Md → Prop} {n : Nm} {k : Nat} {W : WX} {ow : Str → Bool} {N : List Str} {sc : Scope} {X : Cx} {pos : Pos}
theorem tML_bind {T : Tb} {W : WX} {F : Hp} {ρ : List Addr} {H : Hp} {h : MH} {σ : Sl} {τ : Tv} {f : EvL} {g : List D → MH → Res D} {Q : VK} (s : SR T F ρ H h) (l : SLR T.K F ρ σ τ)
    (p : Post T F ρ ((f σ h).bind g) Q fun c d H' => W c d τ H') {R : List V → Hp → Prop}
    (k : ∀ F' ρ' H' d h' v, Ext F ρ F' ρ' → SR T F' ρ' H' h' → SLR T.K F' ρ' σ τ → Reps T.K F' ρ' d v → Post T F' ρ' (g d h') Q (fun c d H' => W c d τ H') → R v H') : tML T W f τ H R := by
  refine ⟨_, F, ρ, h, σ, s, l, ?_⟩
  cases e : f σ h with
  | ok d h' =>
    rw [e] at p
    exact fun F' ρ' H' v x s' r => k F' ρ' H' d h' v x s' (l.mono x) r (Post.mono x p fun _ _ q => q)
  | exc x h' => rw [e] at p; exact p
  | bad => rw [e] at p; exact p
theorem run_g (c : Cc L n k W ow N sc X) {f : Addr} {fd : FuncData} {ps : List Str} {g : Fn} {j : Nat} (FG : FnG (md X) n j f fd ps g) (hj : j ≤ k) {args : Args} {pins : List (Addr × Obj)} {τ : Tv} {H : Hp} {s : Shared} {Q : VK} {us : List Value} {vs : List V} (I : Inv X pins τ H s) (hbd : BindsTo s fd args (ps.zip us)) (r : Vals vs us)
    (h : spM (tb X n) ps.length g vs H Q fun c d H' => W c d τ H') : codeAny (model X.prog X.w) X.A (.call (.ref f) args) (callEnd (EP X pins τ Q) X.xe) s := by
  refine codeAny_mono (FG.run X.A X.stack s H args us vs Q _ (c.room.mono hj) c.grd I.env0 hbd r h) fun r s' hq => ?_
  cases r with
  | error e => exact c.tk e s' (XE.of_call I (fun _ _ _ w => w) hq)
  | ok fl =>
    cases fl with
    | ret u => exact I.after hq
    | next => exact hq.elim
    | brk => exact hq.elim
    | cont => exact hq.elim
theorem binds_to {K : PySem.W.Frag} {fd : FuncData} {ps : List Str} {s : Shared} {us : List Value} (hb : Binds K fd ps []) (hK : K.In s.heap) (hl : us.length = ps.length) : BindsTo s fd ⟨us, []⟩ (ps.zip us) := by
  have q := hb s us hK (by rw [List.append_nil]; exact hl)
  rw [List.append_nil] at q
  exact q
theorem se_call (c : Cc L n k W ow N sc X) {x : Str} {j np : Nat} {g : Fn} (G : GF (md X) n x j np g) (hj : j ≤ k) (hg : gloB sc x = true) (hdb : (x == ("__debug__" : Str)) = false) {e : Expr} {es : List Expr} {as : EvL} {p1 : Pos} (ha : SA X n W (e :: es) as)
    (hlen : ∀ σ h ds h', as σ h = .ok ds h' → ds.length = np)
    (he : starEach (e :: es) X.env = (false, eval e X.env) :: starEach es X.env) (hpl : (backTo pos (starEach es X.env)).any (·.1) = false) : SE X n W (.Call (.Name x p1) (e :: es) [] pos) (eCall g as) := by
  obtain ⟨f, fd, ps, e1, e2, e3, bd, FG⟩ := G.ex
  refine ⟨fun pins s τ H Q I q => ?_⟩
  refine wpAny_Call_Name_kw (ld_glob I (c.glo hg) e1 ?_ hdb)
  refine PySem.W.callWith_K (h₀ := X.base) I.ok.mod.kin e2 (thn (ha.run pos pins s τ H (fun vs H1 => spM (tb X n) ps.length g vs H1 Q fun c d H' => W c d τ H') I ?_) fun us s1 h1 => ?_) he hpl
  · obtain ⟨_, F, ρ, h, σ, sr, l, p⟩ := q
    unfold eCall at p
    refine ⟨_, F, ρ, h, σ, sr, l, ?_⟩
    cases ea : as σ h with
    | ok d h' =>
      rw [ea] at p
      exact fun F' ρ' H' v x s' r => ⟨by rw [← r.length, hlen _ _ _ _ ea, e3], _, F', ρ', h', d, s', r, Post.mono x p fun _ _ q => q⟩
    | exc y h' => rw [ea] at p; exact p
    | bad => rw [ea] at p; exact p
  · obtain ⟨vs, H1, I1, r, q1⟩ := h1
    refine ⟨I1.kIn, wpAny_call (run_g c FG hj I1 (binds_to bd I1.kIn ?_) r q1)⟩
    show ([] ++ us).length = _
    rw [List.nil_append, ← r.length, q1.1]
theorem se_call0 (c : Cc L n k W ow N sc X) {x : Str} {j : Nat} {g : Fn} (G : GF (md X) n x j 0 g) (hj : j ≤ k) (hg : gloB sc x = true) (hdb : (x == ("__debug__" : Str)) = false) {p1 : Pos} : SE X n W (.Call (.Name x p1) [] [] pos) (eCall g fun _ h => .ok [] h) := by
  obtain ⟨f, fd, ps, e1, e2, e3, bd, FG⟩ := G.ex
  refine ⟨fun pins s τ H Q I q => ?_⟩
  refine wpAny_Call_Name_kw (ld_glob I (c.glo hg) e1 ?_ hdb)
  obtain ⟨_, F, ρ, h, σ, sr, l, p⟩ := q
  refine PySem.W.callWith_K0 I.kIn e2 (wpAny_call (run_g (vs := []) c FG hj I (binds_to bd I.kIn ?_) .nil ⟨by rw [e3]; rfl, _, F, ρ, h, [], sr, .nil, p⟩))
  rw [e3]; rfl

/-! ### argument lists -/
def aNil : EvL := fun _ h => .ok [] h
def aCons (f : Ev) (r : EvL) : EvL := fun σ h => (f σ h).bind fun d h1 => (r σ h1).bind fun ds h2 => .ok (d :: ds) h2
theorem sa_nil : SA X n W [] aNil := PA_imp pa_nil fun τ H Q q => by
  obtain ⟨_, F, ρ, h, σ, s, l, p⟩ := q
  exact p F ρ H _ (Ext.refl _ _) s .nil
theorem sa_cons {e : Expr} {es : List Expr} {f : Ev} {r : EvL} (h1 : SE X n W e f) (h2 : SA X n W es r) (hs : starEach (e :: es) X.env = (false, eval e X.env) :: starEach es X.env) : SA X n W (e :: es) (aCons f r) := PA_imp (pa_cons h1 h2 hs) fun τ H Q q => by
  obtain ⟨_, F, ρ, h, σ, s, l, p⟩ := q
  refine ⟨_, F, ρ, h, σ, s, l, ?_⟩
  unfold aCons at p
  cases e1 : f σ h with
  | exc x h' => rw [e1] at p; exact p
  | bad => rw [e1] at p; exact p
  | ok d h1 =>
    rw [e1] at p
    intro F1 ρ1 H1 v x1 s1 r1
    refine ⟨_, F1, ρ1, h1, σ, s1, l.mono x1, ?_⟩
    cases e2 : r σ h1 with
    | exc x h' =>
      simp only [Res.bind, e2] at p
      exact fun F' ρ' H' c d y s' xi => p F' ρ' H' c d (x1.trans y) s' xi
    | bad =>
      simp only [Res.bind, e2] at p
      exact p
    | ok ds h2 =>
      simp only [Res.bind, e2] at p
      exact fun F' ρ' H' vs y s' rs => p F' ρ' H' _ (x1.trans y) s' (.cons (r1.mono y) rs)
theorem aNil_len {σ : Sl} {h : MH} {ds : List D} {h' : MH} (e : aNil σ h = .ok ds h') : ds.length = 0 := by
  cases e; rfl
theorem aCons_len {f : Ev} {r : EvL} {m : Nat} (hr : ∀ σ h ds h', r σ h = .ok ds h' → ds.length = m) : ∀ σ h ds h', aCons f r σ h = .ok ds h' → ds.length = m + 1 := fun σ h ds h' e => by
  unfold aCons at e
  cases e1 : f σ h with
  | exc x h' => rw [e1] at e; cases e
  | bad => rw [e1] at e; cases e
  | ok d h1 =>
    simp only [Res.bind, e1] at e
    cases e2 : r σ h1 with
    | exc x h' => rw [e2] at e; cases e
    | bad => rw [e2] at e; cases e
    | ok dd h2 =>
      rw [e2] at e; cases e
      rw [List.length_cons, hr _ _ _ _ e2]
end
end MI

/-! MI, part G: what is walked; loops; comprehensions. -/
namespace MI
open PySem PySem.Spec L2

structure ItD where
  xs : List D
  chk : MH → Bool
abbrev EvI := Sl → MH → Res ItD
def JOk (T : Tb) (F : Hp) (ρ : List Addr) (it : ItD) (J : It) : Prop :=
  ∀ (i : Nat) (pr : Addr → Option HO) F' ρ' H' h', Ext F ρ F' ρ' → SR (T.at pr) F' ρ' H' h' → it.chk h' = true →
    (∀ d, it.xs[i]? = some d → J.go i H' ∧ ∀ x H'', J.yld i H' x H'' → ∃ F'' ρ'', Ext F' ρ' F'' ρ'' ∧ SR (T.at pr) F'' ρ'' H'' h' ∧ Rep T.K F'' ρ'' d x) ∧ (it.xs.length ≤ i → J.stop i H')
def PostI (T : Tb) (F : Hp) (ρ : List Addr) (r : Res ItD) (R : It → Hp → Prop) (E : XK) : Prop :=
  match r with
  | .ok it h' => ∀ F' ρ' H', Ext F ρ F' ρ' → SR T F' ρ' H' h' → ∀ J, JOk T F' ρ' it J → R J H'
  | .exc x h' => ∀ F' ρ' H' cls dd, Ext F ρ F' ρ' → SR T F' ρ' H' h' → XIs T x F' ρ' H' cls dd → E cls dd H'
  | .bad => False
def tMI (T : Tb) (W : WX) (f : EvI) : TI := fun τ H R => ∃ pr F ρ h σ, SR (T.at pr) F ρ H h ∧ SLR T.K F ρ σ τ ∧ PostI (T.at pr) F ρ (f σ h) R (fun c d H' => W c d τ H')
abbrev SI (X : Cx) (n : Nm) (W : WX) (tg e : Expr) (f : EvI) : Prop := PI X tg e (tMI (tb X n) W f)
theorem PI_imp {X : Cx} {tg e : Expr} {t t' : TI} (h : PI X tg e t) (i : ∀ σ H Q, t' σ H Q → t σ H Q) : PI X tg e t' := ⟨fun pins s σ H R I q => h.run pins s σ H R I (i σ H R q)⟩

theorem PostI.mono {T : Tb} {F F' : Hp} {ρ ρ' : List Addr} {r : Res ItD} {Q : It → Hp → Prop} {E : XK} (x : Ext F ρ F' ρ') (h : PostI T F ρ r Q E) : PostI T F' ρ' r Q E := by
  cases r with
  | ok d h' => exact fun F'' ρ'' H' y s => h F'' ρ'' H' (x.trans y) s
  | exc e h' => exact fun F'' ρ'' H' c d y s r => h F'' ρ'' H' c d (x.trans y) s r
  | bad => exact h
section
variable {T : Tb} {W : WX} {F : Hp} {ρ : List Addr} {H : Hp} {h : MH} {σ : Sl} {τ : Tv}
theorem it_bind {f : Ev} {g : D → MH → Res ItD} {Q : It → Hp → Prop} (s : SR T F ρ H h) (l : SLR T.K F ρ σ τ) (p : PostI T F ρ ((f σ h).bind g) Q fun c d H' => W c d τ H') {R : VK}
    (k : ∀ F' ρ' H' d h' v, Ext F ρ F' ρ' → SR T F' ρ' H' h' → SLR T.K F' ρ' σ τ → Rep T.K F' ρ' d v → PostI T F' ρ' (g d h') Q (fun c d H' => W c d τ H') → R v H') : tM T W f τ H R := by
  refine ⟨_, F, ρ, h, σ, s, l, ?_⟩
  cases e : f σ h with
  | ok d h' =>
    rw [e] at p
    exact fun F' ρ' H' v x s' r => k F' ρ' H' d h' v x s' (l.mono x) r (PostI.mono x p)
  | exc x h' => rw [e] at p; exact p
  | bad => rw [e] at p; exact p
theorem it_bindL {f : EvL} {g : List D → MH → Res ItD} {Q : It → Hp → Prop} (s : SR T F ρ H h) (l : SLR T.K F ρ σ τ) (p : PostI T F ρ ((f σ h).bind g) Q fun c d H' => W c d τ H') {R : List V → Hp → Prop}
    (k : ∀ F' ρ' H' d h' v, Ext F ρ F' ρ' → SR T F' ρ' H' h' → SLR T.K F' ρ' σ τ → Reps T.K F' ρ' d v → PostI T F' ρ' (g d h') Q (fun c d H' => W c d τ H') → R v H') : tML T W f τ H R := by
  refine ⟨_, F, ρ, h, σ, s, l, ?_⟩
  cases e : f σ h with
  | ok d h' =>
    rw [e] at p
    exact fun F' ρ' H' v x s' r => k F' ρ' H' d h' v x s' (l.mono x) r (PostI.mono x p)
  | exc x h' => rw [e] at p; exact p
  | bad => rw [e] at p; exact p
end

/-! ### the items of a value -/
def noChk : MH → Bool := fun _ => true
def boxChk (n : Nat) (xs : List D) : MH → Bool := fun h => decide (h[n]? = some (.lst xs))
/-- list or tuple: its items, and what must stay -/
def itemsOf (h : MH) : D → Option ItD
  | .tup xs => some ⟨xs, noChk⟩
  | .lst xs => some ⟨xs, noChk⟩
  | .scr ns => some ⟨ns.map .int, noChk⟩
  | .ref n => match h[n]? with
    | some (.lst xs) => some ⟨xs, boxChk n xs⟩
    | _ => none
  | _ => none
def okI (h : MH) : Option ItD → Res ItD
  | some d => .ok d h
  | none => .bad
def iSeq (f : Ev) : EvI := fun σ h => (f σ h).bind fun d h1 => okI h1 (itemsOf h1 d)
/-- where they stand -/
def LT (K : PySem.W.Frag) (H : Hp) (a : Addr) (xs : List V) : Bool → Prop
  | true => SqT K H a xs
  | false => SqL K H a xs
theorem items_at {T : Tb} {F : Hp} {ρ : List Addr} {h : MH} {H : Hp} (s : SR T F ρ H h) {d : D} {v : V} {it : ItD} (r : Rep T.K F ρ d v) (e : itemsOf h d = some it) : ∃ a b, v = .ref a ∧ (∃ vs, LT T.K H a vs b ∧ Reps T.K F ρ it.xs vs) ∧
    ∀ pr F' ρ' H' h', Ext F ρ F' ρ' → SR (T.at pr) F' ρ' H' h' → it.chk h' = true → ∃ vs, LT T.K H' a vs b ∧ Reps T.K F' ρ' it.xs vs := by
  cases r with
  | tup h1 h2 => cases e; exact ⟨_, true, rfl, ⟨_, sqT_le s.le h1, h2⟩, fun pr F' ρ' H' h' x s' _ => ⟨_, sqT_le s'.le (sqT_le x.le h1), h2.mono x⟩⟩
  | lst h1 h2 => cases e; exact ⟨_, false, rfl, ⟨_, .of (s.le _ _ h1), h2⟩, fun pr F' ρ' H' h' x s' _ => ⟨_, .of (s'.le _ _ (x.le _ _ h1)), h2.mono x⟩⟩
  | scr h1 => cases e; exact ⟨_, false, rfl, ⟨_, sqL_le s.le h1, Reps.ints _⟩, fun pr F' ρ' H' h' x s' _ => ⟨_, sqL_le s'.le (sqL_le x.le h1), Reps.ints _⟩⟩
  | @ref n a h1 =>
    unfold itemsOf at e
    dsimp only at e
    split at e
    · rename_i xs hx
      cases e
      obtain ⟨a', e1, e2, vs, e3, e4⟩ := s.at hx
      rw [h1] at e1; cases e1
      refine ⟨a, false, rfl, ⟨vs, .of e3, e4⟩, fun pr F' ρ' H' h' x s' hc => ?_⟩
      obtain ⟨a', e1, e2, vs, e3, e4⟩ := s'.at (of_decide_eq_true hc)
      rw [pre_get x.pre h1] at e1; cases e1
      exact ⟨vs, .of e3, e4⟩
    · cases e
  | _ => cases e

section
variable {L : Md → Prop} {n : Nm} {k : Nat} {W : WX} {ow : Str → Bool} {N : List Str} {sc : Scope} {X : Cx} {pos : Pos} {tg : Expr}
theorem okI_post {T : Tb} {F : Hp} {ρ : List Addr} {h : MH} {o : Option ItD} {Q : It → Hp → Prop} {E : XK} (p : PostI T F ρ (okI h o) Q E) : ∃ d, o = some d ∧ ∀ F' ρ' H', Ext F ρ F' ρ' → SR T F' ρ' H' h → ∀ J, JOk T F' ρ' d J → Q J H' := by
  cases o with
  | none => exact p.elim
  | some d => exact ⟨d, rfl, p⟩
def JofLT (K : PySem.W.Frag) (a : Addr) : Bool → It
  | true => Itt K a
  | false => Itl K a
/-- the values at i of two readings of one place are the same -/
theorem jok_seq {T : Tb} {F : Hp} {ρ : List Addr} {it : ItD} {a : Addr} {b : Bool} (w : ∀ pr F' ρ' H' h', Ext F ρ F' ρ' → SR (T.at pr) F' ρ' H' h' → it.chk h' = true → ∃ vs, LT T.K H' a vs b ∧ Reps T.K F' ρ' it.xs vs) : JOk T F ρ it (JofLT T.K a b) := by
  intro i pr F' ρ' H' h' x s hc
  obtain ⟨vs, lt, rs⟩ := w pr F' ρ' H' h' x s hc
  cases b with
  | true =>
    refine ⟨fun d hd => ?_, fun hl => ⟨vs, lt, by rw [← rs.length]; exact hl⟩⟩
    obtain ⟨v, hv, rv⟩ := rs.get hd
    exact ⟨⟨vs, v, lt, hv⟩, fun y H'' ⟨e, q⟩ => ⟨F', ρ', Ext.refl _ _, by rw [e]; exact s, by have := q vs lt; rw [hv] at this; cases this; exact rv⟩⟩
  | false =>
    refine ⟨fun d hd => ?_, fun hl => ⟨vs, lt, by rw [← rs.length]; exact hl⟩⟩
    obtain ⟨v, hv, rv⟩ := rs.get hd
    exact ⟨⟨vs, v, lt, hv⟩, fun y H'' ⟨e, q⟩ => ⟨F', ρ', Ext.refl _ _, by rw [e]; exact s, by have := q vs lt; rw [hv] at this; cases this; exact rv⟩⟩
/-- over a list or a tuple, whichever comes -/
theorem si_seq {e : Expr} {f : Ev} (he : SE X n W e f) : SI X n W tg e (iSeq f) := by
  refine ⟨fun pins s τ H R I q => ?_⟩
  obtain ⟨pr, F, ρ, h, σ, sr, l, p⟩ := q
  refine thn (he.run pins s τ H (fun v H1 => ∃ a b, v = .ref a ∧ (∃ vs, LT X.K H1 a vs b) ∧ R (JofLT X.K a b) H1) I (it_bind sr l p fun F1 ρ1 H1 d h1 v x1 s1 l1 r1 p1 => ?_)) fun v s1 h1 => ?_
  · obtain ⟨it, e1, k1⟩ := okI_post p1
    obtain ⟨a, b, e2, ⟨vs, lt, rs⟩, w⟩ := items_at s1 r1 e1
    exact ⟨a, b, e2, ⟨vs, lt⟩, k1 F1 ρ1 H1 (Ext.refl _ _) s1 _ (jok_seq w)⟩
  · obtain ⟨x, H1, I1, r1, a, b, e2, ⟨vs, lt⟩, q⟩ := h1
    subst e2
    cases r1
    cases b with
    | true =>
      obtain ⟨its, rv, p, hz⟩ := I1.tuple lt
      refine wpAny_pyIter_tuple (show s1.heap.IsTuple a its.toArray from p) ?_
      refine ⟨_, [s1.heap.objs.size], _, _, H1, rfl, I1.kept (t' := s1.toks) fun b o e => Heap.get?_push_of_some _ e, turn_tuple a _, ⟨_, Heap.get?_push_size _ rfl, rfl, rfl⟩, fun b hb => ?_, q⟩
      obtain rfl : b = s1.heap.objs.size := List.mem_singleton.mp hb
      exact I1.fpOk (Nat.le_refl _) (I1.hok.fresh (Nat.le_refl _))
    | false =>
      obtain ⟨its, rv, p, hz⟩ := I1.list lt
      refine wpAny_pyIter_list p.isList ?_
      refine ⟨_, [s1.heap.objs.size], _, _, H1, rfl, I1.kept (t' := s1.toks) fun b o e => Heap.get?_push_of_some _ e, turn_list a _, ⟨_, Heap.get?_push_size _ rfl, rfl, rfl⟩, fun b hb => ?_, q⟩
      obtain rfl : b = s1.heap.objs.size := List.mem_singleton.mp hb
      exact I1.fpOk (Nat.le_refl _) (I1.hok.fresh (Nat.le_refl _))

/-! ### range -/
def rangeD (lo : Int) (m : Nat) : List D := (List.range m).map fun j => .int (lo + (j : Nat))
def sm62 (i : Int) : Bool := decide (-(2 ^ 62) ≤ i) && decide (i < 2 ^ 62)
def iRange (as : EvL) : EvI := fun σ h => (as σ h).bind fun ds h1 => match ds with
  | [.int j] => if sm62 j = true then .ok ⟨rangeD 0 j.toNat, noChk⟩ h1 else .bad
  | [.int i, .int j] => if (sm62 i && sm62 j) = true then .ok ⟨rangeD i (j - i).toNat, noChk⟩ h1 else .bad
  | _ => .bad
theorem jok_range {T : Tb} {F : Hp} {ρ : List Addr} {lo : Int} {m : Nat} : JOk T F ρ ⟨rangeD lo m, noChk⟩ (Itr lo m) := by
  intro i pr F' ρ' H' h' x s hc
  have hl : (rangeD lo m).length = m := by unfold rangeD; simp
  refine ⟨fun d hd => ?_, fun hl' => by rw [hl] at hl'; exact hl'⟩
  have hi : i < m := by
    have := (List.getElem?_eq_some_iff.mp hd).1
    rw [hl] at this; exact this
  refine ⟨hi, fun y H'' ⟨e, q⟩ => ⟨F', ρ', Ext.refl _ _, by rw [e]; exact s, ?_⟩⟩
  have : (rangeD lo m)[i]? = some (.int (lo + (i : Nat))) := by unfold rangeD; simp [hi]
  rw [this] at hd; cases hd
  rw [q]; exact .int _
theorem sm62_iff {i : Int} (h : sm62 i = true) : -(2 ^ 62) ≤ i ∧ i < 2 ^ 62 := by
  unfold sm62 at h
  rw [Bool.and_eq_true, decide_eq_true_eq, decide_eq_true_eq] at h
  exact h
theorem si_range1 (c : Cc L n k W ow N sc X) (hg : gloB sc "range" = true) (hm : X.mg "range" = none) {a : Expr} {as : EvL} {p1 : Pos} (ha : SA X n W [a] as) (hs : starEach [a] X.env = [(false, eval a X.env)]) (hlen : ∀ σ h ds h', as σ h = .ok ds h' → ds.length = 1) : SI X n W tg (.Call (.Name "range" p1) [a] [] pos) (iRange as) := by
  refine PI_imp (pi_range1 (c.glo hg) hm ha hs) fun τ H Q q => ?_
  obtain ⟨pr, F, ρ, h, σ, sr, l, p⟩ := q
  have aux : ∀ ds h', as σ h = .ok ds h' → ds.length = 1 := fun ds h' e => hlen _ _ _ _ e
  refine ⟨_, F, ρ, h, σ, sr, l, ?_⟩
  unfold iRange at p
  cases e : as σ h with
  | exc x h' => rw [e] at p; exact p
  | bad => rw [e] at p; exact p
  | ok ds h1 =>
    have e1 := aux _ _ e
    rw [e] at p
    intro F' ρ' H' v x s' r
    cases r with
    | nil => cases e1
    | cons r1 r2 =>
      cases r2 with
      | cons r3 r4 => simp at e1
      | nil =>
        simp only [Res.bind] at p
        cases r1 with
        | int j =>
          dsimp only at p
          split at p
          · rename_i hb
            obtain ⟨b1, b2⟩ := sm62_iff hb
            exact ⟨j, rfl, b1, b2, p F' ρ' H' x s' _ jok_range⟩
          · exact p.elim
        | _ => exact p.elim
theorem si_range2 (c : Cc L n k W ow N sc X) (hg : gloB sc "range" = true) (hm : X.mg "range" = none) {a b : Expr} {as : EvL} {p1 : Pos} (ha : SA X n W [a, b] as) (hs : starEach [a, b] X.env = [(false, eval a X.env), (false, eval b X.env)]) (hs2 : starEach [b] X.env = [(false, eval b X.env)])
    (hlen : ∀ σ h ds h', as σ h = .ok ds h' → ds.length = 2) : SI X n W tg (.Call (.Name "range" p1) [a, b] [] pos) (iRange as) := by
  refine PI_imp (pi_range2 (c.glo hg) hm ha hs hs2) fun τ H Q q => ?_
  obtain ⟨pr, F, ρ, h, σ, sr, l, p⟩ := q
  refine ⟨_, F, ρ, h, σ, sr, l, ?_⟩
  unfold iRange at p
  cases e : as σ h with
  | exc x h' => rw [e] at p; exact p
  | bad => rw [e] at p; exact p
  | ok ds h1 =>
    have e1 := hlen _ _ _ _ e
    rw [e] at p
    intro F' ρ' H' v x s' r
    match ds, r, e1 with
    | [_, _], .cons r1 (.cons r2 .nil), _ =>
      simp only [Res.bind] at p
      cases r1 with
      | int i =>
        cases r2 with
        | int j =>
          dsimp only at p
          split at p
          · rename_i hb
            rw [Bool.and_eq_true] at hb
            obtain ⟨b1, b2⟩ := sm62_iff hb.1
            obtain ⟨b3, b4⟩ := sm62_iff hb.2
            exact ⟨i, j, rfl, ⟨b1, b2, b3, b4⟩, p F' ρ' H' x s' _ jok_range⟩
          · exact p.elim
        | _ => exact p.elim
      | _ => exact p.elim

/-! ### zip -/
def isTupB : D → Bool
  | .tup _ => true
  | _ => false
def zipD (a b : List D) : List D := (a.zip b).map fun p => .tup [p.1, p.2]
def iZipM (as : EvL) : EvI := fun σ h => (as σ h).bind fun ds h1 => match ds with
  | [x, y] => if isTupB x = isTupB y then match itemsOf h1 x, itemsOf h1 y with
    | some a, some b => .ok ⟨zipD a.xs b.xs, fun h => a.chk h && b.chk h⟩ h1
    | _, _ => .bad
    else .bad
  | _ => .bad
theorem isTupB_of {h : MH} {T : Tb} {F : Hp} {ρ : List Addr} {H : Hp} (s : SR T F ρ H h) {d : D} {v : V} {it : ItD} (r : Rep T.K F ρ d v) (e : itemsOf h d = some it) : ∃ a, v = .ref a ∧ (∃ vs, LT T.K H a vs (isTupB d) ∧ Reps T.K F ρ it.xs vs) ∧
    ∀ pr F' ρ' H' h', Ext F ρ F' ρ' → SR (T.at pr) F' ρ' H' h' → it.chk h' = true → ∃ vs, LT T.K H' a vs (isTupB d) ∧ Reps T.K F' ρ' it.xs vs := by
  cases r with
  | tup h1 h2 => cases e; exact ⟨_, rfl, ⟨_, sqT_le s.le h1, h2⟩, fun pr F' ρ' H' h' x s' _ => ⟨_, sqT_le s'.le (sqT_le x.le h1), h2.mono x⟩⟩
  | lst h1 h2 => cases e; exact ⟨_, rfl, ⟨_, .of (s.le _ _ h1), h2⟩, fun pr F' ρ' H' h' x s' _ => ⟨_, .of (s'.le _ _ (x.le _ _ h1)), h2.mono x⟩⟩
  | scr h1 => cases e; exact ⟨_, rfl, ⟨_, sqL_le s.le h1, Reps.ints _⟩, fun pr F' ρ' H' h' x s' _ => ⟨_, sqL_le s'.le (sqL_le x.le h1), Reps.ints _⟩⟩
  | @ref n a h1 =>
    unfold itemsOf at e
    dsimp only at e
    split at e
    · rename_i xs hx
      cases e
      obtain ⟨a', e1, e2, vs, e3, e4⟩ := s.at hx
      rw [h1] at e1; cases e1
      refine ⟨a, rfl, ⟨vs, .of e3, e4⟩, fun pr F' ρ' H' h' x s' hc => ?_⟩
      obtain ⟨a', e1, e2, vs, e3, e4⟩ := s'.at (of_decide_eq_true hc)
      rw [pre_get x.pre h1] at e1; cases e1
      exact ⟨vs, .of e3, e4⟩
    · cases e
  | _ => cases e
theorem zipD_get {xs ys : List D} {i : Nat} {d : D} (e : (zipD xs ys)[i]? = some d) : ∃ x y, xs[i]? = some x ∧ ys[i]? = some y ∧ d = .tup [x, y] := by
  unfold zipD at e
  rw [List.getElem?_map, Option.map_eq_some_iff] at e
  obtain ⟨⟨x, y⟩, e1, e2⟩ := e
  rw [List.getElem?_zip_eq_some] at e1
  exact ⟨x, y, e1.1, e1.2, e2.symm⟩
theorem zipD_len (xs ys : List D) : (zipD xs ys).length = min xs.length ys.length := by unfold zipD; simp
theorem jok_zip {T : Tb} {F : Hp} {ρ : List Addr} {it1 it2 : ItD} {a b : Addr} {t : Bool} (w1 : ∀ pr F' ρ' H' h', Ext F ρ F' ρ' → SR (T.at pr) F' ρ' H' h' → it1.chk h' = true → ∃ vs, LT T.K H' a vs t ∧ Reps T.K F' ρ' it1.xs vs)
    (w2 : ∀ pr F' ρ' H' h', Ext F ρ F' ρ' → SR (T.at pr) F' ρ' H' h' → it2.chk h' = true → ∃ vs, LT T.K H' b vs t ∧ Reps T.K F' ρ' it2.xs vs) :
    JOk T F ρ ⟨zipD it1.xs it2.xs, fun h => it1.chk h && it2.chk h⟩ (if t = true then RZ.ItzT T.K a b else Itz T.K a b) := by
  intro i pr F' ρ' H' h' x s hc
  have hc' : (it1.chk h' && it2.chk h') = true := hc
  rw [Bool.and_eq_true] at hc'
  obtain ⟨vs, lt, rs⟩ := w1 pr F' ρ' H' h' x s hc'.1
  obtain ⟨vs2, lt2, rs2⟩ := w2 pr F' ρ' H' h' x s hc'.2
  have fin : ∀ {d1 d2 : D} {v1 v2 : V} {Tt : Addr}, Rep T.K F' ρ' d1 v1 → Rep T.K F' ρ' d2 v2 → H' Tt = none → ∃ F'' ρ'', Ext F' ρ' F'' ρ'' ∧ SR (T.at pr) F'' ρ'' (upd H' Tt (.tup [v1, v2])) h' ∧ Rep T.K F'' ρ'' (.tup [d1, d2]) (.ref Tt) := by
    intro d1 d2 v1 v2 Tt r1 r2 hn
    obtain ⟨s2, ex⟩ := s.frozen (o := .tup [v1, v2]) hn
    exact ⟨_, _, ex, s2, .tup (.of (upd_same ..)) (.cons (r1.mono ex) (.cons (r2.mono ex) .nil))⟩
  cases t with
  | true =>
    refine ⟨fun d hd => ?_, fun hl => ⟨vs, vs2, lt, lt2, ?_⟩⟩
    · obtain ⟨d1, d2, e1, e2, rfl⟩ := zipD_get hd
      obtain ⟨v1, hv1, rv1⟩ := rs.get e1
      obtain ⟨v2, hv2, rv2⟩ := rs2.get e2
      refine ⟨⟨vs, vs2, v1, v2, lt, lt2, hv1, hv2⟩, ?_⟩
      rintro y H'' ⟨Tt, x1, y1, rfl, hn, rfl, q1, q2⟩
      have z1 := q1 vs lt
      have z2 := q2 vs2 lt2
      rw [hv1] at z1; cases z1
      rw [hv2] at z2; cases z2
      exact fin rv1 rv2 hn
    · have hl : (zipD it1.xs it2.xs).length ≤ i := hl
      rw [zipD_len, rs.length, rs2.length] at hl; omega
  | false =>
    refine ⟨fun d hd => ?_, fun hl => ⟨vs, vs2, lt, lt2, ?_⟩⟩
    · obtain ⟨d1, d2, e1, e2, rfl⟩ := zipD_get hd
      obtain ⟨v1, hv1, rv1⟩ := rs.get e1
      obtain ⟨v2, hv2, rv2⟩ := rs2.get e2
      refine ⟨⟨vs, vs2, v1, v2, lt, lt2, hv1, hv2⟩, ?_⟩
      rintro y H'' ⟨Tt, x1, y1, rfl, hn, rfl, q1, q2⟩
      have z1 := q1 vs lt
      have z2 := q2 vs2 lt2
      rw [hv1] at z1; cases z1
      rw [hv2] at z2; cases z2
      exact fin rv1 rv2 hn
    · have hl : (zipD it1.xs it2.xs).length ≤ i := hl
      rw [zipD_len, rs.length, rs2.length] at hl; omega
theorem si_zip (c : Cc L n k W ow N sc X) (hg : gloB sc "zip" = true) (hm : X.mg "zip" = none) {e e2 : Expr} {as : EvL} {p1 tp : Pos} {elts : List Expr} {kk : Nat} (ha : SA X n W [e, e2] as) (hs : starEach [e, e2] X.env = (false, eval e X.env) :: starEach [e2] X.env)
    (hpl : (backTo pos (starEach [e2] X.env)).any (·.1) = false) (hlen : ∀ σ h ds h', as σ h = .ok ds h' → ds.length = 2) : SI X n W (.Tuple elts kk tp) (.Call (.Name "zip" p1) [e, e2] [] pos) (iZipM as) := by
  refine PI_imp (RZ.pi_zipA (c.glo hg) hm ha hs hpl) fun τ H Q q => ?_
  obtain ⟨pr, F, ρ, h, σ, sr, l, p⟩ := q
  refine ⟨_, F, ρ, h, σ, sr, l, ?_⟩
  unfold iZipM at p
  cases e : as σ h with
  | exc x h' => rw [e] at p; exact p
  | bad => rw [e] at p; exact p
  | ok ds h1 =>
    have e1 := hlen _ _ _ _ e
    rw [e] at p
    intro F' ρ' H' v x s' r
    match ds, r, e1 with
    | [d1, d2], .cons r1 (.cons r2 .nil), _ =>
      simp only [Res.bind] at p
      split at p
      · rename_i ht
        cases i1 : itemsOf h1 d1 with
        | none => rw [i1] at p; exact p.elim
        | some it1 =>
          cases i2 : itemsOf h1 d2 with
          | none => rw [i1, i2] at p; exact p.elim
          | some it2 =>
            rw [i1, i2] at p
            obtain ⟨a, rfl, ⟨vs, lt, rs⟩, w1⟩ := isTupB_of s' r1 i1
            obtain ⟨b, rfl, ⟨vs2, lt2, rs2⟩, w2⟩ := isTupB_of s' r2 i2
            rw [← ht] at lt2 w2
            have q := p F' ρ' H' x s' _ (jok_zip w1 w2)
            refine ⟨a, b, vs, vs2, rfl, ?_⟩
            cases ht' : isTupB d1 with
            | true => rw [ht'] at lt lt2 q; exact .inr ⟨lt, lt2, q⟩
            | false => rw [ht'] at lt lt2 q; exact .inl ⟨lt, lt2, q⟩
      · exact p.elim

/-! ### for -/
def loopM (g : EvG) (b : EvS) (chk : MH → Bool) : List D → EvS
  | [] => fun σ h => if chk h = true then .nx σ h else .bad
  | d :: ds => fun σ h => if chk h = true then match g d σ h with
    | some (σ1, h1) => match b σ1 h1 with
      | .nx σ2 h2 => loopM g b chk ds σ2 h2
      | .ct σ2 h2 => loopM g b chk ds σ2 h2
      | .bk σ2 h2 => .nx σ2 h2
      | .rt v h2 => .rt v h2
      | .ex x σ2 h2 => .ex x σ2 h2
      | .bad => .bad
    | none => .bad
    else .bad
def sFor (fi : EvI) (g : EvG) (b : EvS) : EvS := fun σ h => (fi σ h).fl σ fun it h1 => loopM g b it.chk it.xs σ h1
theorem s_for (c : Cc L n k W ow N sc X) {iter : Expr} {body : List Stmt} {fi : EvI} {g : EvG} {gs : List Nat} {b : EvS} (hi : SI X n W tg iter fi) (hg : SG X n tg gs g) (hb : SSs X n W body b) (hs : ∀ x, foldedSetIterable iter X.env x = pure x) : SS X n W (.For tg iter body [] pos) (sFor fi g b) :=
  PS_imp (ps_for c.ps c.calm hi hg hb hs) fun Dn τ H q => by
  obtain ⟨pr, F, ρ, h, σ, s, l, p⟩ := q
  refine ⟨_, F, ρ, h, σ, s, l, ?_⟩
  unfold sFor at p
  cases e : fi σ h with
  | bad => rw [e] at p; exact p
  | exc x h' => rw [e] at p; exact fun F' ρ' H' cl dd x s' xi => p F' ρ' H' τ cl dd x s' (l.mono x) xi
  | ok it h1 =>
    rw [e] at p
    simp only [Res.fl] at p
    intro F0 ρ0 H0 x0 s0 J jok
    refine ⟨fun i m τ' H' => m = it.xs.length - i ∧ i ≤ it.xs.length ∧ ∃ F2 ρ2 h2 σ2, Ext F0 ρ0 F2 ρ2 ∧ SR ((tb X n).at pr) F2 ρ2 H' h2 ∧ SLR X.K F2 ρ2 σ2 τ' ∧ PostS ((tb X n).at pr) W F2 ρ2 (loopM g b it.chk (it.xs.drop i) σ2 h2) Dn,
      ⟨it.xs.length, by simp, Nat.zero_le _, F0, ρ0, h1, σ, Ext.refl _ _, s0, l.mono x0, PostS.mono' x0 p⟩, ?_⟩
    rintro i m τ' H' ⟨rfl, hi, F2, ρ2, h2, σ2, x2, s2, l2, p2⟩
    by_cases hlt : i < it.xs.length
    · have hd : it.xs[i]? = some it.xs[i] := List.getElem?_eq_getElem hlt
      rw [List.drop_eq_getElem_cons hlt] at p2
      unfold loopM at p2
      split at p2
      · rename_i hc
        obtain ⟨k1, _⟩ := jok i pr F2 ρ2 H' h2 x2 s2 hc
        obtain ⟨go, yl⟩ := k1 _ hd
        refine .inr ⟨go, fun τ3 H3 => ∃ F3 ρ3 h3 σ3, Ext F0 ρ0 F3 ρ3 ∧ SR ((tb X n).at pr) F3 ρ3 H3 h3 ∧ SLR X.K F3 ρ3 σ3 τ3 ∧ PostS ((tb X n).at pr) W F3 ρ3 (loopM g b it.chk (it.xs.drop (i + 1)) σ3 h3) Dn, ?_, ?_⟩
        · exact fun τ3 H3 w3 => ⟨it.xs.length - (i + 1), by omega, rfl, hlt, w3⟩
        · intro v H3 y
          obtain ⟨F3, ρ3, x3, s3, r3⟩ := yl v H3 y
          refine ⟨_, F3, ρ3, h2, σ2, _, s3, l2.mono x3, r3, ?_⟩
          cases eg : g it.xs[i] σ2 h2 with
          | none => rw [eg] at p2; exact p2
          | some y =>
            obtain ⟨σ4, h4⟩ := y
            rw [eg] at p2
            dsimp only at p2
            intro F4 ρ4 H4 τ4 x4 s4 l4 _
            refine ⟨_, F4, ρ4, h4, σ4, s4, l4, ?_⟩
            have x24 := x3.trans x4
            cases eb : b σ4 h4 with
            | nx σ5 h5 =>
              rw [eb] at p2
              exact fun F5 ρ5 H5 τ5 x5 s5 l5 => ⟨F5, ρ5, h5, σ5, x2.trans (x24.trans x5), s5, l5, PostS.mono' (x24.trans x5) p2⟩
            | ct σ5 h5 =>
              rw [eb] at p2
              exact fun F5 ρ5 H5 τ5 x5 s5 l5 => ⟨F5, ρ5, h5, σ5, x2.trans (x24.trans x5), s5, l5, PostS.mono' (x24.trans x5) p2⟩
            | bk σ5 h5 => rw [eb] at p2; exact fun F5 ρ5 H5 τ5 x5 s5 l5 => p2 F5 ρ5 H5 τ5 (x24.trans x5) s5 l5
            | rt d5 h5 => rw [eb] at p2; exact fun F5 ρ5 H5 τ5 x5 s5 l5 => p2 F5 ρ5 H5 τ5 (x24.trans x5) s5 l5
            | ex y5 σ5 h5 => rw [eb] at p2; exact fun F5 ρ5 H5 τ5 c5 d5 x5 s5 l5 xi => p2 F5 ρ5 H5 τ5 c5 d5 (x24.trans x5) s5 l5 xi
            | bad => rw [eb] at p2; exact p2
      · exact p2.elim
    · have hi' : i = it.xs.length := by omega
      subst hi'
      rw [List.drop_length] at p2
      unfold loopM at p2
      split at p2
      · rename_i hc
        obtain ⟨_, k2⟩ := jok it.xs.length pr F2 ρ2 H' h2 x2 s2 hc
        exact .inl ⟨k2 (Nat.le_refl _), p2 F2 ρ2 H' τ' (Ext.refl _ _) s2 l2⟩
      · exact p2.elim
end
end MI

/-! MI, part H: new lists; comprehensions. -/
namespace MI
open PySem PySem.Spec L2

/-- a new list: a value, or a numbered one -/
def mkL (b : Bool) (xs : List D) (h : MH) : Res D := if b = true then .ok (.ref h.length) (h ++ [.lst xs]) else .ok (.lst xs) h
section
variable {T : Tb} {F : Hp} {ρ : List Addr} {H : Hp} {h : MH}
theorem mkL_at {b : Bool} {xs : List D} {Q : VK} {E : XK} (p : Post T F ρ (mkL b xs h) Q E) (s : SR T F ρ H h) {a : Addr} {vs : List V} (hF : F a = none) (hn : ∀ n : Nat, ρ[n]? ≠ some a) (hH : H a = some (.lst vs)) (hp : T.pr a = none) (r : Reps T.K F ρ xs vs) : Q (.ref a) H := by
  unfold mkL at p
  cases b with
  | true =>
    obtain ⟨s2, ex, e⟩ := s.adopt (o := .lst xs) hF hn hp fun F' ρ' x => ⟨vs, hH, r.mono x⟩
    exact p _ _ _ _ ex s2 (.ref e)
  | false =>
    obtain ⟨s2, ex⟩ := s.freeze hF hn hH hp
    exact p _ _ _ _ ex s2 (.lst (upd_same ..) (r.mono ex))
/-- fresh: laid and told -/
theorem mkL_new {b : Bool} {xs : List D} {Q : VK} {E : XK} (p : Post T F ρ (mkL b xs h) Q E) (s : SR T F ρ H h) {vs : List V} (r : Reps T.K F ρ xs vs) {a : Addr} (ha : H a = none) : Q (.ref a) (upd H a (.lst vs)) := by
  refine mkL_at p (s.grow (H' := upd H a (.lst vs)) fun c u e => by rw [upd_ne (ne_of_none e ha)]; exact e) (s.le.none ha) (fun n e => s.notin ha n a e rfl) (upd_same ..) ?_ r
  cases e : T.pr a with
  | none => rfl
  | some u => have := (s.prt a u e).1; rw [ha] at this; cases this
end

/-! ### comprehensions -/
def compM (g : EvG) (t : EvB) (e : Ev) (chk : MH → Bool) (σ0 : Sl) : List D → MH → List D → Res (List D)
  | [], h, acc => if chk h = true then .ok acc h else .bad
  | d :: ds, h, acc => if chk h = true then match g d σ0 h with
    | some (σ1, h1) => match t σ1 h1 with
      | .ok true h2 => match e σ1 h2 with
        | .ok v h3 => if acc.length < lim then compM g t e chk σ0 ds h3 (acc ++ [v]) else .bad
        | _ => .bad
      | .ok false h2 => compM g t e chk σ0 ds h2 acc
      | _ => .bad
    | none => .bad
    else .bad
def bYes : EvB := fun _ h => .ok true h
/-- targets of a comprehension touch its own slots alone -/
def OwnG (g : EvG) (vs : List Nat) : Prop := ∀ d σ h σ' h', g d σ h = some (σ', h') → wipeM σ' vs = wipeM σ vs
def eComp (b : Bool) (fi : EvI) (g : EvG) (t : EvB) (e : Ev) (vs : List Nat) : Ev := fun σ h => (fi σ h).bind fun it h1 => (compM g t e it.chk (wipeM σ vs) it.xs h1 []).bind fun acc h2 => mkL b acc h2

abbrev STs (X : Cx) (n : Nm) (W : WX) (ifs : List Expr) (f : EvB) : Prop := PTs X ifs (tMB (tb X n) W f)
section
variable {L : Md → Prop} {n : Nm} {k : Nat} {W : WX} {ow : Str → Bool} {N : List Str} {sc : Scope} {X : Cx} {pos : Pos} {tg : Expr}
theorem sts_nil : STs X n W [] bYes := ⟨fun pins s σ H Q I q => pts_nil.run pins s σ H Q I (by
  obtain ⟨pr, F, ρ, h, σ', sr, l, p⟩ := q
  exact p F ρ H (Ext.refl _ _) sr)⟩
theorem sts_one {c : Expr} {f : EvB} (h : ST X n W c f) : STs X n W [c] f := pts_one h

/-- what is wanted behind a comprehension's loop, by its own list's place -/
def PostC (T : Tb) (F : Hp) (ρ : List Addr) (a : Addr) (r : Res (List D)) (Q : Hp → Prop) : Prop :=
  match r with
  | .ok acc h => ∀ F' ρ' H' vs, Ext F ρ F' ρ' → SR T F' ρ' H' h → F' a = none → (∀ n : Nat, ρ'[n]? ≠ some a) → H' a = some (.lst vs) → Reps T.K F' ρ' acc vs → Q H'
  | _ => False
theorem PostC.mono {T : Tb} {F F' : Hp} {ρ ρ' : List Addr} {a : Addr} {r : Res (List D)} {Q : Hp → Prop} (x : Ext F ρ F' ρ') (p : PostC T F ρ a r Q) : PostC T F' ρ' a r Q := by
  cases r with
  | ok acc h => exact fun F2 ρ2 H2 vs y => p F2 ρ2 H2 vs (x.trans y)
  | exc y h => exact p
  | bad => exact p
def seenP (pr : Addr → Option HO) (a : Addr) (u : HO) : Addr → Option HO := fun b => if b = a then some u else pr b
theorem SR.seen {T : Tb} {F : Hp} {ρ : List Addr} {H : Hp} {h : MH} {pr : Addr → Option HO} (s : SR (T.at pr) F ρ H h) {a : Addr} {u : HO} (hF : F a = none) (hn : ∀ n : Nat, ρ[n]? ≠ some a) (hH : H a = some u) : SR (T.at (seenP pr a u)) F ρ H h :=
  s.watch fun b v e => by
    unfold seenP at e
    split at e
    · rename_i z; cases e; subst z; exact ⟨hH, hF, hn⟩
    · exact s.prt b v e
theorem SR.unseen {T : Tb} {F : Hp} {ρ : List Addr} {H : Hp} {h : MH} {pr : Addr → Option HO} {a : Addr} {u : HO} (s : SR (T.at (seenP pr a u)) F ρ H h) (hp : pr a = none) : H a = some u ∧ F a = none ∧ (∀ n : Nat, ρ[n]? ≠ some a) ∧ SR (T.at pr) F ρ H h := by
  have q := s.prt a u (by show seenP pr a u a = _; unfold seenP; rw [if_pos rfl])
  refine ⟨q.1, q.2.1, q.2.2, s.watch fun b v e => s.prt b v ?_⟩
  show seenP pr a u b = _
  unfold seenP
  rw [if_neg fun z => by subst z; rw [hp] at e; cases e]
  exact e

theorem wipe_twice (τ : Tv) (vs : List Nat) : L2.wipe (L2.wipe τ vs) vs = L2.wipe τ vs := List.ext_getElem? fun i => by
  rw [wipe_at, wipe_at, L2.wipe_length]
  split <;> rfl
theorem pr_none {T : Tb} {F : Hp} {ρ : List Addr} {H : Hp} {h : MH} {pr : Addr → Option HO} (s : SR (T.at pr) F ρ H h) {a : Addr} (ha : H a = none) : pr a = none := by
  cases e : pr a with
  | none => rfl
  | some u => have := (s.prt a u e).1; rw [ha] at this; cases this

/-- one clause: the walk of the loop -/
theorem comp_walk {T : Tb} {fi : EvI} {g : EvG} {gs : List Nat} {t : EvB} {e : Ev} {vs : List Nat} {τ : Tv} {H : Hp} {Qd : Addr → Hp → Prop} {W : WX} {pr : Addr → Option HO} {F : Hp} {ρ : List Addr} {h : MH} {σ : Sl} (og : ∀ i ∈ gs, i ∈ vs) (l : SLR T.K F ρ σ τ)
    (s : SR (T.at pr) F ρ H h) (p : match fi σ h with
      | .ok it h1 => ∀ a F' ρ' H', Ext F ρ F' ρ' → SR (T.at pr) F' ρ' H' h1 → H' a = none → PostC (T.at pr) F' ρ' a (compM g t e it.chk (wipeM σ vs) it.xs h1 []) (Qd a)
      | .exc x h1 => ∀ F' ρ' H' cls dd, Ext F ρ F' ρ' → SR (T.at pr) F' ρ' H' h1 → XIs (T.at pr) x F' ρ' H' cls dd → W cls dd τ H'
      | .bad => False) :
    tMI T W fi τ H fun J H1 => ∀ D, H1 D = none → ∃ Wv : Nat → Nat → Hp → Prop, (∃ m, Wv 0 m (upd H1 D (.lst []))) ∧ ∀ i m H, Wv i m H →
      (J.stop i H ∧ Qd D H) ∨ (J.go i H ∧ ∃ Nx : Hp → Prop, (∀ H', Nx H' → ∃ m', m' < m ∧ Wv (i + 1) m' H') ∧ ∀ x H', J.yld i H x H' → tMG T gs g x (L2.wipe τ vs) H' fun σ2 H2 => L2.wipe σ2 vs = L2.wipe τ vs ∧ tMB T noW t σ2 H2 fun b H3 =>
        if b = true then tM T noW e σ2 H3 fun y H4 => ∃ acc, H4 D = some (.lst acc) ∧ acc.length < sizeLine ∧ Nx (upd H4 D (.lst (acc ++ [y]))) else Nx H3) := by
  refine ⟨pr, F, ρ, h, σ, s, l, ?_⟩
  cases ef : fi σ h with
  | bad => rw [ef] at p; exact p
  | exc x h1 => rw [ef] at p; exact p
  | ok it h1 =>
    rw [ef] at p
    intro F0 ρ0 H0 x0 s0 J jok a ha
    have hpa := pr_none s0 ha
    have l0 := l.mono x0
    refine ⟨fun i m H' => m = it.xs.length - i ∧ i ≤ it.xs.length ∧ ∃ F2 ρ2 h2 acc ws, Ext F0 ρ0 F2 ρ2 ∧ SR (T.at pr) F2 ρ2 H' h2 ∧ F2 a = none ∧ (∀ n : Nat, ρ2[n]? ≠ some a) ∧ H' a = some (.lst ws) ∧ Reps T.K F2 ρ2 acc ws ∧ PostC (T.at pr) F2 ρ2 a (compM g t e it.chk (wipeM σ vs) (it.xs.drop i) h2 acc) (Qd a),
      ⟨it.xs.length, by simp, Nat.zero_le _, F0, ρ0, h1, [], [], Ext.refl _ _, s0.grow (fun c u q => by rw [upd_ne (ne_of_none q ha)]; exact q), s0.le.none ha, fun n q => s0.notin ha n a q rfl, upd_same .., .nil, p a F0 ρ0 H0 x0 s0 ha⟩, ?_⟩
    rintro i m H' ⟨rfl, hi, F2, ρ2, h2, acc, ws, x2, s2, f2, n2, e2, rs2, p2⟩
    by_cases hlt : i < it.xs.length
    · have hd : it.xs[i]? = some it.xs[i] := List.getElem?_eq_getElem hlt
      rw [List.drop_eq_getElem_cons hlt] at p2
      unfold compM at p2
      split at p2
      · rename_i hc
        obtain ⟨k1, _⟩ := jok i (seenP pr a (.lst ws)) F2 ρ2 H' h2 x2 (s2.seen f2 n2 e2) hc
        obtain ⟨go, yl⟩ := k1 _ hd
        refine .inr ⟨go, fun H3 => ∃ F3 ρ3 h3 acc3 ws3, Ext F0 ρ0 F3 ρ3 ∧ SR (T.at pr) F3 ρ3 H3 h3 ∧ F3 a = none ∧ (∀ n : Nat, ρ3[n]? ≠ some a) ∧ H3 a = some (.lst ws3) ∧ Reps T.K F3 ρ3 acc3 ws3 ∧ PostC (T.at pr) F3 ρ3 a (compM g t e it.chk (wipeM σ vs) (it.xs.drop (i + 1)) h3 acc3) (Qd a),
          fun H3 w3 => ⟨it.xs.length - (i + 1), by omega, rfl, hlt, w3⟩, fun v H3 y => ?_⟩
        obtain ⟨F3, ρ3, x3, s3, r3⟩ := yl v H3 y
        refine ⟨_, F3, ρ3, h2, wipeM σ vs, _, s3, ((l0.mono x2).mono x3).wipe vs, r3, ?_⟩
        cases eg : g it.xs[i] (wipeM σ vs) h2 with
        | none => rw [eg] at p2; exact p2
        | some y =>
          obtain ⟨σ4, h4⟩ := y
          rw [eg] at p2
          dsimp only at p2
          intro F4 ρ4 H4 τ4 x4 s4 l4 t4
          refine ⟨(t4.wipe og).trans (wipe_twice τ vs), _, F4, ρ4, h4, σ4, s4, l4, ?_⟩
          have x24 := x3.trans x4
          cases eb : t σ4 h4 with
          | bad => rw [eb] at p2; exact p2
          | exc y h5 => rw [eb] at p2; exact p2.elim
          | ok b h5 =>
            rw [eb] at p2
            intro F5 ρ5 H5 x5 s5
            have x25 := x24.trans x5
            cases b with
            | false =>
              rw [if_neg Bool.false_ne_true]
              obtain ⟨a1, a2, a3, a4⟩ := s5.unseen hpa
              exact ⟨F5, ρ5, h5, acc, ws, x2.trans x25, a4, a2, a3, a1, rs2.mono x25, PostC.mono x25 p2⟩
            | true =>
              rw [if_pos rfl]
              dsimp only at p2
              refine ⟨_, F5, ρ5, h5, σ4, s5, l4.mono x5, ?_⟩
              cases ee : e σ4 h5 with
              | bad => rw [ee] at p2; exact p2
              | exc y h6 => rw [ee] at p2; exact p2.elim
              | ok v6 h6 =>
                rw [ee] at p2
                dsimp only at p2
                intro F6 ρ6 H6 vv x6 s6 r6
                have x26 := x25.trans x6
                obtain ⟨a1, a2, a3, a4⟩ := s6.unseen hpa
                split at p2
                · rename_i hlen
                  have rsx := rs2.mono x26
                  refine ⟨ws, a1, ?_, F6, ρ6, h6, acc ++ [v6], ws ++ [vv], x2.trans x26, a4.other a2 (fun n c q z => a3 n (by rw [← z]; exact q)) (fun gs q => by rw [a1] at q; cases q) hpa, a2, a3, upd_same .., rsx.append (.cons r6 .nil), PostC.mono x26 p2⟩
                  rw [← rs2.length]
                  exact Nat.lt_of_lt_of_le hlen (lim_ok (Nat.le_refl _))
                · exact p2.elim
      · exact p2.elim
    · have hi' : i = it.xs.length := by omega
      subst hi'
      rw [List.drop_length] at p2
      unfold compM at p2
      split at p2
      · rename_i hc
        obtain ⟨_, k2⟩ := jok it.xs.length pr F2 ρ2 H' h2 x2 s2 hc
        exact .inl ⟨k2 (Nat.le_refl _), p2 F2 ρ2 H' ws (Ext.refl _ _) s2 f2 n2 e2 rs2⟩
      · exact p2.elim
/-- the end of a comprehension -/
theorem comp_pre {T : Tb} {W : WX} {fi : EvI} {g : EvG} {t : EvB} {e : Ev} {vs : List Nat} {b : Bool} {τ : Tv} {Q : VK} {pr : Addr → Option HO} {F : Hp} {ρ : List Addr} {h : MH} {σ : Sl} (p : Post (T.at pr) F ρ (eComp b fi g t e vs σ h) Q fun c d H' => W c d τ H') :
    match fi σ h with
      | .ok it h1 => ∀ a F' ρ' H', Ext F ρ F' ρ' → SR (T.at pr) F' ρ' H' h1 → H' a = none → PostC (T.at pr) F' ρ' a (compM g t e it.chk (wipeM σ vs) it.xs h1 []) (fun H => Q (.ref a) H)
      | .exc x h1 => ∀ F' ρ' H' cls dd, Ext F ρ F' ρ' → SR (T.at pr) F' ρ' H' h1 → XIs (T.at pr) x F' ρ' H' cls dd → W cls dd τ H'
      | .bad => False := by
  unfold eComp at p
  cases ef : fi σ h with
  | bad => rw [ef] at p; exact p
  | exc x h1 => rw [ef] at p; exact p
  | ok it h1 =>
    rw [ef] at p
    dsimp only
    intro a F' ρ' H' x s ha
    simp only [Res.bind] at p
    cases ec : compM g t e it.chk (wipeM σ vs) it.xs h1 [] with
    | bad => rw [ec] at p; exact p
    | exc y h2 =>
      exfalso
      have : ∀ (ds : List D) (h : MH) (acc : List D) y h2, compM g t e it.chk (wipeM σ vs) ds h acc ≠ .exc y h2 := by
        intro ds
        induction ds with
        | nil => intro h acc y h2 q; unfold compM at q; split at q <;> cases q
        | cons d ds ih =>
          intro h acc y h2 q
          unfold compM at q
          repeat' split at q
          all_goals first
            | cases q
            | exact ih _ _ _ _ q
      exact this _ _ _ _ _ ec
    | ok acc h2 =>
      rw [ec] at p
      have hpa := pr_none s ha
      intro F2 ρ2 H2 ws x2 s2 f2 n2 e2 rs
      exact mkL_at (Post.mono (x.trans x2) p fun _ _ q => q) s2 f2 n2 e2 hpa rs
theorem se_comp (c : Cc L n k W ow N sc X) {elt iter : Expr} {ifs : List Expr} {scope : Scope} {own : List (Str × Nat)} {fi : EvI} {g : EvG} {gs : List Nat} {t : EvB} {e : Ev} (b : Bool) (hi : SI X n W tg iter fi) (hb : blkC N sc scope own = true) (og : ∀ i ∈ gs, i ∈ own.map (·.2))
    (hg : ∀ Y : Cx, Cc L n k noW (fun x => scope.names.lookup x == some .cell) N (relS scope sc) Y → md Y = md X → SG Y n tg gs g) (ht : ∀ Y : Cx, Cc L n k noW (fun x => scope.names.lookup x == some .cell) N (relS scope sc) Y → md Y = md X → STs Y n noW ifs t)
    (he : ∀ Y : Cx, Cc L n k noW (fun x => scope.names.lookup x == some .cell) N (relS scope sc) Y → md Y = md X → SE Y n noW elt e) (hs : ∀ x, foldedSetIterable iter X.env x = pure x) : SE X n W (.ListComp elt [⟨tg, iter, ifs, 0⟩] scope pos) (eComp b fi g t e (own.map (·.2))) := by
  refine PE_imp (pe_lc (te := tM (tb X n) noW e) (tt := tMB (tb X n) noW t) (g := tMG (tb X n) gs g) c.calm c.nd' hi (blkOk_by (by rw [c.hN, c.hs]; exact hb)) (fun s H C cl fp => hg _ (c.blk s H scope cl C fp (blkOk_by hb).kind) rfl) (fun s H C cl fp => ht _ (c.blk s H scope cl C fp (blkOk_by hb).kind) rfl) (fun s H C cl fp => he _ (c.blk s H scope cl C fp (blkOk_by hb).kind) rfl) hs) fun τ H Q q => ?_
  obtain ⟨pr, F, ρ, h, σ, s, l, p⟩ := q
  exact comp_walk (Qd := fun a H => Q (.ref a) H) og l s (comp_pre p)
/-- name = [..] -/
theorem s_setComp (c : Cc L n k W ow N sc X) {i : Nat} {y : Str} {py spos : Pos} {elt iter : Expr} {ifs : List Expr} {scope : Scope} {own : List (Str × Nat)} {fi : EvI} {g : EvG} {gs : List Nat} {t : EvB} {e : Ev} (b : Bool) (hy : N[i]? = some y) (hyl : sc.names.lookup y = some .local)
    (hsw : swapsWith (.ListComp elt [⟨tg, iter, ifs, 0⟩] scope pos) (some (.Name y py)) spos.line X.env = pure true) (hi : SI X n W tg iter fi) (hb : blkC N sc scope own = true) (og : ∀ i ∈ gs, i ∈ own.map (·.2))
    (hg : ∀ Y : Cx, Cc L n k noW (fun x => scope.names.lookup x == some .cell) N (relS scope sc) Y → md Y = md X → SG Y n tg gs g) (ht : ∀ Y : Cx, Cc L n k noW (fun x => scope.names.lookup x == some .cell) N (relS scope sc) Y → md Y = md X → STs Y n noW ifs t)
    (he : ∀ Y : Cx, Cc L n k noW (fun x => scope.names.lookup x == some .cell) N (relS scope sc) Y → md Y = md X → SE Y n noW elt e) (hs : ∀ x, foldedSetIterable iter X.env x = pure x) : SS X n W (.Assign [.Name y py] (.ListComp elt [⟨tg, iter, ifs, 0⟩] scope pos) spos) (sAsg (eComp b fi g t e (own.map (·.2))) (gVar i)) := by
  refine PS_imp (ps_setLc (te := tM (tb X n) noW e) (tt := tMB (tb X n) noW t) (g := tMG (tb X n) gs g) c.calm c.nd' (c.ix hy) (by rw [c.hs]; exact hyl) hsw hi (blkOk_by (by rw [c.hN, c.hs]; exact hb)) (fun s H C cl fp => hg _ (c.blk s H scope cl C fp (blkOk_by hb).kind) rfl) (fun s H C cl fp => ht _ (c.blk s H scope cl C fp (blkOk_by hb).kind) rfl) (fun s H C cl fp => he _ (c.blk s H scope cl C fp (blkOk_by hb).kind) rfl) hs) fun Dn τ H q => ?_
  obtain ⟨pr, F, ρ, h, σ, s, l, p⟩ := q
  refine comp_walk (Qd := fun a H => Dn.nx (τ.set i (some (.ref a))) H) og l s (comp_pre (T := tb X n) (W := W) (b := b) (Q := fun v H => Dn.nx (τ.set i (some v)) H) ?_)
  unfold sAsg at p
  cases e1 : eComp b fi g t e (own.map (·.2)) σ h with
  | bad => rw [e1] at p; exact p
  | exc x h1 => rw [e1] at p; exact fun F' ρ' H' cl dd x s' xi => p F' ρ' H' τ cl dd x s' (l.mono x) xi
  | ok d h1 =>
    rw [e1] at p
    exact fun F' ρ' H' v x s' r => p F' ρ' H' _ x s' ((l.mono x).set r i)
end
end MI

/-! MI, part I: comprehensions of two clauses. -/
namespace MI
open PySem PySem.Spec L2
def compM2 (g : EvG) (t : EvB) (f1 : EvI) (g1 : EvG) (t1 : EvB) (e : Ev) (vs1 : List Nat) (chk : MH → Bool) (σ0 : Sl) : List D → MH → List D → Res (List D)
  | [], h, acc => if chk h = true then .ok acc h else .bad
  | d :: ds, h, acc => if chk h = true then match g d σ0 h with
    | some (σ1, h1) => match t σ1 h1 with
      | .ok true h2 => match f1 σ1 h2 with
        | .ok it h3 => (compM g1 t1 e it.chk (wipeM σ1 vs1) it.xs h3 acc).bind fun acc' h4 => compM2 g t f1 g1 t1 e vs1 chk σ0 ds h4 acc'
        | _ => .bad
      | .ok false h2 => compM2 g t f1 g1 t1 e vs1 chk σ0 ds h2 acc
      | _ => .bad
    | none => .bad
    else .bad
def eComp2 (b : Bool) (fi : EvI) (g : EvG) (t : EvB) (f1 : EvI) (g1 : EvG) (t1 : EvB) (e : Ev) (vs vs1 : List Nat) : Ev := fun σ h => (fi σ h).bind fun it h1 => (compM2 g t f1 g1 t1 e vs1 it.chk (wipeM σ vs) it.xs h1 []).bind fun acc h2 => mkL b acc h2
section
variable {L : Md → Prop} {n : Nm} {k : Nat} {W : WX} {ow : Str → Bool} {N : List Str} {sc : Scope} {X : Cx} {pos : Pos} {tg tg1 : Expr}
theorem compM_noexc {g : EvG} {t : EvB} {e : Ev} {chk : MH → Bool} {σ0 : Sl} : ∀ (ds : List D) (h : MH) (acc : List D) y h2, compM g t e chk σ0 ds h acc ≠ .exc y h2 := by
  intro ds
  induction ds with
  | nil => intro h acc y h2 q; unfold compM at q; split at q <;> cases q
  | cons d ds ih =>
    intro h acc y h2 q
    unfold compM at q
    repeat' split at q
    all_goals first
      | cases q
      | exact ih _ _ _ _ q
theorem compM2_noexc {g : EvG} {t : EvB} {f1 : EvI} {g1 : EvG} {t1 : EvB} {e : Ev} {vs1 : List Nat} {chk : MH → Bool} {σ0 : Sl} : ∀ (ds : List D) (h : MH) (acc : List D) y h2, compM2 g t f1 g1 t1 e vs1 chk σ0 ds h acc ≠ .exc y h2 := by
  intro ds
  induction ds with
  | nil => intro h acc y h2 q; unfold compM2 at q; split at q <;> cases q
  | cons d ds ih =>
    intro h acc y h2 q
    unfold compM2 at q
    repeat' split at q
    all_goals first
      | cases q
      | exact ih _ _ _ _ q
      | (rename_i it h3 _
         cases ec : compM g1 t1 e it.chk (wipeM _ vs1) it.xs h3 acc with
         | bad => rw [ec] at q; cases q
         | exc z h5 => exact compM_noexc _ _ _ _ _ ec
         | ok a5 h5 => rw [ec] at q; exact ih _ _ _ _ q)
theorem comp2_walk {T : Tb} {fi f1 : EvI} {g g1 : EvG} {gs gs1 : List Nat} {t t1 : EvB} {e : Ev} {vs vs1 : List Nat} {τ : Tv} {H : Hp} {Qd : Addr → Hp → Prop} {W : WX} {pr : Addr → Option HO} {F : Hp} {ρ : List Addr} {h : MH} {σ : Sl} (og : ∀ i ∈ gs, i ∈ vs) (og1 : ∀ i ∈ gs1, i ∈ vs1) (l : SLR T.K F ρ σ τ)
    (s : SR (T.at pr) F ρ H h) (p : match fi σ h with
      | .ok it h1 => ∀ a F' ρ' H', Ext F ρ F' ρ' → SR (T.at pr) F' ρ' H' h1 → H' a = none → PostC (T.at pr) F' ρ' a (compM2 g t f1 g1 t1 e vs1 it.chk (wipeM σ vs) it.xs h1 []) (Qd a)
      | .exc x h1 => ∀ F' ρ' H' cls dd, Ext F ρ F' ρ' → SR (T.at pr) F' ρ' H' h1 → XIs (T.at pr) x F' ρ' H' cls dd → W cls dd τ H'
      | .bad => False) :
    tMI T W fi τ H fun J H1 => ∀ D, H1 D = none → ∃ Wv : Nat → Nat → Hp → Prop, (∃ m, Wv 0 m (upd H1 D (.lst []))) ∧ ∀ i m H, Wv i m H →
      (J.stop i H ∧ Qd D H) ∨ (J.go i H ∧ ∃ Nx : Hp → Prop, (∀ H', Nx H' → ∃ m', m' < m ∧ Wv (i + 1) m' H') ∧ ∀ x H', J.yld i H x H' → tMG T gs g x (L2.wipe τ vs) H' fun σ2 H2 => L2.wipe σ2 vs = L2.wipe τ vs ∧ tMB T noW t σ2 H2 fun b H3 =>
        if b = true then tMI T noW f1 σ2 H3 fun J1 H4 => ∃ W1 : Nat → Nat → Hp → Prop, (∃ m, W1 0 m H4) ∧ ∀ j k H, W1 j k H →
          (J1.stop j H ∧ Nx H) ∨ (J1.go j H ∧ ∃ Nx1 : Hp → Prop, (∀ H', Nx1 H' → ∃ k', k' < k ∧ W1 (j + 1) k' H') ∧ ∀ x H', J1.yld j H x H' → tMG T gs1 g1 x (L2.wipe σ2 vs1) H' fun σ3 H5 => L2.wipe σ3 vs1 = L2.wipe σ2 vs1 ∧ tMB T noW t1 σ3 H5 fun b H6 =>
            if b = true then tM T noW e σ3 H6 fun y H7 => ∃ acc, H7 D = some (.lst acc) ∧ acc.length < sizeLine ∧ Nx1 (upd H7 D (.lst (acc ++ [y]))) else Nx1 H6)
        else Nx H3) := by
  refine ⟨pr, F, ρ, h, σ, s, l, ?_⟩
  cases ef : fi σ h with
  | bad => rw [ef] at p; exact p
  | exc x h1 => rw [ef] at p; exact p
  | ok it h1 =>
    rw [ef] at p
    intro F0 ρ0 H0 x0 s0 J jok a ha
    have hpa := pr_none s0 ha
    have l0 := l.mono x0
    refine ⟨fun i m H' => m = it.xs.length - i ∧ i ≤ it.xs.length ∧ ∃ F2 ρ2 h2 acc ws, Ext F0 ρ0 F2 ρ2 ∧ SR (T.at pr) F2 ρ2 H' h2 ∧ F2 a = none ∧ (∀ n : Nat, ρ2[n]? ≠ some a) ∧ H' a = some (.lst ws) ∧ Reps T.K F2 ρ2 acc ws ∧ PostC (T.at pr) F2 ρ2 a (compM2 g t f1 g1 t1 e vs1 it.chk (wipeM σ vs) (it.xs.drop i) h2 acc) (Qd a),
      ⟨it.xs.length, by simp, Nat.zero_le _, F0, ρ0, h1, [], [], Ext.refl _ _, s0.grow (fun c u q => by rw [upd_ne (ne_of_none q ha)]; exact q), s0.le.none ha, fun n q => s0.notin ha n a q rfl, upd_same .., .nil, p a F0 ρ0 H0 x0 s0 ha⟩, ?_⟩
    rintro i m H' ⟨rfl, hi, F2, ρ2, h2, acc, ws, x2, s2, f2, n2, e2, rs2, p2⟩
    by_cases hlt : i < it.xs.length
    · have hd : it.xs[i]? = some it.xs[i] := List.getElem?_eq_getElem hlt
      rw [List.drop_eq_getElem_cons hlt] at p2
      unfold compM2 at p2
      split at p2
      · rename_i hc
        obtain ⟨k1, _⟩ := jok i (seenP pr a (.lst ws)) F2 ρ2 H' h2 x2 (s2.seen f2 n2 e2) hc
        obtain ⟨go, yl⟩ := k1 _ hd
        obtain ⟨NX, hNX⟩ : ∃ NX : Hp → Prop, NX = fun H3 => ∃ F3 ρ3 h3 acc3 ws3, Ext F0 ρ0 F3 ρ3 ∧ SR (T.at pr) F3 ρ3 H3 h3 ∧ F3 a = none ∧ (∀ n : Nat, ρ3[n]? ≠ some a) ∧ H3 a = some (.lst ws3) ∧ Reps T.K F3 ρ3 acc3 ws3 ∧ PostC (T.at pr) F3 ρ3 a (compM2 g t f1 g1 t1 e vs1 it.chk (wipeM σ vs) (it.xs.drop (i + 1)) h3 acc3) (Qd a) := ⟨_, rfl⟩
        refine .inr ⟨go, NX, fun H3 w3 => ⟨it.xs.length - (i + 1), by omega, rfl, hlt, by rw [hNX] at w3; exact w3⟩, fun v H3 y => ?_⟩
        obtain ⟨F3, ρ3, x3, s3, r3⟩ := yl v H3 y
        refine ⟨_, F3, ρ3, h2, wipeM σ vs, _, s3, ((l0.mono x2).mono x3).wipe vs, r3, ?_⟩
        cases eg : g it.xs[i] (wipeM σ vs) h2 with
        | none => rw [eg] at p2; exact p2
        | some y =>
          obtain ⟨σ4, h4⟩ := y
          rw [eg] at p2
          dsimp only at p2
          intro F4 ρ4 H4 τ4 x4 s4 l4 t4
          refine ⟨(t4.wipe og).trans (wipe_twice τ vs), _, F4, ρ4, h4, σ4, s4, l4, ?_⟩
          have x24 := x3.trans x4
          cases eb : t σ4 h4 with
          | bad => rw [eb] at p2; exact p2
          | exc y h5 => rw [eb] at p2; exact p2.elim
          | ok b h5 =>
            rw [eb] at p2
            intro F5 ρ5 H5 x5 s5
            have x25 := x24.trans x5
            cases b with
            | false =>
              rw [if_neg Bool.false_ne_true]
              obtain ⟨a1, a2, a3, a4⟩ := s5.unseen hpa
              rw [hNX]
              exact ⟨F5, ρ5, h5, acc, ws, x2.trans x25, a4, a2, a3, a1, rs2.mono x25, PostC.mono x25 p2⟩
            | true =>
              rw [if_pos rfl]
              dsimp only at p2
              have l5 := l4.mono x5
              refine ⟨_, F5, ρ5, h5, σ4, s5, l5, ?_⟩
              cases e1 : f1 σ4 h5 with
              | bad => rw [e1] at p2; exact p2
              | exc y h6 => rw [e1] at p2; exact p2.elim
              | ok it1 h6 =>
                rw [e1] at p2
                dsimp only at p2
                intro F6 ρ6 H6 x6 s6 J1 jok1
                have x26 := x25.trans x6
                obtain ⟨b1, b2, b3, b4⟩ := s6.unseen hpa
                refine ⟨fun j m H' => m = it1.xs.length - j ∧ j ≤ it1.xs.length ∧ ∃ F7 ρ7 h7 ac7 ws7, Ext F6 ρ6 F7 ρ7 ∧ SR (T.at pr) F7 ρ7 H' h7 ∧ F7 a = none ∧ (∀ n : Nat, ρ7[n]? ≠ some a) ∧ H' a = some (.lst ws7) ∧ Reps T.K F7 ρ7 ac7 ws7 ∧
                    PostC (T.at pr) F7 ρ7 a ((compM g1 t1 e it1.chk (wipeM σ4 vs1) (it1.xs.drop j) h7 ac7).bind fun acc' h4 => compM2 g t f1 g1 t1 e vs1 it.chk (wipeM σ vs) (it.xs.drop (i + 1)) h4 acc') (Qd a),
                  ⟨it1.xs.length, by simp, Nat.zero_le _, F6, ρ6, h6, acc, ws, Ext.refl _ _, b4, b2, b3, b1, rs2.mono x26, PostC.mono x26 p2⟩, ?_⟩
                rintro j m H' ⟨rfl, hj, F7, ρ7, h7, ac7, ws7, x7, s7, f7, n7, e7, rs7, p7⟩
                by_cases hlt1 : j < it1.xs.length
                · have hd1 : it1.xs[j]? = some it1.xs[j] := List.getElem?_eq_getElem hlt1
                  rw [List.drop_eq_getElem_cons hlt1] at p7
                  unfold compM at p7
                  split at p7
                  · rename_i hc1
                    obtain ⟨k1, _⟩ := jok1 j (seenP pr a (.lst ws7)) F7 ρ7 H' h7 x7 (s7.seen f7 n7 e7) hc1
                    obtain ⟨go1, yl1⟩ := k1 _ hd1
                    refine .inr ⟨go1, fun H3 => ∃ F3 ρ3 h3 acc3 ws3, Ext F6 ρ6 F3 ρ3 ∧ SR (T.at pr) F3 ρ3 H3 h3 ∧ F3 a = none ∧ (∀ n : Nat, ρ3[n]? ≠ some a) ∧ H3 a = some (.lst ws3) ∧ Reps T.K F3 ρ3 acc3 ws3 ∧
                        PostC (T.at pr) F3 ρ3 a ((compM g1 t1 e it1.chk (wipeM σ4 vs1) (it1.xs.drop (j + 1)) h3 acc3).bind fun acc' h4 => compM2 g t f1 g1 t1 e vs1 it.chk (wipeM σ vs) (it.xs.drop (i + 1)) h4 acc') (Qd a),
                      fun H3 w3 => ⟨it1.xs.length - (j + 1), by omega, rfl, hlt1, w3⟩, fun v H8 y => ?_⟩
                    obtain ⟨F8, ρ8, x8, s8, r8⟩ := yl1 v H8 y
                    have l8 := ((l5.mono x6).mono x7).mono x8
                    refine ⟨_, F8, ρ8, h7, wipeM σ4 vs1, _, s8, l8.wipe vs1, r8, ?_⟩
                    cases eg1 : g1 it1.xs[j] (wipeM σ4 vs1) h7 with
                    | none => rw [eg1] at p7; exact p7
                    | some y =>
                      obtain ⟨σ9, h9⟩ := y
                      rw [eg1] at p7
                      dsimp only at p7
                      intro F9 ρ9 H9 τ9 x9 s9 l9 t9
                      refine ⟨(t9.wipe og1).trans (wipe_twice _ vs1), _, F9, ρ9, h9, σ9, s9, l9, ?_⟩
                      have x79 := x8.trans x9
                      cases eb1 : t1 σ9 h9 with
                      | bad => rw [eb1] at p7; exact p7
                      | exc y h5 => rw [eb1] at p7; exact p7.elim
                      | ok bb hA =>
                        rw [eb1] at p7
                        intro FA ρA HA xA sA
                        have x7A := x79.trans xA
                        cases bb with
                        | false =>
                          rw [if_neg Bool.false_ne_true]
                          obtain ⟨a1, a2, a3, a4⟩ := sA.unseen hpa
                          exact ⟨FA, ρA, hA, ac7, ws7, x7.trans x7A, a4, a2, a3, a1, rs7.mono x7A, PostC.mono x7A p7⟩
                        | true =>
                          rw [if_pos rfl]
                          dsimp only at p7
                          refine ⟨_, FA, ρA, hA, σ9, sA, l9.mono xA, ?_⟩
                          cases ee : e σ9 hA with
                          | bad => rw [ee] at p7; exact p7
                          | exc y h6 => rw [ee] at p7; exact p7.elim
                          | ok vB hB =>
                            rw [ee] at p7
                            dsimp only at p7
                            intro FB ρB HB vv xB sB rB
                            have x7B := x7A.trans xB
                            obtain ⟨a1, a2, a3, a4⟩ := sB.unseen hpa
                            split at p7
                            · rename_i hlen
                              have rsx := rs7.mono x7B
                              refine ⟨ws7, a1, ?_, FB, ρB, hB, ac7 ++ [vB], ws7 ++ [vv], x7.trans x7B, a4.other a2 (fun n c q z => a3 n (by rw [← z]; exact q)) (fun gs q => by rw [a1] at q; cases q) hpa, a2, a3, upd_same .., rsx.append (.cons rB .nil), PostC.mono x7B p7⟩
                              rw [← rs7.length]
                              exact Nat.lt_of_lt_of_le hlen (lim_ok (Nat.le_refl _))
                            · exact p7.elim
                  · exact p7.elim
                · have hj' : j = it1.xs.length := by omega
                  subst hj'
                  rw [List.drop_length] at p7
                  unfold compM at p7
                  split at p7
                  · rename_i hc1
                    obtain ⟨_, k2⟩ := jok1 it1.xs.length pr F7 ρ7 H' h7 x7 s7 hc1
                    refine .inl ⟨k2 (Nat.le_refl _), ?_⟩
                    rw [hNX]
                    exact ⟨F7, ρ7, h7, ac7, ws7, x2.trans (x26.trans x7), s7, f7, n7, e7, rs7, p7⟩
                  · exact p7.elim
      · exact p2.elim
    · have hi' : i = it.xs.length := by omega
      subst hi'
      rw [List.drop_length] at p2
      unfold compM2 at p2
      split at p2
      · rename_i hc
        obtain ⟨_, k2⟩ := jok it.xs.length pr F2 ρ2 H' h2 x2 s2 hc
        exact .inl ⟨k2 (Nat.le_refl _), p2 F2 ρ2 H' ws (Ext.refl _ _) s2 f2 n2 e2 rs2⟩
      · exact p2.elim
theorem comp2_pre {T : Tb} {W : WX} {fi f1 : EvI} {g g1 : EvG} {t t1 : EvB} {e : Ev} {vs vs1 : List Nat} {b : Bool} {τ : Tv} {Q : VK} {pr : Addr → Option HO} {F : Hp} {ρ : List Addr} {h : MH} {σ : Sl} (p : Post (T.at pr) F ρ (eComp2 b fi g t f1 g1 t1 e vs vs1 σ h) Q fun c d H' => W c d τ H') :
    match fi σ h with
      | .ok it h1 => ∀ a F' ρ' H', Ext F ρ F' ρ' → SR (T.at pr) F' ρ' H' h1 → H' a = none → PostC (T.at pr) F' ρ' a (compM2 g t f1 g1 t1 e vs1 it.chk (wipeM σ vs) it.xs h1 []) (fun H => Q (.ref a) H)
      | .exc x h1 => ∀ F' ρ' H' cls dd, Ext F ρ F' ρ' → SR (T.at pr) F' ρ' H' h1 → XIs (T.at pr) x F' ρ' H' cls dd → W cls dd τ H'
      | .bad => False := by
  unfold eComp2 at p
  cases ef : fi σ h with
  | bad => rw [ef] at p; exact p
  | exc x h1 => rw [ef] at p; exact p
  | ok it h1 =>
    rw [ef] at p
    dsimp only
    intro a F' ρ' H' x s ha
    simp only [Res.bind] at p
    cases ec : compM2 g t f1 g1 t1 e vs1 it.chk (wipeM σ vs) it.xs h1 [] with
    | bad => rw [ec] at p; exact p
    | exc y h2 => exact (compM2_noexc _ _ _ _ _ ec).elim
    | ok acc h2 =>
      rw [ec] at p
      have hpa := pr_none s ha
      intro F2 ρ2 H2 ws x2 s2 f2 n2 e2 rs
      exact mkL_at (Post.mono (x.trans x2) p fun _ _ q => q) s2 f2 n2 e2 hpa rs
abbrev CcB (L : Md → Prop) (n : Nm) (k : Nat) (N : List Str) (scope sc : Scope) (Y : Cx) : Prop := Cc L n k noW (fun x => scope.names.lookup x == some .cell) N (relS scope sc) Y
theorem se_comp2 (c : Cc L n k W ow N sc X) {elt iter iter1 : Expr} {ifs ifs1 : List Expr} {scope : Scope} {own : List (Str × Nat)} {fi f1 : EvI} {g g1 : EvG} {gs gs1 vs1 : List Nat} {t t1 : EvB} {e : Ev} (b : Bool) (hi : SI X n W tg iter fi) (hb : blkC N sc scope own = true) (og : ∀ i ∈ gs, i ∈ own.map (·.2)) (og1 : ∀ i ∈ gs1, i ∈ vs1) (hv : ∀ i ∈ vs1, i ∈ own.map (·.2))
    (hg : ∀ Y : Cx, CcB L n k N scope sc Y → md Y = md X → SG Y n tg gs g) (ht : ∀ Y : Cx, CcB L n k N scope sc Y → md Y = md X → STs Y n noW ifs t) (hi1 : ∀ Y : Cx, CcB L n k N scope sc Y → md Y = md X → SI Y n noW tg1 iter1 f1)
    (hg1 : ∀ Y : Cx, CcB L n k N scope sc Y → md Y = md X → SG Y n tg1 gs1 g1) (ht1 : ∀ Y : Cx, CcB L n k N scope sc Y → md Y = md X → STs Y n noW ifs1 t1)
    (he : ∀ Y : Cx, CcB L n k N scope sc Y → md Y = md X → SE Y n noW elt e) (hs : ∀ x, foldedSetIterable iter X.env x = pure x) (hs1 : ∀ env x, foldedSetIterable iter1 env x = pure x) : SE X n W (.ListComp elt [⟨tg, iter, ifs, 0⟩, ⟨tg1, iter1, ifs1, 0⟩] scope pos) (eComp2 b fi g t f1 g1 t1 e (own.map (·.2)) vs1) := by
  refine PE_imp (pe_lc2 (te := tM (tb X n) noW e) (tt := tMB (tb X n) noW t) (g := tMG (tb X n) gs g) (wi1 := tMI (tb X n) noW f1) (g1 := tMG (tb X n) gs1 g1) (tt1 := tMB (tb X n) noW t1) c.calm c.nd' hi (blkOk_by (by rw [c.hN, c.hs]; exact hb)) hv (fun s H C cl fp => hg _ (c.blk s H scope cl C fp (blkOk_by hb).kind) rfl) (fun s H C cl fp => ht _ (c.blk s H scope cl C fp (blkOk_by hb).kind) rfl)
    (fun s H C cl fp => hi1 _ (c.blk s H scope cl C fp (blkOk_by hb).kind) rfl) (fun s H C cl fp => hg1 _ (c.blk s H scope cl C fp (blkOk_by hb).kind) rfl) (fun s H C cl fp => ht1 _ (c.blk s H scope cl C fp (blkOk_by hb).kind) rfl) (fun s H C cl fp => he _ (c.blk s H scope cl C fp (blkOk_by hb).kind) rfl) hs hs1) fun τ H Q q => ?_
  obtain ⟨pr, F, ρ, h, σ, s, l, p⟩ := q
  exact comp2_walk (Qd := fun a H => Q (.ref a) H) og og1 l s (comp2_pre p)
theorem s_setComp2 (c : Cc L n k W ow N sc X) {i : Nat} {y : Str} {py spos : Pos} {elt iter iter1 : Expr} {ifs ifs1 : List Expr} {scope : Scope} {own : List (Str × Nat)} {fi f1 : EvI} {g g1 : EvG} {gs gs1 vs1 : List Nat} {t t1 : EvB} {e : Ev} (b : Bool) (hy : N[i]? = some y) (hyl : sc.names.lookup y = some .local)
    (hsw : swapsWith (.ListComp elt [⟨tg, iter, ifs, 0⟩, ⟨tg1, iter1, ifs1, 0⟩] scope pos) (some (.Name y py)) spos.line X.env = pure true) (hi : SI X n W tg iter fi) (hb : blkC N sc scope own = true) (og : ∀ i ∈ gs, i ∈ own.map (·.2)) (og1 : ∀ i ∈ gs1, i ∈ vs1) (hv : ∀ i ∈ vs1, i ∈ own.map (·.2))
    (hg : ∀ Y : Cx, CcB L n k N scope sc Y → md Y = md X → SG Y n tg gs g) (ht : ∀ Y : Cx, CcB L n k N scope sc Y → md Y = md X → STs Y n noW ifs t) (hi1 : ∀ Y : Cx, CcB L n k N scope sc Y → md Y = md X → SI Y n noW tg1 iter1 f1)
    (hg1 : ∀ Y : Cx, CcB L n k N scope sc Y → md Y = md X → SG Y n tg1 gs1 g1) (ht1 : ∀ Y : Cx, CcB L n k N scope sc Y → md Y = md X → STs Y n noW ifs1 t1)
    (he : ∀ Y : Cx, CcB L n k N scope sc Y → md Y = md X → SE Y n noW elt e) (hs : ∀ x, foldedSetIterable iter X.env x = pure x) (hs1 : ∀ env x, foldedSetIterable iter1 env x = pure x) :
    SS X n W (.Assign [.Name y py] (.ListComp elt [⟨tg, iter, ifs, 0⟩, ⟨tg1, iter1, ifs1, 0⟩] scope pos) spos) (sAsg (eComp2 b fi g t f1 g1 t1 e (own.map (·.2)) vs1) (gVar i)) := by
  refine PS_imp (ps_setLc2 (te := tM (tb X n) noW e) (tt := tMB (tb X n) noW t) (g := tMG (tb X n) gs g) (wi1 := tMI (tb X n) noW f1) (g1 := tMG (tb X n) gs1 g1) (tt1 := tMB (tb X n) noW t1) c.calm c.nd' (c.ix hy) (by rw [c.hs]; exact hyl) hsw hi (blkOk_by (by rw [c.hN, c.hs]; exact hb)) hv (fun s H C cl fp => hg _ (c.blk s H scope cl C fp (blkOk_by hb).kind) rfl) (fun s H C cl fp => ht _ (c.blk s H scope cl C fp (blkOk_by hb).kind) rfl)
    (fun s H C cl fp => hi1 _ (c.blk s H scope cl C fp (blkOk_by hb).kind) rfl) (fun s H C cl fp => hg1 _ (c.blk s H scope cl C fp (blkOk_by hb).kind) rfl) (fun s H C cl fp => ht1 _ (c.blk s H scope cl C fp (blkOk_by hb).kind) rfl) (fun s H C cl fp => he _ (c.blk s H scope cl C fp (blkOk_by hb).kind) rfl) hs hs1) fun Dn τ H q => ?_
  obtain ⟨pr, F, ρ, h, σ, s, l, p⟩ := q
  refine comp2_walk (Qd := fun a H => Dn.nx (τ.set i (some (.ref a))) H) og og1 l s (comp2_pre (T := tb X n) (W := W) (b := b) (Q := fun v H => Dn.nx (τ.set i (some v)) H) ?_)
  unfold sAsg at p
  cases e1 : eComp2 b fi g t f1 g1 t1 e (own.map (·.2)) vs1 σ h with
  | bad => rw [e1] at p; exact p
  | exc x h1 => rw [e1] at p; exact fun F' ρ' H' cl dd x s' xi => p F' ρ' H' τ cl dd x s' (l.mono x) xi
  | ok d h1 =>
    rw [e1] at p
    exact fun F' ρ' H' v x s' r => p F' ρ' H' _ x s' ((l.mono x).set r i)
end
end MI

/-! MI, part J: displays, subscripts, slices, isinstance, built-in functions. -/
namespace MI
open PySem PySem.Spec L2

/-! ### displays -/
def eTup (as : EvL) : Ev := fun σ h => (as σ h).bind fun ds h1 => if ds.length ≤ lim then .ok (.tup ds) h1 else .bad
def eLst (b : Bool) (as : EvL) : Ev := fun σ h => (as σ h).bind fun ds h1 => if ds.length ≤ lim then mkL b ds h1 else .bad
section
variable {L : Md → Prop} {n : Nm} {k : Nat} {W : WX} {ow : Str → Bool} {N : List Str} {sc : Scope} {X : Cx} {pos : Pos}
theorem tup_new {T : Tb} {F : Hp} {ρ : List Addr} {H : Hp} {h : MH} {xs : List D} {Q : VK} {E : XK} (p : Post T F ρ (.ok (.tup xs) h) Q E) (s : SR T F ρ H h) {vs : List V} (r : Reps T.K F ρ xs vs) {a : Addr} (ha : H a = none) : Q (.ref a) (upd H a (.tup vs)) := by
  obtain ⟨s2, ex⟩ := s.frozen (o := .tup vs) ha
  exact p _ _ _ _ ex s2 (.tup (.of (upd_same ..)) (r.mono ex))
theorem se_tup {es : List Expr} {as : EvL} {j : Nat} (ha : SA X n W es as) : SE X n W (.Tuple es j pos) (eTup as) := by
  refine PE_imp (pe_tup ha) fun τ H Q q => ?_
  obtain ⟨_, F, ρ, h, σ, s, l, p⟩ := q
  refine tML_bind s l p fun F1 ρ1 H1 ds h1 vs x1 s1 l1 r1 p1 => ?_
  split at p1
  · rename_i hl
    exact ⟨by rw [← r1.length]; exact lim_ok hl, fun a ha => tup_new p1 s1 r1 ha⟩
  · exact p1.elim
theorem se_lst (b : Bool) {es : List Expr} {as : EvL} (ha : SA X n W es as) : SE X n W (.List es pos) (eLst b as) := by
  refine PE_imp (pe_lst ha) fun τ H Q q => ?_
  obtain ⟨_, F, ρ, h, σ, s, l, p⟩ := q
  refine tML_bind s l p fun F1 ρ1 H1 ds h1 vs x1 s1 l1 r1 p1 => ?_
  split at p1
  · rename_i hl
    exact ⟨by rw [← r1.length]; exact lim_ok hl, fun a ha => mkL_new p1 s1 r1 ha⟩
  · exact p1.elim

/-! ### subscripts -/
def ixO : Op2 := fun h x y => match y with
  | .int i => match x with
    | .str z => if z.length ≤ lim then (atI z.cps.toList i).map fun c => .str ⟨#[c]⟩ else none
    | x => match itemsOf h x with
      | some it => atI it.xs i
      | none => none
  | _ => none
theorem atI_reps {K : PySem.W.Frag} {F : Hp} {ρ : List Addr} {ds : List D} {vs : List V} (r : Reps K F ρ ds vs) {i : Int} {d : D} (e : atI ds i = some d) : ∃ v, atI vs i = some v ∧ Rep K F ρ d v := by
  unfold atI at e ⊢
  rw [← r.length]
  cases e1 : ixN ds.length i with
  | none => rw [e1] at e; cases e
  | some j =>
    rw [e1] at e
    obtain ⟨v, e2, rv⟩ := r.get (i := j) e
    exact ⟨v, e2, rv⟩
theorem ix_ok : IxR X (rO (tb X n) ixO) := by
  rintro value slice pins s σ H x y v u Q I rx ry ⟨pr, F, ρ, h0, dx, dy, d, S, r1, r2, e, kk⟩ hsub
  refine ix_seq value slice pins s σ H x y v u Q I rx ry ?_ hsub
  cases r2 with
  | int i =>
    have seqs : ∀ it, itemsOf h0 dx = some it → atI it.xs i = some d → rIx X.K x (.int i) H Q := fun it e1 e2 => by
      obtain ⟨a, b, rfl, ⟨vs, lt, rs⟩, _⟩ := items_at S r1 e1
      obtain ⟨v', e3, rv⟩ := atI_reps rs e2
      have fin := kk F ρ H v' (Ext.refl _ _) S rv
      cases b with
      | true => exact .inr (.inl ⟨a, vs, i, v', rfl, rfl, lt, e3, fin⟩)
      | false => exact .inl ⟨a, vs, i, v', rfl, rfl, lt, e3, fin⟩
    cases r1 with
    | str z =>
      unfold ixO at e
      dsimp only at e
      split at e
      · rename_i hl
        rw [Option.map_eq_some_iff] at e
        obtain ⟨c, e1, rfl⟩ := e
        exact .inr (.inr ⟨z, i, c, rfl, rfl, lim_ok hl, e1, kk F ρ H _ (Ext.refl _ _) S (.str _)⟩)
      · cases e
    | non => exact absurd e (by unfold ixO; simp [itemsOf])
    | bl b => exact absurd e (by unfold ixO; simp [itemsOf])
    | int b => exact absurd e (by unfold ixO; simp [itemsOf])
    | tup h1 h2 => exact seqs _ rfl e
    | lst h1 h2 => exact seqs _ rfl e
    | scr h1 => exact seqs _ rfl e
    | @ref m a h1 =>
      unfold ixO at e
      dsimp only at e
      cases e1 : itemsOf h0 (.ref m) with
      | none => rw [e1] at e; cases e
      | some it => rw [e1] at e; exact seqs it e1 e
  | _ => cases e
theorem se_ix {a b : Expr} {f g : Ev} (ha : SE X n W a f) (hb : SE X n W b g) (hs : PlainIx b) : SE X n W (.Subscript a b pos) (eBin ixO f g) := PE_imp (pe_ix ix_ok ha hb hs) fun _ _ _ q => tM_op2 q

/-! ### slices a[i:j] -/
abbrev EvO := Sl → MH → Res (Option Int)
def oNone : EvO := fun _ h => .ok none h
def oSome (f : Ev) : EvO := fun σ h => (f σ h).bind fun d h1 => match d with
  | .int i => .ok (some i) h1
  | _ => .bad
def PostO (T : Tb) (F : Hp) (ρ : List Addr) (r : Res (Option Int)) (Q : Option Int → Hp → Prop) (E : XK) : Prop :=
  match r with
  | .ok o h' => ∀ F' ρ' H', Ext F ρ F' ρ' → SR T F' ρ' H' h' → Q o H'
  | .exc x h' => ∀ F' ρ' H' cls dd, Ext F ρ F' ρ' → SR T F' ρ' H' h' → XIs T x F' ρ' H' cls dd → E cls dd H'
  | .bad => False
def tMO (T : Tb) (W : WX) (f : EvO) : TO := fun τ H Q => ∃ pr F ρ h σ, SR (T.at pr) F ρ H h ∧ SLR T.K F ρ σ τ ∧ PostO (T.at pr) F ρ (f σ h) Q (fun c d H' => W c d τ H')
abbrev SO (X : Cx) (n : Nm) (W : WX) (e : Option Expr) (f : EvO) : Prop := PO X e (tMO (tb X n) W f)
theorem PO_imp {X : Cx} {e : Option Expr} {t t' : TO} (h : PO X e t) (i : ∀ σ H Q, t' σ H Q → t σ H Q) : PO X e t' := ⟨fun pins s σ H Q I q => h.run pins s σ H Q I (i σ H Q q)⟩
theorem so_none : SO X n W none oNone := PO_imp po_none fun τ H Q q => by
  obtain ⟨_, F, ρ, h, σ, s, l, p⟩ := q
  exact p F ρ H (Ext.refl _ _) s
theorem so_some {e : Expr} {f : Ev} (he : SE X n W e f) : SO X n W (some e) (oSome f) := PO_imp (po_some he) fun τ H Q q => by
  obtain ⟨_, F, ρ, h, σ, s, l, p⟩ := q
  refine ⟨_, F, ρ, h, σ, s, l, ?_⟩
  unfold oSome at p
  cases e : f σ h with
  | bad => rw [e] at p; exact p
  | exc x h' => rw [e] at p; exact p
  | ok d h1 =>
    rw [e] at p
    intro F' ρ' H' v x s' r
    cases r with
    | int i => exact ⟨i, rfl, p F' ρ' H' x s'⟩
    | _ => exact p.elim
def cutD (xs : List D) (lo hi : Option Int) : List D := (xs.drop (HT.sIx xs.length 0 lo)).take (HT.sIx xs.length xs.length hi - HT.sIx xs.length 0 lo)
def sliceM (b : Bool) (d : D) (lo hi : Option Int) (h : MH) : Res D := match d with
  | .tup xs => .ok (.tup (cutD xs lo hi)) h
  | .str z => if z.length ≤ lim then .ok (.str (cutS z lo hi)) h else .bad
  | d => match itemsOf h d with
    | some it => mkL b (cutD it.xs lo hi) h
    | none => .bad
def eSlice (b : Bool) (f : Ev) (lo hi : EvO) : Ev := fun σ h => (f σ h).bind fun d h1 => (lo σ h1).bind fun l h2 => (hi σ h2).bind fun u h3 => sliceM b d l u h3
theorem cut_reps {K : PySem.W.Frag} {F : Hp} {ρ : List Addr} {ds : List D} {vs : List V} (r : Reps K F ρ ds vs) (lo hi : Option Int) : Reps K F ρ (cutD ds lo hi) (cutV vs lo hi) := by
  unfold cutD cutV
  rw [r.length]
  exact (r.drop _).take _
def rSlice (T : Tb) (b : Bool) : V → Option Int → Option Int → Hp → VK → Prop := fun v lo hi H Q => ∃ pr F ρ h d, SR (T.at pr) F ρ H h ∧ Rep T.K F ρ d v ∧ Post (T.at pr) F ρ (sliceM b d lo hi h) Q fun _ _ _ => False
theorem sl_ok (b : Bool) : SlR X (rSlice (tb X n) b) := by
  rintro pins s σ H x v vl vu lo hi sl Q I rx hs pl pu ⟨pr, F, ρ, h, d, S, r, p⟩
  have lists : ∀ it : ItD, itemsOf h d = some it → isTupB d = false → Post ((tb X n).at pr) F ρ (mkL b (cutD it.xs lo hi) h) Q (fun _ _ _ => False) → ∃ T id, typeLookup (.type T) "__getitem__" = pure (some (.builtin id)) ∧ s.TypeIs v T ∧ wpAny (model X.prog X.w) X.A (getItem v (.ref sl)) (EP X pins σ Q) X.xe s := fun it e1 e2 p => by
    obtain ⟨a, rfl, ⟨vs, lt, rs⟩, _⟩ := isTupB_of S r e1
    rw [e2] at lt
    exact sl_list pins s σ H _ v vl vu lo hi sl Q I rx hs pl pu ⟨a, vs, rfl, lt, fun q hq => mkL_new p S (cut_reps rs lo hi) hq⟩
  cases r with
  | @tup xs a vs h1 h2 =>
    refine sl_tupA pins s σ H _ v vl vu lo hi sl Q I rx hs pl pu ⟨_, _, rfl, sqT_le S.le h1, fun hw => ?_, fun hw q hq => tup_new p S (cut_reps h2 lo hi) hq⟩
    have e : cutD xs lo hi = xs := by
      have hl := h2.length
      unfold cutD
      rw [hl, hw.1, hw.2, ← hl]
      simp
    have p' : Post ((tb X n).at pr) F ρ (.ok (.tup (cutD xs lo hi)) h) Q fun _ _ _ => False := p
    rw [e] at p'
    exact p' F ρ H _ (Ext.refl _ _) S (.tup h1 h2)
  | str z =>
    unfold sliceM at p
    dsimp only at p
    split at p
    · rename_i hl
      exact sl_str pins s σ H _ v vl vu lo hi sl Q I rx hs pl pu ⟨z, rfl, lim_ok hl, p F ρ H _ (Ext.refl _ _) S (.str _)⟩
    · exact p.elim
  | lst h1 h2 => exact lists _ rfl rfl p
  | scr h1 => exact lists _ rfl rfl p
  | @ref m a h1 =>
    unfold sliceM at p
    dsimp only at p
    cases e1 : itemsOf h (.ref m) with
    | none => rw [e1] at p; exact p.elim
    | some it => rw [e1] at p; exact lists it e1 rfl p
  | non => exact p.elim
  | bl _ => exact p.elim
  | int _ => exact p.elim
theorem se_slice (b : Bool) {e : Expr} {lo hi : Option Expr} {f : Ev} {fl fh : EvO} {p2 : Pos} (he : SE X n W e f) (hl : SO X n W lo fl) (hh : SO X n W hi fh) : SE X n W (.Subscript e (.Slice lo hi none p2) pos) (eSlice b f fl fh) := by
  refine PE_imp (pe_slice (sl_ok (n := n) b) he hl hh) fun τ H Q q => ?_
  obtain ⟨pr, F, ρ, h, σ, s, l, p⟩ := q
  refine tM_bind s l p fun F1 ρ1 H1 d h1 v x1 s1 l1 r1 p1 => ?_
  refine ⟨_, F1, ρ1, h1, σ, s1, l1, ?_⟩
  cases e1 : fl σ h1 with
  | bad => rw [e1] at p1; exact p1
  | exc y h' => rw [e1] at p1; exact p1
  | ok o1 h2 =>
    rw [e1] at p1
    simp only [Res.bind] at p1
    intro F2 ρ2 H2 x2 s2
    refine ⟨_, F2, ρ2, h2, σ, s2, l1.mono x2, ?_⟩
    cases e2 : fh σ h2 with
    | bad => rw [e2] at p1; exact p1
    | exc y h' => rw [e2] at p1; exact fun F' ρ' H' c d x s' xi => p1 F' ρ' H' c d (x2.trans x) s' xi
    | ok o2 h3 =>
      rw [e2] at p1
      dsimp only at p1
      intro F3 ρ3 H3 x3 s3
      refine ⟨_, F3, ρ3, h3, d, s3, (r1.mono x2).mono x3, ?_⟩
      have p3 := Post.mono (x2.trans x3) p1 (fun _ _ q => q)
      cases e3 : sliceM b d o1 o2 h3 with
      | bad => rw [e3] at p3; exact p3
      | ok d4 h4 => rw [e3] at p3; exact p3
      | exc y h4 =>
        exfalso
        unfold sliceM at e3
        repeat' split at e3
        all_goals first
          | cases e3
          | (unfold mkL at e3; split at e3 <;> cases e3)

/-! ### -a -/
def eNeg (f : Ev) : Ev := fun σ h => (f σ h).bind fun d h1 => match d with
  | .int i => .ok (.int (-i)) h1
  | _ => .bad
theorem se_neg {e : Expr} {f : Ev} (he : SE X n W e f) : SE X n W (.UnaryOp .USub e pos) (eNeg f) := PE_imp (pe_un un_neg he) fun τ H Q q => by
  obtain ⟨_, F, ρ, h, σ, s, l, p⟩ := q
  refine tM_bind s l p fun F1 ρ1 H1 d h1 v x1 s1 l1 r1 p1 => ?_
  cases r1 with
  | int i => exact ⟨i, rfl, p1 F1 ρ1 H1 _ (Ext.refl _ _) s1 (.int _)⟩
  | _ => exact p1.elim

/-! ### isinstance(x, T), T a built-in type -/
def tyS (h : MH) : D → Option String
  | .non => some "NoneType"
  | .bl _ => some "bool"
  | .int _ => some "int"
  | .str _ => some "str"
  | .tup _ => some "tuple"
  | .lst _ => some "list"
  | .scr _ => some "list"
  | .ref m => match h[m]? with
    | some (.lst _) => some "list"
    | some (.dict _) => some "dict"
    | _ => none
def isTy (t T : String) : Bool := t == T || (t == "bool" && T == "int")
def goodT : List String := ["int", "bool", "str", "tuple", "list", "dict"]
theorem kit_isTy {K : PySem.W.Frag} {t T : String} (ht : t ∈ ["NoneType", "bool", "int", "str", "tuple", "list", "dict"]) (hT : T ∈ goodT) : PySem.W.kitOne K (.type t) (.type T) = some (isTy t T) := by
  refine kit_ty ?_
  simp only [goodT, List.mem_cons, List.not_mem_nil, or_false] at ht hT
  rcases ht with rfl | rfl | rfl | rfl | rfl | rfl | rfl <;> rcases hT with rfl | rfl | rfl | rfl | rfl | rfl <;> decide +kernel
theorem tyS_good {h : MH} {d : D} {t : String} (e : tyS h d = some t) : t ∈ ["NoneType", "bool", "int", "str", "tuple", "list", "dict"] := by
  unfold tyS at e
  repeat' split at e
  all_goals first
    | (cases e; simp)
    | cases e
theorem rep_kit {pins : List (Addr × Obj)} {σ : St} {H : Hp} {s : Shared} {pr : Addr → Option HO} {F : Hp} {ρ : List Addr} {h : MH} {d : D} {v : V} {u : Value} {t : String} (I : Inv X pins σ H s) (S : SR ((tb X n).at pr) F ρ H h) (r : Rep X.K F ρ d v) (ru : RelV v u) (e : tyS h d = some t) :
    ∃ P : Heap → Prop, PySem.W.KitX X.K u (.type t) P ∧ P s.heap ∧ u ≠ .builtin "__main__.__loader__#opaque" := by
  have tupc : ∀ {a : Addr} {vs : List V}, SqT X.K H a vs → ∃ P : Heap → Prop, PySem.W.KitX X.K (.ref a) (.type "tuple") P ∧ P s.heap ∧ Value.ref a ≠ .builtin "__main__.__loader__#opaque" := fun {a vs} q => by
    obtain ⟨its, _, ⟨o, e1, e2, _⟩, _⟩ := I.tuple q
    exact ⟨_, PySem.W.kitx_tuple, ⟨o, e1, e2⟩, fun z => nomatch z⟩
  have lstc : ∀ {a : Addr} {vs : List V}, SqL X.K H a vs → ∃ P : Heap → Prop, PySem.W.KitX X.K (.ref a) (.type "list") P ∧ P s.heap ∧ Value.ref a ≠ .builtin "__main__.__loader__#opaque" := fun {a vs} q => by
    obtain ⟨its, _, ⟨o, m, e1, e2, _⟩, _⟩ := I.list q
    exact ⟨_, PySem.W.kitx_list, ⟨o, e1, e2⟩, fun z => nomatch z⟩
  cases r with
  | non => cases e; exact kit_of I ru (.base .non)
  | bl b => cases e; exact kit_of I ru (.base (.bl b))
  | int i => cases e; exact kit_of I ru (.base (.int i))
  | str z => cases e; exact kit_of I ru (.base (.str z))
  | tup h1 h2 =>
    cases e
    obtain rfl : u = .ref _ := ru
    exact tupc (sqT_le S.le h1)
  | lst h1 h2 =>
    cases e
    obtain rfl : u = .ref _ := ru
    exact lstc (.of (S.le _ _ h1))
  | scr h1 =>
    cases e
    obtain rfl : u = .ref _ := ru
    exact lstc (sqL_le S.le h1)
  | @ref m a h1 =>
    obtain rfl : u = .ref _ := ru
    unfold tyS at e
    dsimp only at e
    split at e
    · rename_i xs hx
      cases e
      obtain ⟨a', e1, _, vs, e3, _⟩ := S.at hx
      rw [h1] at e1; cases e1
      exact lstc (.of e3)
    · rename_i xs hx
      cases e
      obtain ⟨a', e1, _, ys, e3, _⟩ := S.at hx
      rw [h1] at e1; cases e1
      obtain ⟨⟨o, es, ep, e4, e5, _⟩, _⟩ := (show ObjOk X.prog X.w H s.heap a (DictO X.w a ys) from I.hok a _ e3)
      exact ⟨_, PySem.W.kitx_dict, ⟨o, e4, e5.1⟩, fun z => nomatch z⟩
    · cases e
def eIsi (T : String) (f : Ev) : Ev := fun σ h => (f σ h).bind fun d h1 => match tyS h1 d with
  | some t => .ok (.bl (isTy t T)) h1
  | none => .bad
def rIsM (T : Tb) (n' : String) : List V → Hp → VK → Prop := fun vs H Q => ∃ pr F ρ h d v t, vs = [v, .ty n'] ∧ SR (T.at pr) F ρ H h ∧ Rep T.K F ρ d v ∧ tyS h d = some t ∧ Q (.bl (isTy t n')) H
theorem isi_ok {T : String} (hT : T ∈ goodT) : CallR X (.builtin "isinstance") (rIsM (tb X n) T) := by
  rintro pins s σ H xs us Q I r ⟨pr, F, ρ, h, d, v, t, rfl, S, rv, e, q⟩
  obtain ⟨u1, u2, rfl, r1, r2⟩ := vals2 r
  obtain rfl : u2 = .type T := r2
  obtain ⟨P, Z, p, hx⟩ := rep_kit I S rv r1 e
  exact PySem.W.kia_one Z I.kIn p (kit_isTy (tyS_good e) hT) hx fun tk => ⟨.bl _, H, I.tok tk, rfl, q⟩
theorem se_isi (c : Cc L n k W ow N sc X) {e : Expr} {f : Ev} {T : String} {x : Str} {p1 p2 : Pos} (hT : T ∈ goodT) (he : SE X n W e f) (hg : gloB sc "isinstance" = true) (hm : X.mg "isinstance" = none) (hg2 : gloB sc x = true) (hm2 : X.mg x = none) (hv : bootBuiltins x = some (.type T)) (hn : x ≠ "__name__") (hd : (x == ("__debug__" : Str)) = false)
    (hs : starEach [e, .Name x p2] X.env = (false, eval e X.env) :: starEach [.Name x p2] X.env) (hpl : (backTo pos (starEach [.Name x p2] X.env)).any (·.1) = false) : SE X n W (.Call (.Name "isinstance" p1) [e, .Name x p2] [] pos) (eIsi T f) := by
  refine PE_imp (pe_callB (isi_ok (n := n) hT) (c.glo hg) hm PyProof.Rows.boot_isinstance (pa_cons he (pa_cons (pe_bltn (c.glo hg2) hm2 hv (v := .ty T) rfl hn hd) pa_nil rfl) hs) (by decide) (by decide) hs hpl) fun τ H Q q => ?_
  obtain ⟨_, F, ρ, h, σ, s, l, p⟩ := q
  refine tM_bind s l p fun F1 ρ1 H1 d h1 v x1 s1 l1 r1 p1 => ?_
  cases e1 : tyS h1 d with
  | none => rw [e1] at p1; exact p1.elim
  | some t =>
    rw [e1] at p1
    exact ⟨_, F1, ρ1, h1, d, v, t, rfl, s1, r1, e1, p1 F1 ρ1 H1 _ (Ext.refl _ _) s1 (.bl _)⟩

/-! ### a built-in function by values -/
def rF (T : Tb) (g : Fn) : List V → Hp → VK → Prop := fun vs H Q => ∃ pr F ρ h ds, SR (T.at pr) F ρ H h ∧ Reps T.K F ρ ds vs ∧ Post (T.at pr) F ρ (g ds h) Q fun _ _ _ => False
def NoExc (g : Fn) : Prop := ∀ ds h x h', g ds h ≠ .exc x h'
theorem tCB_of {g : Fn} (hg : NoExc g) {as : EvL} {τ : Tv} {H : Hp} {Q : VK} (q : tM (tb X n) W (eCall g as) τ H Q) : tCB (rF (tb X n) g) (tML (tb X n) W as) τ H Q := by
  obtain ⟨_, F, ρ, h, σ, s, l, p⟩ := q
  refine tML_bind s l p fun F1 ρ1 H1 ds h1 vs x1 s1 l1 r1 p1 => ⟨_, F1, ρ1, h1, ds, s1, r1, ?_⟩
  cases e : g ds h1 with
  | ok d h2 => rw [e] at p1; exact p1
  | exc x h2 => exact (hg _ _ _ _ e).elim
  | bad => rw [e] at p1; exact p1
theorem se_callB (c : Cc L n k W ow N sc X) {x : Str} {id : String} {g : Fn} (hc : CallR X (.builtin id) (rF (tb X n) g)) (hx : NoExc g) (hg : gloB sc x = true) (hm : X.mg x = none) (hv : bootBuiltins x = some (.builtin id)) {e : Expr} {es : List Expr} {as : EvL} {p1 : Pos} (ha : SA X n W (e :: es) as) (hn : x ≠ "__name__") (hd : (x == ("__debug__" : Str)) = false)
    (he : starEach (e :: es) X.env = (false, eval e X.env) :: starEach es X.env) (hpl : (backTo pos (starEach es X.env)).any (·.1) = false) : SE X n W (.Call (.Name x p1) (e :: es) [] pos) (eCall g as) :=
  PE_imp (pe_callB hc (c.glo hg) hm hv ha hn hd he hpl) fun _ _ _ q => tCB_of hx q
theorem se_callT (c : Cc L n k W ow N sc X) {x : Str} {id : String} {g : Fn} (hc : CallR X (.type id) (rF (tb X n) g)) (hx : NoExc g) (hg : gloB sc x = true) (hm : X.mg x = none) (hv : bootBuiltins x = some (.type id)) {e : Expr} {es : List Expr} {as : EvL} {p1 : Pos} (ha : SA X n W (e :: es) as) (hn : x ≠ "__name__") (hd : (x == ("__debug__" : Str)) = false)
    (he : starEach (e :: es) X.env = (false, eval e X.env) :: starEach es X.env) (hpl : (backTo pos (starEach es X.env)).any (·.1) = false) : SE X n W (.Call (.Name x p1) (e :: es) [] pos) (eCall g as) :=
  PE_imp (pe_callTy hc (c.glo hg) hm hv ha hn hd he hpl) fun _ _ _ q => tCB_of hx q

/-- len of a list, a tuple, a text -/
def lenF : Fn := fun ds h => match ds with
  | [.str z] => if z.length ≤ lim then .ok (.int z.length) h else .bad
  | [d] => match itemsOf h d with
    | some it => .ok (.int it.xs.length) h
    | none => .bad
  | _ => .bad
theorem len_noexc : NoExc lenF := fun ds h x h' e => by
  unfold lenF at e
  repeat' split at e
  all_goals cases e
theorem len_ok : CallR X (.builtin "len") (rF (tb X n) lenF) := by
  rintro pins s σ H vs us Q I r ⟨pr, F, ρ, h, ds, S, rs, p⟩
  match ds, rs with
  | [], .nil => exact p.elim
  | _ :: _ :: _, .cons _ (.cons _ _) => exfalso; unfold lenF at p; split at p <;> first | exact p | (rename_i q; cases q)
  | [d], .cons (v := v) r1 .nil =>
    have seqs : ∀ it, itemsOf h d = some it → Q (.int it.xs.length) H → wpAny (model X.prog X.w) X.A (call (.builtin "len") us) (EP X pins σ Q) X.xe s := fun it e1 q => by
      obtain ⟨a, b, rfl, ⟨ws, lt, rw'⟩, _⟩ := items_at S r1 e1
      refine call_len_seq pins s σ H _ us Q I r ⟨a, ws, rfl, ?_, by rw [← rw'.length]; exact q⟩
      cases b with
      | true => exact .inr lt
      | false => exact .inl lt
    cases r1 with
    | str z =>
      unfold lenF at p
      dsimp only at p
      split at p
      · rename_i hl
        exact call_len_str pins s σ H _ us Q I r ⟨z, rfl, lim_ok hl, p F ρ H _ (Ext.refl _ _) S (.int _)⟩
      · exact p.elim
    | tup h1 h2 => exact seqs _ rfl (p F ρ H _ (Ext.refl _ _) S (.int _))
    | lst h1 h2 => exact seqs _ rfl (p F ρ H _ (Ext.refl _ _) S (.int _))
    | scr h1 => exact seqs _ rfl (p F ρ H _ (Ext.refl _ _) S (.int _))
    | @ref m a h1 =>
      unfold lenF at p
      dsimp only at p
      cases e1 : itemsOf h (.ref m) with
      | none => rw [e1] at p; exact p.elim
      | some it => rw [e1] at p; exact seqs it e1 (p F ρ H _ (Ext.refl _ _) S (.int _))
    | non => exact p.elim
    | bl _ => exact p.elim
    | int _ => exact p.elim
end
end MI

/-! MI, part K: more built-in functions; sorted. -/
namespace MI
open PySem PySem.Spec L2

/-- a function of one list or tuple -/
def seqF (g : Bool → List D → MH → Res D) : Fn := fun ds h => match ds with
  | [d] => match itemsOf h d with
    | some it => g (isTupB d) it.xs h
    | none => .bad
  | _ => .bad
def NoExcS (g : Bool → List D → MH → Res D) : Prop := ∀ b xs h x h', g b xs h ≠ .exc x h'
theorem seq_noexc {g : Bool → List D → MH → Res D} (hg : NoExcS g) : NoExc (seqF g) := fun ds h x h' e => by
  unfold seqF at e
  repeat' split at e
  all_goals first
    | cases e
    | exact hg _ _ _ _ _ e
section
variable {L : Md → Prop} {n : Nm} {k : Nat} {W : WX} {ow : Str → Bool} {N : List Str} {sc : Scope} {X : Cx} {pos : Pos}
theorem seq_ok {f : Value} {g : Bool → List D → MH → Res D}
    (hf : ∀ (pins : List (Addr × Obj)) (s : Shared) (σ : St) (H : Hp) (pr : Addr → Option HO) (F : Hp) (ρ : List Addr) (h : MH) (a : Addr) (b : Bool) (xs : List D) (ws : List V) (Q : VK), Inv X pins σ H s → SR ((tb X n).at pr) F ρ H h → LT X.K H a ws b → Reps X.K F ρ xs ws → (b = true → Rep X.K F ρ (.tup xs) (.ref a)) →
      Post ((tb X n).at pr) F ρ (g b xs h) Q (fun _ _ _ => False) → wpAny (model X.prog X.w) X.A (call f [.ref a]) (EP X pins σ Q) X.xe s) : CallR X f (rF (tb X n) (seqF g)) := by
  rintro pins s σ H vs us Q I r ⟨pr, F, ρ, h, ds, S, rs, p⟩
  match ds, rs with
  | [], .nil => exact p.elim
  | _ :: _ :: _, .cons _ (.cons _ _) => exact p.elim
  | [d], .cons (v := v) r1 .nil =>
    unfold seqF at p
    dsimp only at p
    cases e1 : itemsOf h d with
    | none => rw [e1] at p; exact p.elim
    | some it =>
      rw [e1] at p
      obtain ⟨a, rfl, ⟨ws, lt, rw'⟩, _⟩ := isTupB_of S r1 e1
      obtain ⟨u, rfl, ru⟩ := vals1 r
      obtain rfl : u = .ref a := ru
      refine hf pins s σ H pr F ρ h a _ _ ws Q I S lt rw' (fun hb => ?_) p
      cases r1 with
      | tup h1 h2 => cases e1; exact .tup h1 h2
      | _ => cases hb

def asBls : List D → Option (List Bool)
  | [] => some []
  | .bl b :: ds => (asBls ds).map (b :: ·)
  | _ :: _ => none
theorem asBls_eq : ∀ {ds : List D} {bs : List Bool}, asBls ds = some bs → ds = bs.map D.bl
  | [], _, e => by cases e; rfl
  | .bl b :: ds, _, e => by
    unfold asBls at e
    rw [Option.map_eq_some_iff] at e
    obtain ⟨bs, e1, rfl⟩ := e
    rw [asBls_eq e1]; rfl
  | .non :: _, _, e => by cases e
  | .int _ :: _, _, e => by cases e
  | .str _ :: _, _, e => by cases e
  | .tup _ :: _, _, e => by cases e
  | .lst _ :: _, _, e => by cases e
  | .ref _ :: _, _, e => by cases e
  | .scr _ :: _, _, e => by cases e
def allG (t : Bool) (xs : List D) (h : MH) : Res D := match t, asBls xs with
  | false, some bs => .ok (.bl (bs.all id)) h
  | _, _ => .bad
def anyG (t : Bool) (xs : List D) (h : MH) : Res D := match t, asBls xs with
  | false, some bs => .ok (.bl (bs.any id)) h
  | _, _ => .bad
def sumG (t : Bool) (xs : List D) (h : MH) : Res D := match t, asInts xs with
  | false, some ns => .ok (.int ns.sum) h
  | _, _ => .bad
theorem all_noexc : NoExc (seqF allG) := seq_noexc fun b xs h x h' e => by
  unfold allG at e
  split at e <;> cases e
theorem any_noexc : NoExc (seqF anyG) := seq_noexc fun b xs h x h' e => by
  unfold anyG at e
  split at e <;> cases e
theorem sum_noexc : NoExc (seqF sumG) := seq_noexc fun b xs h x h' e => by
  unfold sumG at e
  split at e <;> cases e
theorem all_ok (hc : X.calm = true) : CallR X (.builtin "all") (rF (tb X n) (seqF allG)) := seq_ok fun pins s σ H pr F ρ h a b xs ws Q I S lt rs _ p => by
  unfold allG at p
  split at p
  · rename_i bs e _
    rw [asBls_eq e] at rs
    have ew := rs.of_bls
    subst ew
    exact cr_all hc pins s σ H [.ref a] _ Q I (.cons rfl .nil) ⟨a, bs, rfl, lt, p F ρ H _ (Ext.refl _ _) S (.bl _)⟩
  · exact p.elim
theorem any_ok (hc : X.calm = true) : CallR X (.builtin "any") (rF (tb X n) (seqF anyG)) := seq_ok fun pins s σ H pr F ρ h a b xs ws Q I S lt rs _ p => by
  unfold anyG at p
  split at p
  · rename_i bs e _
    rw [asBls_eq e] at rs
    have ew := rs.of_bls
    subst ew
    exact cr_any hc pins s σ H [.ref a] _ Q I (.cons rfl .nil) ⟨a, bs, rfl, lt, p F ρ H _ (Ext.refl _ _) S (.bl _)⟩
  · exact p.elim
theorem sum_ok (hc : X.calm = true) : CallR X (.builtin "sum") (rF (tb X n) (seqF sumG)) := seq_ok fun pins s σ H pr F ρ h a b xs ws Q I S lt rs _ p => by
  unfold sumG at p
  split at p
  · rename_i ns e _
    rw [asInts_eq e] at rs
    have ew := rs.of_ints
    subst ew
    exact cr_sum hc pins s σ H [.ref a] _ Q I (.cons rfl .nil) ⟨a, ns, rfl, lt, p F ρ H _ (Ext.refl _ _) S (.int _)⟩
  · exact p.elim
/-- list(xs), tuple(xs) -/
def listG (c : Bool) (_ : Bool) (xs : List D) (h : MH) : Res D := mkL c xs h
def tupG (_ : Bool) (xs : List D) (h : MH) : Res D := .ok (.tup xs) h
theorem mkL_noexc {b : Bool} {xs : List D} {h : MH} {x : EXC} {h' : MH} : mkL b xs h ≠ .exc x h' := fun e => by
  unfold mkL at e
  split at e <;> cases e
theorem list_noexc {c : Bool} : NoExc (seqF (listG c)) := seq_noexc fun b xs h x h' e => mkL_noexc e
theorem tup_noexc : NoExc (seqF tupG) := seq_noexc fun b xs h x h' e => by cases e
theorem list_ok (c : Bool) : CallR X (.type "list") (rF (tb X n) (seqF (listG c))) := seq_ok fun pins s σ H pr F ρ h a b xs ws Q I S lt rs _ p => by
  refine call_list_of pins s σ H [.ref a] _ Q I (.cons rfl .nil) ⟨a, ws, rfl, ?_, fun l hl => mkL_new p S rs hl⟩
  cases b with
  | true => exact .inr lt
  | false => exact .inl lt
theorem tuple_ok : CallR X (.type "tuple") (rF (tb X n) (seqF tupG)) := seq_ok fun pins s σ H pr F ρ h a b xs ws Q I S lt rs rt p => by
  refine call_tuple_of pins s σ H [.ref a] _ Q I (.cons rfl .nil) ⟨a, ws, rfl, ?_⟩
  cases b with
  | true => exact .inr ⟨lt, p F ρ H _ (Ext.refl _ _) S (rt rfl)⟩
  | false => exact .inl ⟨lt, fun l hl => tup_new p S rs hl⟩

/-! ### ints -/
def intF : Fn := fun ds h => match ds with
  | [.int i] => .ok (.int i) h
  | [.bl b] => .ok (.int (if b = true then 1 else 0)) h
  | _ => .bad
def absF : Fn := fun ds h => match ds with
  | [.int i] => .ok (.int (if i < 0 then -i else i)) h
  | _ => .bad
def strF : Fn := fun ds h => match ds with
  | [.int i] => if i.natAbs.log2 < 1920 then .ok (.str (toString i)) h else .bad
  | _ => .bad
theorem int_noexc : NoExc intF := fun ds h x h' e => by
  unfold intF at e
  split at e <;> cases e
theorem abs_noexc : NoExc absF := fun ds h x h' e => by
  unfold absF at e
  split at e <;> cases e
theorem str_noexc : NoExc strF := fun ds h x h' e => by
  unfold strF at e
  repeat' split at e
  all_goals cases e
theorem int_ok : CallR X (.type "int") (rF (tb X n) intF) := by
  rintro pins s σ H vs us Q I r ⟨pr, F, ρ, h, ds, S, rs, p⟩
  unfold intF at p
  split at p
  · rename_i i
    cases rs with
    | cons r1 r2 => cases r1; cases r2; exact call_int1 pins s σ H _ _ Q I r (.inl ⟨i, rfl, p F ρ H _ (Ext.refl _ _) S (.int _)⟩)
  · rename_i b
    cases rs with
    | cons r1 r2 => cases r1; cases r2; exact call_int1 pins s σ H _ _ Q I r (.inr ⟨b, rfl, p F ρ H _ (Ext.refl _ _) S (.int _)⟩)
  · exact p.elim
theorem abs_ok : CallR X (.builtin "abs") (rF (tb X n) absF) := by
  rintro pins s σ H vs us Q I r ⟨pr, F, ρ, h, ds, S, rs, p⟩
  unfold absF at p
  split at p
  · rename_i i
    cases rs with
    | cons r1 r2 => cases r1; cases r2; exact call_abs pins s σ H _ _ Q I r ⟨i, rfl, p F ρ H _ (Ext.refl _ _) S (.int _)⟩
  · exact p.elim
theorem str_ok : CallR X (.type "str") (rF (tb X n) strF) := by
  rintro pins s σ H vs us Q I r ⟨pr, F, ρ, h, ds, S, rs, p⟩
  unfold strF at p
  split at p
  · rename_i i
    split at p
    · rename_i hl
      cases rs with
      | cons r1 r2 => cases r1; cases r2; exact call_str_int pins s σ H _ _ Q I r ⟨i, rfl, hl, p F ρ H _ (Ext.refl _ _) S (.str _)⟩
    · exact p.elim
  · exact p.elim
/-- max, min: of two ints, of a list of ints -/
def maxL : List Int → Int
  | [] => 0
  | [i] => i
  | i :: j :: r => max i (maxL (j :: r))
def minL : List Int → Int
  | [] => 0
  | [i] => i
  | i :: j :: r => min i (minL (j :: r))
theorem maxL_mem : ∀ (ns : List Int), 0 < ns.length → maxL ns ∈ ns ∧ ∀ y ∈ ns, y ≤ maxL ns
  | [], h => absurd h (by simp)
  | [i], _ => by simp [maxL]
  | i :: j :: r, _ => by
    obtain ⟨h1, h2⟩ := maxL_mem (j :: r) (by simp)
    unfold maxL
    constructor
    · by_cases q : i ≤ maxL (j :: r)
      · rw [Int.max_eq_right q]; exact List.mem_cons_of_mem _ h1
      · rw [Int.max_eq_left (by omega)]; exact List.mem_cons_self
    · intro y hy
      rcases List.mem_cons.mp hy with e | hy
      · omega
      · have := h2 y hy; omega
theorem minL_mem : ∀ (ns : List Int), 0 < ns.length → minL ns ∈ ns ∧ ∀ y ∈ ns, minL ns ≤ y
  | [], h => absurd h (by simp)
  | [i], _ => by simp [minL]
  | i :: j :: r, _ => by
    obtain ⟨h1, h2⟩ := minL_mem (j :: r) (by simp)
    unfold minL
    constructor
    · by_cases q : i ≤ minL (j :: r)
      · rw [Int.min_eq_left q]; exact List.mem_cons_self
      · rw [Int.min_eq_right (by omega)]; exact List.mem_cons_of_mem _ h1
    · intro y hy
      rcases List.mem_cons.mp hy with e | hy
      · omega
      · have := h2 y hy; omega
def maxG (t : Bool) (xs : List D) (h : MH) : Res D := match t, asInts xs with
  | false, some (i :: ns) => .ok (.int (maxL (i :: ns))) h
  | _, _ => .bad
def minG (t : Bool) (xs : List D) (h : MH) : Res D := match t, asInts xs with
  | false, some (i :: ns) => .ok (.int (minL (i :: ns))) h
  | _, _ => .bad
theorem maxG_noexc : NoExc (seqF maxG) := seq_noexc fun b xs h x h' e => by
  unfold maxG at e
  split at e <;> cases e
theorem minG_noexc : NoExc (seqF minG) := seq_noexc fun b xs h x h' e => by
  unfold minG at e
  split at e <;> cases e
theorem maxG_ok (hc : X.calm = true) : CallR X (.builtin "max") (rF (tb X n) (seqF maxG)) := seq_ok fun pins s σ H pr F ρ h a b xs ws Q I S lt rs _ p => by
  unfold maxG at p
  split at p
  · rename_i i ns e _
    rw [asInts_eq e] at rs
    have ew := rs.of_ints
    subst ew
    refine cr_max hc pins s σ H [.ref a] _ Q I (.cons rfl .nil) ⟨a, i :: ns, rfl, lt, by simp, fun m h1 h2 => ?_⟩
    obtain ⟨g1, g2⟩ := maxL_mem (i :: ns) (by simp)
    rw [show m = maxL (i :: ns) from by have := h2 _ g1; have := g2 m h1; omega]
    exact p F ρ H _ (Ext.refl _ _) S (.int _)
  · exact p.elim
theorem minG_ok (hc : X.calm = true) : CallR X (.builtin "min") (rF (tb X n) (seqF minG)) := seq_ok fun pins s σ H pr F ρ h a b xs ws Q I S lt rs _ p => by
  unfold minG at p
  split at p
  · rename_i i ns e _
    rw [asInts_eq e] at rs
    have ew := rs.of_ints
    subst ew
    refine cr_min hc pins s σ H [.ref a] _ Q I (.cons rfl .nil) ⟨a, i :: ns, rfl, lt, by simp, fun m h1 h2 => ?_⟩
    obtain ⟨g1, g2⟩ := minL_mem (i :: ns) (by simp)
    rw [show m = minL (i :: ns) from by have := h2 _ g1; have := g2 m h1; omega]
    exact p F ρ H _ (Ext.refl _ _) S (.int _)
  · exact p.elim
def max2F : Fn := fun ds h => match ds with
  | [.int i, .int j] => .ok (.int (max i j)) h
  | _ => .bad
def min2F : Fn := fun ds h => match ds with
  | [.int i, .int j] => .ok (.int (min i j)) h
  | _ => .bad
theorem max2_noexc : NoExc max2F := fun ds h x h' e => by
  unfold max2F at e
  split at e <;> cases e
theorem min2_noexc : NoExc min2F := fun ds h x h' e => by
  unfold min2F at e
  split at e <;> cases e
theorem max2_ok (hc : X.calm = true) : CallR X (.builtin "max") (rF (tb X n) max2F) := by
  rintro pins s σ H vs us Q I r ⟨pr, F, ρ, h, ds, S, rs, p⟩
  unfold max2F at p
  split at p
  · rename_i i j
    cases rs with
    | cons r1 r2 =>
      cases r2 with
      | cons r2 r3 =>
        cases r1; cases r2; cases r3
        refine call_max2 hc pins s σ H _ _ Q I r ⟨i, j, rfl, ?_⟩
        rw [show (if j > i then j else i) = max i j from by split <;> omega]
        exact p F ρ H _ (Ext.refl _ _) S (.int _)
  · exact p.elim
theorem min2_ok (hc : X.calm = true) : CallR X (.builtin "min") (rF (tb X n) min2F) := by
  rintro pins s σ H vs us Q I r ⟨pr, F, ρ, h, ds, S, rs, p⟩
  unfold min2F at p
  split at p
  · rename_i i j
    cases rs with
    | cons r1 r2 =>
      cases r2 with
      | cons r2 r3 =>
        cases r1; cases r2; cases r3
        refine call_min2 hc pins s σ H _ _ Q I r ⟨i, j, rfl, ?_⟩
        rw [show (if j < i then j else i) = min i j from by split <;> omega]
        exact p F ρ H _ (Ext.refl _ _) S (.int _)
  · exact p.elim

/-! ### list(range(..)), tuple(range(..)) -/
def rgB (i j : Int) : Bool := sm62 i && sm62 j && decide ((j - i).toNat ≤ lim)
def eRgL (b : Bool) (as : EvL) : Ev := fun σ h => (as σ h).bind fun ds h1 => match ds with
  | [.int j] => if rgB 0 j = true then mkL b (rangeD 0 j.toNat) h1 else .bad
  | [.int i, .int j] => if rgB i j = true then mkL b (rangeD i (j - i).toNat) h1 else .bad
  | _ => .bad
def eRgT (as : EvL) : Ev := fun σ h => (as σ h).bind fun ds h1 => match ds with
  | [.int j] => if rgB 0 j = true then .ok (.tup (rangeD 0 j.toNat)) h1 else .bad
  | [.int i, .int j] => if rgB i j = true then .ok (.tup (rangeD i (j - i).toNat)) h1 else .bad
  | _ => .bad
theorem rg_reps {K : PySem.W.Frag} {F : Hp} {ρ : List Addr} (i j : Int) : Reps K F ρ (rangeD i (j - i).toNat) (rgV i j) := by
  have h := Reps.ints (K := K) (F := F) (ρ := ρ) ((List.range (j - i).toNat).map fun (q : Nat) => i + (q : Int))
  rw [List.map_map, List.map_map] at h
  exact h
theorem rgB_ok {i j : Int} (h : rgB i j = true) : RgOk i j := by
  unfold rgB at h
  rw [Bool.and_eq_true, Bool.and_eq_true, decide_eq_true_eq] at h
  obtain ⟨b1, b2⟩ := sm62_iff h.1.1
  obtain ⟨b3, b4⟩ := sm62_iff h.1.2
  exact ⟨b1, b2, b3, b4, Nat.le_trans h.2 (by decide)⟩
theorem aCons_bind {f : Ev} {r : EvL} {σ : Sl} {h : MH} {g : List D → MH → Res D} : (aCons f r σ h).bind g = (f σ h).bind fun d h1 => (r σ h1).bind fun ds h2 => g (d :: ds) h2 := by
  unfold aCons
  cases f σ h with
  | ok d h1 =>
    simp only [Res.bind]
    cases r σ h1 <;> rfl
  | exc x h1 => rfl
  | bad => rfl
theorem se_rgL1 (c : Cc L n k W ow N sc X) (b : Bool) {e : Expr} {f : Ev} {p1 p2 p3 : Pos} (hg : gloB sc "list" = true) (hm : X.mg "list" = none) (hg2 : gloB sc "range" = true) (hm2 : X.mg "range" = none) (he : SE X n W e f)
    (n1 : starEach [e] X.env = (false, eval e X.env) :: starEach [] X.env) (n2 : starEach [.Call (.Name "range" p2) [e] [] p3] X.env = (false, eval (.Call (.Name "range" p2) [e] [] p3) X.env) :: starEach [] X.env) :
    SE X n W (.Call (.Name "list" p1) [.Call (.Name "range" p2) [e] [] p3] [] pos) (eRgL b (aCons f aNil)) := by
  refine PE_imp (pe_listRg c.calm (c.glo hg) hm (prg_1 (c.glo hg2) hm2 he n1) n2) fun τ H Q q => ?_
  obtain ⟨_, F, ρ, h, σ, s, l, p⟩ := q
  unfold eRgL at p
  rw [aCons_bind] at p
  refine tM_bind s l p fun F1 ρ1 H1 d h1 v x1 s1 l1 r1 p1 => ?_
  simp only [aNil, Res.bind] at p1
  cases r1 with
  | int j =>
    dsimp only at p1
    split at p1
    · rename_i hb
      refine ⟨j, rfl, rgB_ok hb, fun a ha => mkL_new p1 s1 ?_ ha⟩
      have := rg_reps (K := X.K) (F := F1) (ρ := ρ1) 0 j
      rw [Int.sub_zero] at this
      exact this
    · exact p1.elim
  | _ => exact p1.elim
theorem se_rgT1 (c : Cc L n k W ow N sc X) {e : Expr} {f : Ev} {p1 p2 p3 : Pos} (hg : gloB sc "tuple" = true) (hm : X.mg "tuple" = none) (hg2 : gloB sc "range" = true) (hm2 : X.mg "range" = none) (he : SE X n W e f)
    (n1 : starEach [e] X.env = (false, eval e X.env) :: starEach [] X.env) (n2 : starEach [.Call (.Name "range" p2) [e] [] p3] X.env = (false, eval (.Call (.Name "range" p2) [e] [] p3) X.env) :: starEach [] X.env) :
    SE X n W (.Call (.Name "tuple" p1) [.Call (.Name "range" p2) [e] [] p3] [] pos) (eRgT (aCons f aNil)) := by
  refine PE_imp (pe_tupRg c.calm (c.glo hg) hm (prg_1 (c.glo hg2) hm2 he n1) n2) fun τ H Q q => ?_
  obtain ⟨_, F, ρ, h, σ, s, l, p⟩ := q
  unfold eRgT at p
  rw [aCons_bind] at p
  refine tM_bind s l p fun F1 ρ1 H1 d h1 v x1 s1 l1 r1 p1 => ?_
  simp only [aNil, Res.bind] at p1
  cases r1 with
  | int j =>
    dsimp only at p1
    split at p1
    · rename_i hb
      refine ⟨j, rfl, rgB_ok hb, fun a ha => tup_new p1 s1 ?_ ha⟩
      have := rg_reps (K := X.K) (F := F1) (ρ := ρ1) 0 j
      rw [Int.sub_zero] at this
      exact this
    · exact p1.elim
  | _ => exact p1.elim
end
end MI

/-! MI, part L: methods of lists; dicts. -/
namespace MI
open PySem PySem.Spec L2

/-! ### a method of a built-in type's value -/
def eMeth (T : String) (g : Fn) (f : Ev) (as : EvL) : Ev := fun σ h => (f σ h).bind fun d h1 => if tyS h1 d = some T then (as σ h1).bind fun ds h2 => g (d :: ds) h2 else .bad
def rM (T : Tb) (g : Fn) : V → List V → Hp → VK → Prop := fun x xs H Q => rF T g (x :: xs) H Q
def methT (T : String) : Bool := T == "list" || T == "dict" || T == "str"
section
variable {L : Md → Prop} {n : Nm} {k : Nat} {W : WX} {ow : Str → Bool} {N : List Str} {sc : Scope} {X : Cx} {pos : Pos}
theorem rep_ty {pins : List (Addr × Obj)} {σ : St} {H : Hp} {s : Shared} {pr : Addr → Option HO} {F : Hp} {ρ : List Addr} {h : MH} {d : D} {v : V} {u : Value} {T : String} (I : Inv X pins σ H s) (S : SR ((tb X n).at pr) F ρ H h) (r : Rep X.K F ρ d v) (ru : RelV v u) (e : tyS h d = some T) (hT : methT T = true) :
    s.TypeIs u T ∧ ∀ a, u = .ref a → ∃ ob, s.heap.get? a = some ob ∧ ob.dict = none := by
  have lstc : ∀ {a : Addr} {vs : List V}, SqL X.K H a vs → s.TypeIs (.ref a) "list" ∧ ∀ b, Value.ref a = .ref b → ∃ ob, s.heap.get? b = some ob ∧ ob.dict = none := fun {a vs} q => by
    obtain ⟨its, _, p, _⟩ := I.list q
    refine ⟨p.isList.typeIs, fun b z => ?_⟩
    cases z
    obtain ⟨o, m, e1, e2, e3, _⟩ := p
    exact ⟨o, e1, e3⟩
  cases r with
  | non => cases e; cases hT
  | bl b => cases e; cases hT
  | int i => cases e; cases hT
  | str z => cases e; obtain ⟨t, rfl⟩ := ru; exact ⟨typeIs_str s z t, fun _ q => nomatch q⟩
  | tup h1 h2 => cases e; cases hT
  | lst h1 h2 =>
    cases e
    obtain rfl : u = .ref _ := ru
    exact lstc (.of (S.le _ _ h1))
  | scr h1 =>
    cases e
    obtain rfl : u = .ref _ := ru
    exact lstc (sqL_le S.le h1)
  | @ref m a h1 =>
    obtain rfl : u = .ref _ := ru
    unfold tyS at e
    dsimp only at e
    split at e
    · rename_i xs hx
      cases e
      obtain ⟨a', e1, _, vs, e3, _⟩ := S.at hx
      rw [h1] at e1; cases e1
      exact lstc (.of e3)
    · rename_i xs hx
      cases e
      obtain ⟨a', e1, _, ys, e3, _⟩ := S.at hx
      rw [h1] at e1; cases e1
      obtain ⟨⟨o, es, ep, e4, e5, _⟩, _⟩ := (show ObjOk X.prog X.w H s.heap a (DictO X.w a ys) from I.hok a _ e3)
      refine ⟨⟨o, e4, e5.1⟩, fun b z => ?_⟩
      cases z
      exact ⟨o, e4, e5.2.1⟩
    · cases e
theorem se_meth {T id : String} {name : Str} {g : Fn} {o e : Expr} {es : List Expr} {f : Ev} {as : EvL} {apos : Pos} (pa : PlainAttrs T) (slot : Slot T name id) (hty : typeOf (.builtin id) = pure (.type "method_descriptor")) (hT : methT T = true) (hm : MtR X id (rM (tb X n) g)) (hx : NoExc g) (ho : SE X n W o f) (ha : SA X n W (e :: es) as)
    (hbase : attributeBase o name X.env (eval o X.env) = eval o X.env)
    (hfew : ((backTo pos (starEach (e :: es) X.env)).all (fun x => !x.1) && (backToKw pos (keywordEach [] X.env)).all (fun x => x.1.isSome) && decide ((e :: es).length + ([] : List Keyword).length + (if ([] : List Keyword).isEmpty then 0 else 1) < 30)) = true)
    (hline : (apos.endLine == pos.line) = true) (hs : starEach (e :: es) X.env = (false, eval e X.env) :: starEach es X.env) (hpl : (backTo pos (starEach es X.env)).any (·.1) = false) : SE X n W (.Call (.Attribute o name apos) (e :: es) [] pos) (eMeth T g f as) := by
  refine ⟨fun pins s τ H Q I q => ?_⟩
  obtain ⟨pr, F, ρ, h, σ, sr, l, p⟩ := q
  refine wpAny_Call_method_late hbase hfew hline rfl (thn (ho.run pins s τ H (fun v H1 => ∃ F1 ρ1 h1 d, SR ((tb X n).at pr) F1 ρ1 H1 h1 ∧ SLR X.K F1 ρ1 σ τ ∧ Rep X.K F1 ρ1 d v ∧ tyS h1 d = some T ∧ Post ((tb X n).at pr) F1 ρ1 ((as σ h1).bind fun ds h2 => g (d :: ds) h2) Q fun c d H' => W c d τ H') I (tM_bind sr l p fun F1 ρ1 H1 d h1 v x1 s1 l1 r1 p1 => ?_)) fun v s1 h1 => ?_)
  · split at p1
    · rename_i ht; exact ⟨F1, ρ1, h1, d, s1, l1, r1, ht, p1⟩
    · exact p1.elim
  · obtain ⟨x, H1, I1, rx, F1, ρ1, h1, d, sr1, l1, r1, ht, p1⟩ := h1
    obtain ⟨t1, t2⟩ := rep_ty I1 sr1 r1 rx ht hT
    refine ⟨T, id, pa, slot, hty, t1, t2, ?_⟩
    have hA := ha.run pos pins s1 τ H1 (fun vs H2 => rM (tb X n) g x vs H2 Q) I1 (tML_bind sr1 l1 p1 fun F2 ρ2 H2 ds h2 vs x2 s2 l2 r2 p2 => ⟨pr, F2, ρ2, h2, d :: ds, s2, .cons (r1.mono x2) r2, ?_⟩)
    · rw [hs] at hA ⊢
      refine Calls.callWith_builtin (by show (false || (backTo pos (starEach es X.env)).any (·.1)) = false; rw [hpl]; rfl) (Calls.evalArgs_plain ?_)
      exact thn hA fun us s2 ⟨vs, H2, I2, r2, q2⟩ => hm pins s2 τ H2 x vs v us Q I2 rx r2 q2
    · cases e3 : g (d :: ds) h2 with
      | ok d' h3 => rw [e3] at p2; exact p2
      | exc y h3 => exact (hx _ _ _ _ e3).elim
      | bad => rw [e3] at p2; exact p2
theorem se_meth0 {T id : String} {name : Str} {g : Fn} {o : Expr} {f : Ev} {apos : Pos} (pa : PlainAttrs T) (slot : Slot T name id) (hty : typeOf (.builtin id) = pure (.type "method_descriptor")) (hT : methT T = true) (hm : MtR X id (rM (tb X n) g)) (hx : NoExc g) (ho : SE X n W o f)
    (hbase : attributeBase o name X.env (eval o X.env) = eval o X.env) (hline : (apos.endLine == pos.line) = true) : SE X n W (.Call (.Attribute o name apos) [] [] pos) (eMeth T g f aNil) := by
  refine ⟨fun pins s τ H Q I q => ?_⟩
  obtain ⟨pr, F, ρ, h, σ, sr, l, p⟩ := q
  refine wpAny_Call_method0_late hbase hline (thn (ho.run pins s τ H (fun v H1 => ∃ F1 ρ1 h1 d, SR ((tb X n).at pr) F1 ρ1 H1 h1 ∧ Rep X.K F1 ρ1 d v ∧ tyS h1 d = some T ∧ Post ((tb X n).at pr) F1 ρ1 (g [d] h1) Q fun c d H' => W c d τ H') I (tM_bind sr l p fun F1 ρ1 H1 d h1 v x1 s1 l1 r1 p1 => ?_)) fun v s1 h1 => ?_)
  · split at p1
    · rename_i ht; exact ⟨F1, ρ1, h1, d, s1, r1, ht, p1⟩
    · exact p1.elim
  · obtain ⟨x, H1, I1, rx, F1, ρ1, h1, d, sr1, r1, ht, p1⟩ := h1
    obtain ⟨t1, t2⟩ := rep_ty I1 sr1 r1 rx ht hT
    refine ⟨T, id, pa, slot, hty, t1, t2, Calls.callWith_builtin rfl (PySem.evalArgs_none (hm pins s1 τ H1 x [] v [] Q I1 rx .nil ⟨pr, F1, ρ1, h1, [d], sr1, .cons r1 .nil, ?_⟩))⟩
    cases e3 : g [d] h1 with
    | ok d' h3 => rw [e3] at p1; exact p1
    | exc y h3 => exact (hx _ _ _ _ e3).elim
    | bad => rw [e3] at p1; exact p1

/-! ### methods of lists -/
def boxL (h : MH) (m : Nat) : Option (List D) := match h[m]? with
  | some (.lst xs) => some xs
  | _ => none
theorem boxL_at {T : Tb} {F : Hp} {ρ : List Addr} {H : Hp} {h : MH} (S : SR T F ρ H h) {m : Nat} {a : Addr} {xs : List D} (e : ρ[m]? = some a) (q : boxL h m = some xs) : ∃ vs, H a = some (.lst vs) ∧ Reps T.K F ρ xs vs := by
  unfold boxL at q
  split at q
  · rename_i ys hy
    cases q
    obtain ⟨a', e1, _, vs, e3, e4⟩ := S.at hy
    rw [e] at e1; cases e1
    exact ⟨vs, e3, e4⟩
  · cases q
/-- the list at m becomes ys -/
theorem SR.putL {T : Tb} {F : Hp} {ρ : List Addr} {H : Hp} {h : MH} (S : SR T F ρ H h) {m : Nat} {a : Addr} {vs ws : List V} {ys : List D} (e : ρ[m]? = some a) (hH : H a = some (.lst vs)) (r : Reps T.K F ρ ys ws) : SR T F ρ (upd H a (.lst ws)) (h.set m (.lst ys)) :=
  S.put e (fun gs q => by rw [hH] at q; cases q) ⟨ws, upd_same .., r⟩
def appendF : Fn := fun ds h => match ds with
  | [.ref m, d] => match boxL h m with
    | some xs => if xs.length < lim then .ok .non (h.set m (.lst (xs ++ [d]))) else .bad
    | none => .bad
  | _ => .bad
def popF : Fn := fun ds h => match ds with
  | [.ref m] => match boxL h m with
    | some xs => match xs[xs.length - 1]? with
      | some d => .ok d (h.set m (.lst xs.dropLast))
      | none => .bad
    | none => .bad
  | _ => .bad
def popAtF : Fn := fun ds h => match ds with
  | [.ref m, .int i] => match boxL h m with
    | some xs => match ixN xs.length i with
      | some j => match xs[j]? with
        | some d => if sm62 i = true then .ok d (h.set m (.lst (xs.eraseIdx j))) else .bad
        | none => .bad
      | none => .bad
    | none => .bad
  | _ => .bad
theorem append_noexc : NoExc appendF := fun ds h x h' e => by
  unfold appendF at e
  repeat' split at e
  all_goals cases e
theorem pop_noexc : NoExc popF := fun ds h x h' e => by
  unfold popF at e
  repeat' split at e
  all_goals cases e
theorem popAt_noexc : NoExc popAtF := fun ds h x h' e => by
  unfold popAtF at e
  repeat' split at e
  all_goals cases e
theorem rev_reps {K : PySem.W.Frag} {F : Hp} {ρ : List Addr} : ∀ {xs : List D} {vs : List V}, Reps K F ρ xs vs → Reps K F ρ xs.reverse vs.reverse
  | _, _, .nil => .nil
  | _, _, .cons h hs => by
    rw [List.reverse_cons, List.reverse_cons]
    exact (rev_reps hs).append (.cons h .nil)
theorem erase_reps {K : PySem.W.Frag} {F : Hp} {ρ : List Addr} : ∀ {xs : List D} {vs : List V} (j : Nat), Reps K F ρ xs vs → Reps K F ρ (xs.eraseIdx j) (vs.eraseIdx j)
  | _, _, _, .nil => .nil
  | _, _, 0, .cons _ hs => hs
  | _, _, j + 1, .cons h hs => .cons h (erase_reps j hs)
theorem dropLast_reps {K : PySem.W.Frag} {F : Hp} {ρ : List Addr} {xs : List D} {vs : List V} (r : Reps K F ρ xs vs) : Reps K F ρ xs.dropLast vs.dropLast := by
  rw [List.dropLast_eq_take, List.dropLast_eq_take, r.length]
  exact r.take _
theorem append_ok : MtR X "list.append" (rM (tb X n) appendF) := by
  rintro pins s σ H x vs u us Q I rx r ⟨pr, F, ρ, h, ds, S, rs, p⟩
  unfold appendF at p
  split at p
  · rename_i m d
    split at p
    · rename_i xs hx
      split at p
      · rename_i hl
        cases rs with
        | cons r1 r2 =>
          cases r2 with
          | cons r2 r3 =>
            cases r3
            cases r1 with
            | ref e =>
              obtain ⟨ws, e3, e4⟩ := boxL_at S e hx
              refine mt_append pins s σ H _ _ u us Q I rx r ⟨_, ws, _, rfl, rfl, e3, ?_, p F ρ _ _ (Ext.refl _ _) (S.putL e e3 (e4.append (.cons r2 .nil))) .non⟩
              rw [← e4.length]
              exact Nat.lt_of_lt_of_le hl (lim_ok (Nat.le_refl _))
      · exact p.elim
    · exact p.elim
  · exact p.elim
theorem pop_ok : MtR X "list.pop" (rM (tb X n) popF) := by
  rintro pins s σ H x vs u us Q I rx r ⟨pr, F, ρ, h, ds, S, rs, p⟩
  unfold popF at p
  split at p
  · rename_i m
    split at p
    · rename_i xs hx
      split at p
      · rename_i d hd
        cases rs with
        | cons r1 r2 =>
          cases r2
          cases r1 with
          | ref e =>
            obtain ⟨ws, e3, e4⟩ := boxL_at S e hx
            obtain ⟨v, hv, rv⟩ := e4.get hd
            exact mt_pop pins s σ H _ _ u us Q I rx r ⟨_, ws, v, rfl, rfl, e3, by rw [← e4.length]; exact hv, p F ρ _ _ (Ext.refl _ _) (S.putL e e3 (dropLast_reps e4)) rv⟩
      · exact p.elim
    · exact p.elim
  · exact p.elim
theorem popAt_ok : MtR X "list.pop" (rM (tb X n) popAtF) := by
  rintro pins s σ H x vs u us Q I rx r ⟨pr, F, ρ, h, ds, S, rs, p⟩
  unfold popAtF at p
  split at p
  · rename_i m i
    split at p
    · rename_i xs hx
      split at p
      · rename_i j hj
        split at p
        · rename_i d hd
          split at p
          · rename_i hi
            cases rs with
            | cons r1 r2 =>
              cases r2 with
              | cons r2 r3 =>
                cases r3
                cases r2
                cases r1 with
                | ref e =>
                  obtain ⟨ws, e3, e4⟩ := boxL_at S e hx
                  obtain ⟨v, hv, rv⟩ := e4.get hd
                  obtain ⟨b1, b2⟩ := sm62_iff hi
                  obtain ⟨q1, q2, q3, q4⟩ := ixN_seq hj
                  exact mt_popAt pins s σ H _ _ u us Q I rx r ⟨_, ws, i, j, v, rfl, rfl, e3, by omega, by omega, by rw [← e4.length]; exact q1, hv, p F ρ _ _ (Ext.refl _ _) (S.putL e e3 (erase_reps j e4)) rv⟩
          · exact p.elim
        · exact p.elim
      · exact p.elim
    · exact p.elim
  · exact p.elim
/-- a[i] = v, a list -/
def setLF (o i v : D) (h : MH) : Option MH := match o, i with
  | .ref m, .int j => match boxL h m with
    | some xs => match ixN xs.length j with
      | some q => some (h.set m (.lst (xs.set q v)))
      | none => none
    | none => none
  | _, _ => none
def rSetM (T : Tb) (g : D → D → D → MH → Option MH) : V → V → V → Hp → (Hp → Prop) → Prop := fun o i v H Q => ∃ pr F ρ h x y z h', SR (T.at pr) F ρ H h ∧ Rep T.K F ρ x o ∧ Rep T.K F ρ y i ∧ Rep T.K F ρ z v ∧ g x y z h = some h' ∧ ∀ F' ρ' H', Ext F ρ F' ρ' → SR (T.at pr) F' ρ' H' h' → Q H'
theorem setL_ok : PSet X (rSetM (tb X n) setLF) := by
  rintro pins s σ H o i v ov iv u Q I ro ri rv ⟨pr, F, ρ, h, x, y, z, h', S, r1, r2, r3, e, kk⟩
  unfold setLF at e
  split at e
  · rename_i m j
    split at e
    · rename_i xs hx
      split at e
      · rename_i q hq
        cases e
        cases r2
        cases r1 with
        | ref e =>
          obtain ⟨ws, e3, e4⟩ := boxL_at S e hx
          exact set_list pins s σ H _ _ v ov iv u Q I ro ri rv ⟨_, ws, j, q, rfl, rfl, e3, by rw [← e4.length]; exact hq, kk F ρ _ (Ext.refl _ _) (S.putL e e3 (e4.set r3 q))⟩
      · cases e
    · cases e
  · cases e
/-- a[i] = .. as a target -/
def gSubM (fo fi : Ev) (g : D → D → D → MH → Option MH) : EvG := fun v σ h => match fo σ h with
  | .ok o h1 => match fi σ h1 with
    | .ok i h2 => match g o i v h2 with
      | some h3 => some (σ, h3)
      | none => none
    | _ => none
  | _ => none
theorem g_sub {o i : Expr} {fo fi : Ev} {g : D → D → D → MH → Option MH} (ho : SE X n W o fo) (hi : SE X n W i fi) (hs : PSet X (rSetM (tb X n) g)) (ha : ∀ v, assign (.Subscript o i pos) X.env v = (do
      let ov ← holding [v] (eval o X.env)
      let iv ← holding [v, ov] (eval i X.env)
      standAt pos
      holding [v, ov, iv] (setItem ov iv v)
      release [v, ov, iv] [])) : SG X n (.Subscript o i pos) [] (gSubM fo fi g) := PG_imp (pg_sub ho hi hs ha) fun v τ H Q q => by
  obtain ⟨pr, F, ρ, h, σ, d, s, l, r, p⟩ := q
  unfold gSubM at p
  refine ⟨_, F, ρ, h, σ, s, l, ?_⟩
  cases e1 : fo σ h with
  | bad => rw [e1] at p; exact p
  | exc y h1 => rw [e1] at p; exact p.elim
  | ok dq h1 =>
    rw [e1] at p
    dsimp only at p
    intro F1 ρ1 H1 vo x1 s1 r1
    refine ⟨_, F1, ρ1, h1, σ, s1, l.mono x1, ?_⟩
    cases e2 : fi σ h1 with
    | bad => rw [e2] at p; exact p
    | exc y h2 => rw [e2] at p; exact p.elim
    | ok di h2 =>
      rw [e2] at p
      dsimp only at p
      intro F2 ρ2 H2 vi x2 s2 r2
      cases e3 : g dq di d h2 with
      | none => rw [e3] at p; exact p.elim
      | some h3 =>
        rw [e3] at p
        exact ⟨_, F2, ρ2, h2, dq, di, d, h3, s2, r1.mono x2, r2, (r.mono x1).mono x2, e3, fun F3 ρ3 H3 x3 s3 => p F3 ρ3 H3 τ ((x1.trans x2).trans x3) s3 (((l.mono x1).mono x2).mono x3) (TSame.refl _ _)⟩
end
end MI

/-! MI, part M: dicts. -/
namespace MI
open PySem PySem.Spec L2

/-! ### plain dicts -/
abbrev DK := List (D × D)
def getD (xs : DK) (d : D) : Option D := (xs.find? fun p => decide (p.1 = d)).map (·.2)
def setD (xs : DK) (d e : D) : DK := if d ∈ xs.map (·.1) then xs.map fun p => if p.1 = d then (p.1, e) else p else xs ++ [(d, e)]
def delD (xs : DK) (d : D) : DK := xs.filter fun p => decide (p.1 ≠ d)

inductive KRel (K : PySem.W.Frag) (F : Hp) (ρ : List Addr) : DK → KVs Value → Prop
  | nil : KRel K F ρ [] []
  | cons {d e : D} {k : NestedKey} {v u : V} {kv ev : Value} {ds : DK} {ys : KVs Value} : d.key = some k → k.depth ≤ 8 → Rep K F ρ d v → RelV v kv → Rep K F ρ e u → RelV u ev → KRel K F ρ ds ys → KRel K F ρ ((d, e) :: ds) ((k, kv, ev) :: ys)

section
variable {K : PySem.W.Frag} {F F' : Hp} {ρ ρ' : List Addr}
theorem KRel.mono (x : Ext F ρ F' ρ') : ∀ {ds : DK} {ys : KVs Value}, KRel K F ρ ds ys → KRel K F' ρ' ds ys
  | _, _, .nil => .nil
  | _, _, .cons a b c d e f g => .cons a b (c.mono x) d (e.mono x) f (KRel.mono x g)
theorem KRel.length : ∀ {ds : DK} {ys : KVs Value}, KRel K F ρ ds ys → ds.length = ys.length
  | _, _, .nil => rfl
  | _, _, .cons _ _ _ _ _ _ g => by rw [List.length_cons, List.length_cons, KRel.length g]
theorem key_iff {d d0 : D} {k k0 : NestedKey} (h : d.key = some k) (h0 : d0.key = some k0) : d0 = d ↔ k0 = k := by
  constructor
  · intro e; subst e; rw [h] at h0; cases h0; rfl
  · intro e; subst e; exact D.key_inj h0 h
theorem KRel.look {d : D} {k : NestedKey} (hk : d.key = some k) : ∀ {ds : DK} {ys : KVs Value}, KRel K F ρ ds ys → (getD ds d = none ∧ lookN ys k = none) ∨ ∃ e u ev, getD ds d = some e ∧ lookN ys k = some ev ∧ Rep K F ρ e u ∧ RelV u ev
  | _, _, .nil => .inl ⟨rfl, rfl⟩
  | _, _, .cons (d := d0) (e := e0) (k := k0) (ds := ds) (ys := ys) a b c dd e f g => by
    unfold getD lookN
    by_cases q : d0 = d
    · have q' := (key_iff hk a).mp q
      rw [List.find?_cons_of_pos (by simpa using q), List.find?_cons_of_pos (by simpa using q')]
      exact .inr ⟨_, _, _, rfl, rfl, e, f⟩
    · have q' : ¬ k0 = k := fun z => q ((key_iff hk a).mpr z)
      rw [List.find?_cons_of_neg (by simpa using q), List.find?_cons_of_neg (by simpa using q')]
      exact KRel.look hk g
theorem KRel.mem {d : D} {k : NestedKey} (hk : d.key = some k) : ∀ {ds : DK} {ys : KVs Value}, KRel K F ρ ds ys → (d ∈ ds.map (·.1) ↔ k ∈ ys.map (·.1))
  | _, _, .nil => by simp
  | _, _, .cons a b c dd e f g => by
    rw [List.map_cons, List.map_cons, List.mem_cons, List.mem_cons, KRel.mem hk g]
    have := key_iff hk a
    constructor
    · rintro (z | z)
      · exact .inl (this.mp z.symm).symm
      · exact .inr z
    · rintro (z | z)
      · exact .inl (this.mpr z.symm).symm
      · exact .inr z
theorem KRel.app : ∀ {ds es : DK} {ys zs : KVs Value}, KRel K F ρ ds ys → KRel K F ρ es zs → KRel K F ρ (ds ++ es) (ys ++ zs)
  | _, _, _, _, .nil, q => q
  | _, _, _, _, .cons a b c d e f g, q => .cons a b c d e f (KRel.app g q)
theorem KRel.setM {d e : D} {k : NestedKey} {u : V} {ev : Value} (hk : d.key = some k) (re : Rep K F ρ e u) (ru : RelV u ev) : ∀ {ds : DK} {ys : KVs Value}, KRel K F ρ ds ys → KRel K F ρ (ds.map fun p => if p.1 = d then (p.1, e) else p) (ys.map (setN k ev))
  | _, _, .nil => .nil
  | _, _, .cons (d := d0) (k := k0) a b c dd e1 f g => by
    rw [List.map_cons, List.map_cons]
    unfold setN
    by_cases q : d0 = d
    · have q' := (key_iff hk a).mp q
      rw [if_pos q, if_pos q']
      exact .cons a b c dd re ru (KRel.setM hk re ru g)
    · have q' : ¬ k0 = k := fun z => q ((key_iff hk a).mpr z)
      rw [if_neg q, if_neg q']
      exact .cons a b c dd e1 f (KRel.setM hk re ru g)
theorem KRel.put {d e : D} {k : NestedKey} {v u : V} {kv ev : Value} (hk : d.key = some k) (hd : k.depth ≤ 8) (rd : Rep K F ρ d v) (rv : RelV v kv) (re : Rep K F ρ e u) (ru : RelV u ev) {ds : DK} {ys : KVs Value} (g : KRel K F ρ ds ys) : KRel K F ρ (setD ds d e) (putN ys k kv ev) := by
  unfold setD putN
  by_cases q : d ∈ ds.map (·.1)
  · rw [if_pos q, if_pos ((KRel.mem hk g).mp q)]
    exact g.setM hk re ru
  · rw [if_neg q, if_neg fun z => q ((KRel.mem hk g).mpr z)]
    exact g.app (.cons hk hd rd rv re ru .nil)
theorem KRel.del {d : D} {k : NestedKey} (hk : d.key = some k) : ∀ {ds : DK} {ys : KVs Value}, KRel K F ρ ds ys → KRel K F ρ (delD ds d) (delN ys k)
  | _, _, .nil => .nil
  | _, _, .cons (d := d0) (k := k0) a b c dd e1 f g => by
    unfold delD delN
    by_cases q : d0 = d
    · have q' := (key_iff hk a).mp q
      rw [List.filter_cons_of_neg (by simp [q]), List.filter_cons_of_neg (by simp [q'])]
      exact KRel.del hk g
    · have q' : ¬ k0 = k := fun z => q ((key_iff hk a).mpr z)
      rw [List.filter_cons_of_pos (by simp [q]), List.filter_cons_of_pos (by simp [q'])]
      exact .cons a b c dd e1 f (KRel.del hk g)
theorem setD_len (xs : DK) (d e : D) : (setD xs d e).length ≤ xs.length + 1 := by
  unfold setD
  split <;> simp
theorem delD_len (xs : DK) (d : D) : (delD xs d).length ≤ xs.length := List.length_filter_le _ _

/-- there and back -/
theorem KRel.of {w : World} : ∀ {ds : DK} {xs : List (NestedKey × V × V)} {es : List DictEntry}, DRel K F ρ ds xs → Paired (fun (x : NestedKey × V × V) (e : DictEntry) => e.hash = x.1.hash w ∧ RelV x.2.1 e.key ∧ RelV x.2.2 e.val) xs es →
    ∃ ys : KVs Value, KRel K F ρ ds ys ∧ es = ys.map (ent w) ∧ ys.map (·.1) = xs.map (·.1)
  | _, _, _, .nil, .nil => ⟨[], .nil, rfl, rfl⟩
  | _, _, _, .cons a b c d e, .cons (b := en) p q => by
    obtain ⟨ys, h1, h2, h3⟩ := KRel.of e q
    obtain ⟨p1, p2, p3⟩ := p
    refine ⟨(_, en.key, en.val) :: ys, .cons a b c p2 d p3 h1, ?_, ?_⟩
    · rw [List.map_cons, ← h2]
      unfold ent
      dsimp only
      rw [← p1]
    · rw [List.map_cons, List.map_cons, h3]
theorem KRel.back {w : World} : ∀ {ds : DK} {ys : KVs Value}, KRel K F ρ ds ys → ∃ xs : List (NestedKey × V × V), DRel K F ρ ds xs ∧ Paired (fun (x : NestedKey × V × V) (e : DictEntry) => e.hash = x.1.hash w ∧ RelV x.2.1 e.key ∧ RelV x.2.2 e.val) xs (ys.map (ent w)) ∧ xs.map (·.1) = ys.map (·.1)
  | _, _, .nil => ⟨[], .nil, .nil, rfl⟩
  | _, _, .cons (v := v) (u := u) a b c d e f g => by
    obtain ⟨xs, h1, h2, h3⟩ := KRel.back (w := w) g
    exact ⟨(_, v, u) :: xs, .cons a b c e h1, .cons ⟨rfl, d, f⟩ h2, by rw [List.map_cons, List.map_cons, h3]⟩
end

/-! ### keys in the heap -/
section
variable {n : Nm} {X : Cx} {pins : List (Addr × Obj)} {σ : St} {H : Hp} {s : Shared} {pr : Addr → Option HO} {F : Hp} {ρ : List Addr} {h : MH}
mutual
theorem rep_nested (I : Inv X pins σ H s) (S : Le F H) : ∀ {d : D} {v : V} {u : Value} {k : NestedKey}, Rep X.K F ρ d v → RelV v u → d.key = some k → NestedIs s.heap k u
  | _, _, _, _, .non, r, e => by cases e; cases r; exact .none
  | _, _, _, _, .bl b, r, e => by cases e
  | _, _, _, _, .int i, r, e => by cases e; obtain ⟨t, rfl⟩ := r; exact .int i t
  | _, _, _, _, .str z, r, e => by cases e; obtain ⟨t, rfl⟩ := r; exact .text z t
  | _, _, _, _, .tup (a := a) h1 h2, r, e => by
    rw [D.key, Option.map_eq_some_iff] at e
    obtain ⟨ks, e1, rfl⟩ := e
    cases r
    obtain ⟨its, rv, ⟨o, g1, g2, m, g3⟩, _⟩ := I.tuple (sqT_le S h1)
    exact .tup g1 g2 g3 (reps_nested I S h2 (by simpa using rv) e1)
  | _, _, _, _, .lst _ _, r, e => by cases e
  | _, _, _, _, .scr _, r, e => by cases e
  | _, _, _, _, .ref _, r, e => by cases e
theorem reps_nested (I : Inv X pins σ H s) (S : Le F H) : ∀ {ds : List D} {vs : List V} {us : List Value} {ks : List NestedKey}, Reps X.K F ρ ds vs → Vals vs us → D.keys ds = some ks → NestedAll s.heap ks us
  | _, _, _, _, .nil, r, e => by cases e; cases r; exact .nil
  | _, _, _, _, .cons (d := d) (ds := ds) h1 h2, r, e => by
    rw [D.keys] at e
    cases r with
    | cons r1 r2 =>
      cases e1 : d.key with
      | none => rw [e1] at e; cases e
      | some k =>
        cases e2 : D.keys ds with
        | none => rw [e1, e2] at e; cases e
        | some ks =>
          rw [e1, e2] at e
          cases e
          exact .cons (rep_nested I S h1 r1 e1) (reps_nested I S h2 r2 e2)
end
/-- the dict at m, in the heap -/
theorem dict_at (I : Inv X pins σ H s) (S : SR ((tb X n).at pr) F ρ H h) {m : Nat} {a : Addr} {kvs : DK} (e : ρ[m]? = some a) (hm : h[m]? = some (.dict kvs)) :
    ∃ ys : KVs Value, KRel X.K F ρ kvs ys ∧ DictN X.w s.heap a ys ∧ (a == sysModules) = false ∧ ys.length ≤ sizeLine ∧ ∃ xs, H a = some (DictO X.w a xs) := by
  obtain ⟨a', e1, _, xs, e3, e4, e5, e6, e7⟩ := S.at hm
  rw [e] at e1; cases e1
  obtain ⟨⟨o, es, ep, g1, g2, g3, gz, g4⟩, _⟩ := (show ObjOk X.prog X.w H s.heap a (DictO X.w a xs) from I.hok a _ e3)
  obtain ⟨ys, k1, k2, k3⟩ := KRel.of e5 g4
  refine ⟨ys, k1, ⟨o, es, ep, g1, g2, g3, k2, ?_, (by rw [k3]; exact e6), (by have := congrArg List.length k3; rw [List.length_map, List.length_map] at this; omega)⟩, e4, ?_, xs, e3⟩
  · intro y hy
    have aux : ∀ {ds : DK} {ys : KVs Value}, KRel X.K F ρ ds ys → ∀ y ∈ ys, NestedIs s.heap y.1 y.2.1 ∧ y.1.depth ≤ 8 := by
      intro ds ys kr
      induction kr with
      | nil => intro y hy; simp at hy
      | cons a b c d e f g ih =>
        intro y hy
        rcases List.mem_cons.mp hy with z | z
        · subst z; exact ⟨rep_nested I S.le c d a, b⟩
        · exact ih y z
    exact aux k1 y hy
  · have := congrArg List.length k3
    rw [List.length_map, List.length_map] at this
    omega
/-- the dict has changed -/
theorem dict_put (I : Inv X pins σ H s) (S : SR ((tb X n).at pr) F ρ H h) {m : Nat} {a : Addr} {kvs : DK} {ys : KVs Value} {xs0 : List (NestedKey × V × V)} (e : ρ[m]? = some a) (hH : H a = some (DictO X.w a xs0)) (hs : (a == sysModules) = false) (kr : KRel X.K F ρ kvs ys) {h' : Heap} (hd : DictN X.w h' a ys) (sb : Heap.SameBut a s.heap h') (hz : kvs.length ≤ sizeLine) :
    ∃ xs, ∀ tk : Nat, Inv X pins σ (upd H a (DictO X.w a xs)) { s with heap := h', toks := tk } ∧ SR ((tb X n).at pr) F ρ (upd H a (DictO X.w a xs)) (h.set m (.dict kvs)) := by
  obtain ⟨xs, d1, d2, d3⟩ := KRel.back (w := X.w) kr
  obtain ⟨o, es, ep, g1, g2, g3, g4, g5, g6, g7⟩ := hd
  refine ⟨xs, fun tk => ⟨I.write (x := a) (e := a) (by rw [hH]; exact True.intro) (.inl rfl) (fun b u hb q => (sb.2 b hb).trans q) ⟨o, g1⟩ (dictO_ok g1 g2 g3 (by have := congrArg List.length d3; rw [List.length_map, List.length_map] at this; omega) (by rw [g4]; exact d2)), ?_⟩⟩
  refine S.put e (fun gs q => by rw [hH] at q; cases q) ⟨xs, upd_same .., hs, d1, by rw [d3]; exact g6, ?_⟩
  have := congrArg List.length d3
  rw [List.length_map, List.length_map] at this
  rw [this, ← kr.length]; exact hz
/-- a new dict -/
theorem dict_new (I : Inv X pins σ H s) (S : SR ((tb X n).at pr) F ρ H h) {a : Addr} {kvs : DK} {ys : KVs Value} {h' : Heap} {tk : Nat} (ha : s.heap.objs.size ≤ a) (kr : KRel X.K F ρ kvs ys) (hd : DictN X.w h' a ys) (kp : ∀ b o, s.heap.get? b = some o → h'.get? b = some o) (hz : kvs.length ≤ sizeLine) :
    ∃ F' ρ' H', Inv X pins σ H' { s with heap := h', toks := tk } ∧ Ext F ρ F' ρ' ∧ SR ((tb X n).at pr) F' ρ' H' (h ++ [.dict kvs]) ∧ Rep X.K F' ρ' (.ref h.length) (.ref a) := by
  obtain ⟨xs, d1, d2, d3⟩ := KRel.back (w := X.w) kr
  obtain ⟨o, es, ep, g1, g2, g3, g4, g5, g6, g7⟩ := hd
  have hn : H a = none := I.hok.fresh ha
  have hs : (a == sysModules) = false := beq_eq_false_iff_ne.mpr (Nat.ne_of_gt (Nat.lt_of_lt_of_le I.big ha))
  have hl : xs.length ≤ sizeLine := by
    have := congrArg List.length d3
    rw [List.length_map, List.length_map] at this
    rw [this, ← kr.length]; exact hz
  obtain ⟨s2, ex, e⟩ := S.push (u := DictO X.w a xs) (o := .dict kvs) hn fun F' ρ' x => ⟨xs, upd_same .., hs, d1.mono x, by rw [d3]; exact g6, hl⟩
  exact ⟨_, _, _, I.laid kp ha (dictO_ok g1 g2 g3 (by have := congrArg List.length d3; rw [List.length_map, List.length_map] at this; omega) (by rw [g4]; exact d2)), ex, s2, .ref e⟩
end
end MI

/-! MI, part N: what dicts do; sorted; in. -/
namespace MI
open PySem PySem.Spec L2

def boxD (h : MH) (m : Nat) : Option DK := match h[m]? with
  | some (.dict xs) => some xs
  | _ => none
theorem boxD_at {h : MH} {m : Nat} {xs : DK} (q : boxD h m = some xs) : h[m]? = some (.dict xs) := by
  unfold boxD at q
  split at q
  · rename_i ys hy; cases q; exact hy
  · cases q
section
variable {L : Md → Prop} {n : Nm} {k : Nat} {W : WX} {ow : Str → Bool} {N : List Str} {sc : Scope} {X : Cx} {pos : Pos}

/-! ### d[k], xs[i] -/
def ixA : Op2 := fun h x y => match x with
  | .ref m => match boxD h m with
    | some kvs => if y.keyOk = true then getD kvs y else none
    | none => ixO h x y
  | x => ixO h x y
theorem ixA_ok (hu : X.A.units + 64 < cLine) : IxR X (rO (tb X n) ixA) := by
  rintro value slice pins s σ H x y v u Q I rx ry ⟨pr, F, ρ, h0, dx, dy, d, S, r1, r2, e, kk⟩ hsub
  have other : ixO h0 dx dy = some d → wpAny (model X.prog X.w) X.A (PyProof.Rows.subscriptTail value slice v u) (EP X pins σ Q) X.xe s := fun e => ix_ok value slice pins s σ H x y v u Q I rx ry ⟨pr, F, ρ, h0, dx, dy, d, S, r1, r2, e, kk⟩ hsub
  cases r1 with
  | @ref m a h1 =>
    unfold ixA at e
    dsimp only at e
    cases e1 : boxD h0 m with
    | none => rw [e1] at e; exact other e
    | some kvs =>
      rw [e1] at e
      dsimp only at e
      split at e
      · rename_i hk
        obtain ⟨kk1, hk1, hk2⟩ := D.keyOk_iff.mp hk
        obtain ⟨ys, kr, dn, hs, hz, xs, hH⟩ := dict_at I S h1 (boxD_at e1)
        rcases kr.look hk1 with ⟨q, _⟩ | ⟨e2, uu, ev, q1, q2, q3, q4⟩
        · rw [q] at e; cases e
        · rw [q1] at e; cases e
          obtain rfl : v = .ref a := rx
          refine PyProof.Rows.tail_any dn.typeIs slot_dict_getitem.lookup ?_ hsub
          unfold getItem
          try with_reducible refine wpAny_holding ?_
          refine wpAny_bind (wpAny_sequenceKey dn.typeIs (by decide) ?_)
          refine wpAny_bind (wpAny_callSpecial?_slot (name := Str.ofString "__getitem__") dn.typeIs slot_dict_getitem (wpAny_call_entry slot_dict_getitem dn.typeIs entry_dict_getitem ?_ (args_dict_getitem _ _)))
          show wpAny _ _ (dictGet a u >>= _) _ _ s
          refine wpAny_bind (get_key (A := X.A.in1) (by show X.A.units + 1 + 8 < _; omega) (rep_nested I S.le r2 ry hk1) hk2 dn ?_)
          rw [q2]
          exact wpAny_pure ⟨ev, rfl, wpAny_pure ⟨uu, H, I.tok _, q4, kk F ρ H uu (Ext.refl _ _) S q3⟩⟩
      · cases e
  | _ => exact other e
theorem se_ixA (c : Cc L n k W ow N sc X) {a b : Expr} {f g : Ev} (ha : SE X n W a f) (hb : SE X n W b g) (hs : PlainIx b) : SE X n W (.Subscript a b pos) (eBin ixA f g) := PE_imp (pe_ix (ixA_ok c.room.units) ha hb hs) fun _ _ _ q => tM_op2 q

/-! ### d[k] = v -/
def setAF (o i v : D) (h : MH) : Option MH := match o with
  | .ref m => match boxD h m with
    | some kvs => if (i.keyOk && decide (kvs.length < lim)) = true then some (h.set m (.dict (setD kvs i v))) else none
    | none => setLF o i v h
  | _ => none
theorem DictN.of_put {w : World} {h : Heap} {d : Addr} {ys : KVs Value} (m : DictN w h d ys) : True := trivial
theorem setA_ok (hu : X.A.units + 64 < cLine) : PSet X (rSetM (tb X n) setAF) := by
  rintro pins s σ H o i v ov iv u Q I ro ri rv ⟨pr, F, ρ, h, x, y, z, h', S, r1, r2, r3, e, kk⟩
  cases r1 with
  | @ref m a h1 =>
    unfold setAF at e
    dsimp only at e
    cases e1 : boxD h m with
    | none => rw [e1] at e; exact setL_ok pins s σ H _ i v ov iv u Q I ro ri rv ⟨pr, F, ρ, h, _, y, z, h', S, .ref h1, r2, r3, e, kk⟩
    | some kvs =>
      rw [e1] at e
      dsimp only at e
      split at e
      · rename_i hc
        rw [Bool.and_eq_true, decide_eq_true_eq] at hc
        cases e
        obtain ⟨k1, hk1, hk2⟩ := D.keyOk_iff.mp hc.1
        obtain ⟨ys, kr, dn, hs, hz, xs, hH⟩ := dict_at I S h1 (boxD_at e1)
        obtain rfl : ov = .ref a := ro
        unfold setItem
        try with_reducible refine wpAny_holding ?_
        refine wpAny_bind (wpAny_sequenceKey dn.typeIs (by decide) ?_)
        refine wpAny_bind (wpAny_callSpecial?_slot (name := Str.ofString "__setitem__") dn.typeIs slot_dict_setitem (wpAny_call_entry slot_dict_setitem dn.typeIs entry_dict_setitem ?_ (args_dict_setitem _ _ _)))
        show wpAny _ _ (Builtin.Dict.notOrdered "__setitem__" ⟨[.ref a, iv, u], []⟩ >>= _) _ _ s
        refine wpAny_bind (wpAny_notOrdered_dict dn.typeIs ?_)
        show wpAny _ _ (dictSet a iv u >>= _) _ _ s
        refine wpAny_bind (set_key (A := X.A.in1) (by show X.A.units + 1 + 8 < _; omega) (rep_nested I S.le r2 ri hk1) hk2 dn (fun h'' dn' sb => ?_) hz)
        have kr' := kr.put hk1 hk2 r2 ri r3 rv
        obtain ⟨xs', fin⟩ := dict_put I S h1 hH hs kr' dn' sb (by have := setD_len kvs y z; have := lim_ok (Nat.le_refl lim); omega)
        obtain ⟨I', S'⟩ := fin (s.toks + k1.draws)
        exact wpAny_pure ⟨.none, rfl, wpAny_pure ⟨_, I', kk F ρ _ (Ext.refl _ _) S'⟩⟩
      · cases e
  | _ => exact absurd e (by unfold setAF; simp)

/-! ### {} -/
def eDict0 : Ev := fun _ h => .ok (.ref h.length) (h ++ [.dict []])
theorem se_dict0 : SE X n W (.Dict [] [] pos) eDict0 := by
  refine ⟨fun pins s τ H Q I q => ?_⟩
  obtain ⟨pr, F, ρ, h, σ, S, l, p⟩ := q
  refine wpAny_Dict_empty ?_
  obtain ⟨F', ρ', H', I', ex, S', r⟩ := dict_new (a := s.heap.objs.size) (kvs := []) (ys := []) (tk := s.toks) (h' := s.heap.push { cls := .type "dict", data := .dict #[] }) I S (Nat.le_refl _) .nil
    ⟨_, #[], 0, Heap.get?_push_size _ rfl, ⟨rfl, rfl, rfl⟩, rfl, rfl, (fun _ z => nomatch z), List.nodup_nil, rfl⟩ (fun b o e => Heap.get?_push_of_some _ e) (Nat.zero_le _)
  exact ⟨.ref s.heap.objs.size, H', I', rfl, p F' ρ' H' _ ex S' r⟩
end
end MI

/-! MI, part O: sorted, dict(..), in. -/
namespace MI
open PySem PySem.Spec L2
open PySem.W (EachIs AllAlike Sortable dataLe dataKind SortsAt sortVals alike sortingHeap)

/-! ### sorted(x), whatever x collects to -/
section
variable {prog : Program} {w : World} {A : Around} {E : Value → Shared → Prop} {s : Shared} {β : Type} {vs : List Value} {bs : List β} {enc : β → PyData} {R : Value → β → Prop}
theorem sorted_any {x : Value} {Q : Value → Shared → Prop} (hcol : ∀ (R' : List Value → Shared → Prop) (E' : Value → Shared → Prop), (∀ h' tk, (∀ b o, s.heap.get? b = some o → h'.get? b = some o) → R' vs { s with heap := h', toks := tk }) → wpAny (model prog w) A.in1 (collect x) R' E' s)
    (e : EachIs R vs bs) (er : EachIs (fun v b => ∃ as, Reads s.heap v (enc b) as) vs bs) (hal : AllAlike (bs.map enc)) (hk : Sortable (bs.map enc)) (hL : bs.length ≤ sizeLine) (hu : ∀ b, b ∈ bs → A.units + 2 + (enc b).depth < cLine)
    (h : ∀ (h1 h' : Heap) (tk : Nat) (out : List Value) (c : Nat), (∀ b o, s.heap.get? b = some o → h1.get? b = some o) → (∀ b o, h1.get? b = some o → h'.get? b = some o) → h'.get? h1.objs.size = some { cls := .type "list", data := .seq (List.toArray out) c } → EachIs R out (bs.mergeSort (dataLe false enc)) → Q (.ref h1.objs.size) { s with heap := h', toks := tk }) :
    wpAny (model prog w) A (call (.builtin "sorted") [x]) Q E s := by
  refine Calls.call_function_entry PyProof.Rows.kind_sorted PyProof.Rows.plain_sorted PyProof.Rows.entry_sorted (PyProof.Rows.args_sorted1 _) ?_
  unfold Builtin.«sorted»
  refine wpAny_bind (m := checkCount "sorted" 1 1 _) (wpAny_pure ?_)
  refine wpAny_bind (hcol _ _ fun h1 tk hk1 => ?_)
  have hlen : vs.length ≤ sizeLine := by rw [e.length]; exact hL
  refine wpAny_bind (wpAny_newList ?_ hlen)
  have ho : (h1.push (PyProof.Rows.seqObj "list" vs.toArray 0)).get? h1.objs.size = some (PyProof.Rows.seqObj "list" vs.toArray 0) := Heap.get?_push_size _ rfl
  show wpAny _ _ _ _ _ { s with heap := h1.push (PyProof.Rows.seqObj "list" vs.toArray 0), toks := tk }
  have keep1 : ∀ b o, s.heap.get? b = some o → (h1.push (PyProof.Rows.seqObj "list" vs.toArray 0)).get? b = some o := fun b o q => Heap.get?_push_of_some _ (hk1 b o q)
  have keepS : ∀ b o, s.heap.get? b = some o → (sortingHeap (h1.push (PyProof.Rows.seqObj "list" vs.toArray 0)) h1.objs.size vs).get? b = some o := fun b o q => PySem.W.sortingHeap_old (Nat.ne_of_lt (Heap.lt_size (hk1 b o q))) (keep1 b o q)
  have er' : EachIs (fun v b => ∃ as, Reads (sortingHeap (h1.push (PyProof.Rows.seqObj "list" vs.toArray 0)) h1.objs.size vs) v (enc b) as) vs bs := er.mono fun _ _ ⟨as, r⟩ => ⟨as, PyProof.Rows.Reads.keeps keepS r⟩
  have S := SortsAt.data (prog := prog) (w := w) (A := A.in1.in1) (s := { s with heap := sortingHeap (h1.push (PyProof.Rows.seqObj "list" vs.toArray 0)) h1.objs.size vs, toks := tk }) (vs := vs) (ds := bs.map enc)
    (PySem.W.each_map (R := fun v d => ∃ as, Reads (sortingHeap (h1.push (PyProof.Rows.seqObj "list" vs.toArray 0)) h1.objs.size vs) v d as) enc er') hal hk (PySem.W.bound_map (A := A.in1.in1) fun b hb => by have := hu b hb; show A.units + 1 + 1 + _ < _; omega)
  refine wpAny_bind (wpAny_holding (wpAny_call_entry PyProof.Rows.slot_list_sort ⟨_, ho, rfl⟩ PyProof.Rows.entry_list_sort
    (PySem.W.list_sort_vals (s := { s with heap := h1.push (PyProof.Rows.seqObj "list" vs.toArray 0), toks := tk }) ho S hlen ⟨.none, rfl, ?_⟩) (PyProof.Rows.args_list_sort _)))
  obtain ⟨ep, hat⟩ := PyProof.Rows.sortedHeap_at (vs := vs) (out := (sortVals (dataKind (sortingHeap (h1.push (PyProof.Rows.seqObj "list" vs.toArray 0)) h1.objs.size vs) (bs.map enc)) false vs vs).toArray) ho
  refine wpAny_pure ⟨_, rfl, h h1 _ tk _ ep hk1 (fun b o q => ?_) hat (PySem.W.sortVals_data false e er' hal)⟩
  have hb := Heap.lt_size q
  rw [PyProof.Rows.sortedHeap_old (Nat.ne_of_lt hb) (by rw [PyProof.Rows.size_push']; exact Nat.lt_succ_of_lt hb)]
  exact Heap.get?_push_of_some _ q
end

/-! ### sorted of lists, tuples, dicts -/
def sortItems (h : MH) : D → Option (List D)
  | .ref m => match h[m]? with
    | some (.lst xs) => some xs
    | some (.dict kvs) => some (kvs.map (·.1))
    | _ => none
  | d => (itemsOf h d).map (·.xs)
def encD (h : MH) (d : D) : PyData := (toPy h d).getD .none
def alikeB (ds : List PyData) : Bool := ds.all fun a => ds.all fun b => alike a b
def isTupP : PyData → Bool
  | .tuple (_ :: _) => true
  | _ => false
def isOthP : PyData → Bool
  | .none => false
  | .tuple _ => false
  | _ => true
def sortableB (ds : List PyData) : Bool := ds.all isTupP || ds.all isOthP
def sortOk (h : MH) (xs : List D) : Bool := xs.all (fun d => (toPy h d).isSome) && alikeB (xs.map (encD h)) && sortableB (xs.map (encD h)) && decide (xs.length ≤ lim) && (xs.all fun d => decide ((encD h d).depth ≤ 8))
def sortD (h : MH) (xs : List D) : List D := xs.mergeSort (dataLe false (encD h))
def sortedF (b : Bool) : Fn := fun ds h => match ds with
  | [d] => match sortItems h d with
    | some xs => if sortOk h xs = true then mkL b (sortD h xs) h else .bad
    | none => .bad
  | _ => .bad
theorem sorted_noexc {b : Bool} : NoExc (sortedF b) := fun ds h x h' e => by
  unfold sortedF at e
  repeat' split at e
  all_goals first
    | cases e
    | exact mkL_noexc e
theorem alikeB_ok {ds : List PyData} (h : alikeB ds = true) : AllAlike ds := fun d hd d' hd' => by
  unfold alikeB at h
  exact List.all_eq_true.mp (List.all_eq_true.mp h d hd) d' hd'
theorem sortableB_ok {ds : List PyData} (h : sortableB ds = true) : Sortable ds := by
  unfold sortableB at h
  rw [Bool.or_eq_true] at h
  rcases h with h | h
  · refine .inl fun d hd => ?_
    have := List.all_eq_true.mp h d hd
    unfold isTupP at this
    split at this
    · exact ⟨_, _, rfl⟩
    · cases this
  · refine .inr fun d hd => ?_
    have := List.all_eq_true.mp h d hd
    unfold isOthP at this
    constructor
    · rintro rfl; cases this
    · rintro xs rfl; cases this
section
variable {L : Md → Prop} {n : Nm} {k : Nat} {W : WX} {ow : Str → Bool} {N : List Str} {sc : Scope} {X : Cx} {pos : Pos}
variable {pins : List (Addr × Obj)} {σ : St} {H : Hp} {s : Shared} {pr : Addr → Option HO} {F : Hp} {ρ : List Addr} {h : MH}
theorem dpAll_of (S : SR ((tb X n).at pr) F ρ H h) : ∀ {xs : List D} {vs : List V}, Reps X.K F ρ xs vs → xs.all (fun d => (toPy h d).isSome) = true → DpAll X.K H vs (xs.map (encD h))
  | _, _, .nil, _ => .nil
  | _, _, .cons (d := d) h1 h2, e => by
    rw [List.all_cons, Bool.and_eq_true] at e
    obtain ⟨p, hp⟩ := Option.isSome_iff_exists.mp e.1
    refine .cons ?_ (dpAll_of S h2 e.2)
    unfold encD
    rw [hp]
    exact toPy_dp S h1 hp
/-- the values stand for the data -/
def Stands (K : PySem.W.Frag) (F : Hp) (ρ : List Addr) (u : Value) (d : D) : Prop := ∃ v, RelV v u ∧ Rep K F ρ d v
theorem stands_of {K : PySem.W.Frag} : ∀ {xs : List D} {vs : List V} {us : List Value}, Reps K F ρ xs vs → Vals vs us → EachIs (Stands K F ρ) us xs
  | _, _, _, .nil, r => by cases r; exact .nil
  | _, _, _, .cons h1 h2, r => by
    cases r with
    | cons r1 r2 => exact .cons ⟨_, r1, h1⟩ (stands_of h2 r2)
theorem of_stands {K : PySem.W.Frag} : ∀ {xs : List D} {us : List Value}, EachIs (Stands K F ρ) us xs → ∃ vs, Reps K F ρ xs vs ∧ Vals vs us
  | _, _, .nil => ⟨[], .nil, .nil⟩
  | _, _, .cons ⟨v, r1, h1⟩ t => by
    obtain ⟨vs, a, b⟩ := of_stands t
    exact ⟨v :: vs, .cons h1 a, .cons r1 b⟩
theorem sorted_core (hu : X.A.units + 64 < cLine) (I : Inv X pins σ H s) (S : SR ((tb X n).at pr) F ρ H h) {x : Value} {xs : List D} {vs : List V} {us : List Value} {b : Bool} {Q : VK} (rs : Reps X.K F ρ xs vs) (rv : Vals vs us) (hs : sortOk h xs = true)
    (hcol : ∀ (R' : List Value → Shared → Prop) (E' : Value → Shared → Prop), (∀ h' tk, (∀ b o, s.heap.get? b = some o → h'.get? b = some o) → R' us { s with heap := h', toks := tk }) → wpAny (model X.prog X.w) X.A.in1 (collect x) R' E' s)
    (p : Post ((tb X n).at pr) F ρ (mkL b (sortD h xs) h) Q fun _ _ _ => False) : wpAny (model X.prog X.w) X.A (call (.builtin "sorted") [x]) (EP X pins σ Q) X.xe s := by
  unfold sortOk at hs
  simp only [Bool.and_eq_true, decide_eq_true_eq] at hs
  obtain ⟨⟨⟨⟨q1, q2⟩, q3⟩, q4⟩, q5⟩ := hs
  obtain ⟨as, ra⟩ := Dp.readsAll I (xs.map (encD h)) vs us (dpAll_of S rs q1) rv
  refine sorted_any (bs := xs) (enc := encD h) (R := Stands X.K F ρ) hcol (stands_of rs rv) (PySem.W.readsAll_each (encD h) ra) (alikeB_ok q2) (sortableB_ok q3) (lim_ok q4) (fun d hd => ?_) fun h1 h' tk out c hk1 hk2 hat he => ?_
  · have := of_decide_eq_true (List.all_eq_true.mp q5 d hd)
    omega
  · obtain ⟨ws, r1, r2⟩ := of_stands he
    have I1 : Inv X pins σ H { s with heap := h1, toks := tk } := I.kept hk1
    have ll : ws.length ≤ sizeLine := by
      rw [← r1.length, List.length_mergeSort]; exact lim_ok q4
    exact ⟨.ref h1.objs.size, _, I1.laid (s := { s with heap := h1, toks := tk }) (o := .lst ws) hk2 (Nat.le_refl _) (show ObjOk X.prog X.w _ h' _ (.lst ws) from ⟨ll, out, c, r2, hat⟩), rfl, mkL_new p S r1 (I1.hok.fresh (Nat.le_refl _))⟩
theorem sorted_ok (hc : X.calm = true) (hu : X.A.units + 64 < cLine) (b : Bool) : CallR X (.builtin "sorted") (rF (tb X n) (sortedF b)) := by
  rintro pins s σ H vs us Q I r ⟨pr, F, ρ, h, ds, S, rs, p⟩
  match ds, rs with
  | [], .nil => exact p.elim
  | _ :: _ :: _, .cons _ (.cons _ _) => exact p.elim
  | [d], .cons (v := v) r1 .nil =>
    obtain ⟨u, rfl, ru⟩ := vals1 r
    have seqs : ∀ it, itemsOf h d = some it → sortItems h d = some it.xs → wpAny (model X.prog X.w) X.A (call (.builtin "sorted") [u]) (EP X pins σ Q) X.xe s := fun it e1 e2 => by
      unfold sortedF at p
      dsimp only at p
      rw [e2] at p
      dsimp only at p
      split at p
      · rename_i hs
        obtain ⟨a, t, rfl, ⟨ws, lt, rw'⟩, _⟩ := items_at S r1 e1
        obtain rfl : u = .ref a := ru
        cases t with
        | true =>
          obtain ⟨its, rv, ⟨o, g1, g2, m, g3⟩, hz⟩ := I.tuple lt
          exact sorted_core hu I S rw' rv hs (fun R' E' k => wpAny_collect_seq a (.inr rfl) g1 g2 g3 (fun h' hk => by simpa using k h' s.toks hk) (by have := rv.length; simp; omega)) p
        | false =>
          obtain ⟨its, rv, pl, hz⟩ := I.list lt
          obtain ⟨o, g1, g2, m, g3⟩ := pl.isList
          exact sorted_core hu I S rw' rv hs (fun R' E' k => wpAny_collect_seq a (.inl rfl) g1 g2 g3 (fun h' hk => by simpa using k h' s.toks hk) (by have := rv.length; simp; omega)) p
      · exact p.elim
    have nos : itemsOf h d = none → sortItems h d = (itemsOf h d).map (·.xs) → False := fun e1 e2 => by
      unfold sortedF at p
      dsimp only at p
      rw [e2, e1] at p
      exact p
    cases r1 with
    | tup h1 h2 => exact seqs _ rfl rfl
    | lst h1 h2 => exact seqs _ rfl rfl
    | scr h1 => exact seqs _ rfl rfl
    | non => exact (nos rfl rfl).elim
    | bl _ => exact (nos rfl rfl).elim
    | int _ => exact (nos rfl rfl).elim
    | str _ => exact (nos rfl rfl).elim
    | @ref m a h1 =>
      obtain rfl : u = .ref a := ru
      unfold sortedF at p
      dsimp only at p
      cases e0 : h[m]? with
      | none => unfold sortItems at p; dsimp only at p; rw [e0] at p; exact p.elim
      | some o =>
        cases o with
        | lst xs => exact seqs ⟨xs, boxChk m xs⟩ (by unfold itemsOf; dsimp only; rw [e0]) (by unfold sortItems; dsimp only; rw [e0])
        | inst c fs => unfold sortItems at p; dsimp only at p; rw [e0] at p; exact p.elim
        | exc c fs => unfold sortItems at p; dsimp only at p; rw [e0] at p; exact p.elim
        | dict kvs =>
          unfold sortItems at p
          dsimp only at p
          rw [e0] at p
          dsimp only at p
          split at p
          · rename_i hs
            obtain ⟨ys, kr, ⟨o, es, ep, g1, g2, g3, g4, g5, g6⟩, lo, hz, _⟩ := dict_at I S h1 e0
            have hes : es.size = ys.length := by rw [← Array.length_toList, g4, List.length_map]
            have keys : ∃ ws, Reps X.K F ρ (kvs.map (·.1)) ws ∧ Vals ws (ys.map (·.2.1)) := by
              have aux : ∀ {ds : DK} {ys : KVs Value}, KRel X.K F ρ ds ys → ∃ ws, Reps X.K F ρ (ds.map (·.1)) ws ∧ Vals ws (ys.map (·.2.1)) := by
                intro ds ys kr
                induction kr with
                | nil => exact ⟨[], .nil, .nil⟩
                | cons a b c d e f g ih =>
                  obtain ⟨ws, i1, i2⟩ := ih
                  exact ⟨_, .cons c i1, .cons d i2⟩
              exact aux kr
            obtain ⟨ws, w1, w2⟩ := keys
            refine sorted_core hu I S w1 w2 hs (fun R' E' kk => PySem.W.kdu_collect (A := X.A.in1) (kdl_raw lo g2 g3) (I.ok.hd hc) g1 (by rw [hes]; exact hz) fun h' tk acc hk hacc => ?_) p
            have : acc.toList = ys.map (·.2.1) := by
              refine List.ext_getElem? fun j => ?_
              by_cases hj : j < acc.size
              · have e1 : acc[j]? = some acc[j] := Array.getElem?_eq_getElem hj
                obtain ⟨en, e2, e3⟩ := hacc.2 j _ e1
                rw [← Array.getElem?_toList, g4, List.getElem?_map, Option.map_eq_some_iff] at e2
                obtain ⟨y, e4, rfl⟩ := e2
                rw [Array.getElem?_toList, e1, e3, List.getElem?_map, e4]
                rfl
              · rw [List.getElem?_eq_none (by simpa using hj), List.getElem?_eq_none (by rw [List.length_map, ← hes, ← hacc.1]; omega)]
            rw [this]
            exact kk h' tk hk
          · exact p.elim
end
end MI

/-! MI, part P: dict(pairs); in. -/
namespace MI
open PySem PySem.Spec L2

/-! ### dict(xs), xs a list of pairs -/
def foldN (acc : KVs Value) (rest : KVs Value) : KVs Value := rest.foldl (fun acc q => putN acc q.1 q.2.1 q.2.2) acc
section
variable {prog : Program} {w : World} {A : Around} {E : Value → Shared → Prop}
theorem putN_len (acc : KVs Value) (k : NestedKey) (a b : Value) : (putN acc k a b).length ≤ acc.length + 1 := by
  unfold putN
  split <;> simp
theorem nested_turn {h h' : Heap} {I l : Addr} {i : Nat} {k : NestedKey} {v : Value} (hit : h.IsListIter I l i) (kp : ∀ b o, b ≠ I → h.get? b = some o → h'.get? b = some o) (r : NestedIs h k v) : NestedIs h' k v :=
  NestedIs.at (fun a o vs n e c => kp a o (fun z => by
    subst z
    obtain ⟨oi, e1, _, e2⟩ := hit
    rw [e] at e1; cases e1
    rw [c] at e2; cases e2) e) _ _ r
theorem dict_loopN {R : Result → Shared → Prop} {S I l : Addr} {items : Array Value} {res : Value} (hh : A.handled = none) (hlI : l ≠ I) (hSI : S ≠ I) (hSl : S ≠ l) (hu : A.units + 16 < cLine) :
    ∀ (rest : KVs Value) (i : Nat) (acc : KVs Value) (ix : Int) (t : Tok) (s : Shared), items.size = i + rest.length → acc.length + rest.length ≤ sizeLine →
      (∀ (j : Nat) (q : NestedKey × Value × Value), rest[j]? = some q → ∃ b : Addr, items[i + j]? = some (.ref b) ∧ b ≠ S ∧ b ≠ I ∧ PyProof.Rows.IsTup s.heap b #[q.2.1, q.2.2] ∧ NestedIs s.heap q.1 q.2.1 ∧ q.1.depth ≤ 8) →
      s.heap.IsListIter I l i → s.heap.IsList l items → DictN w s.heap S acc →
      (∀ h' tk, DictN w h' S (foldN acc rest) → (∀ b o, b ≠ S → b ≠ I → s.heap.get? b = some o → h'.get? b = some o) → R (.ok (.ret res)) { s with heap := h', toks := tk }) →
      codeAny (model prog w) A (.builtin "dict.update.loop" ⟨[.ref S, .ref I, .int ix t, res], []⟩) R s
  | [], i, acc, ix, t, s, hsz, hln, ht, hit, hl, hm, hR => by
    refine codeAny_builtin ud_entry ?_
    rw [Around.under_plainId ud_plain _]
    show wpAny _ A.in1 (pyNext (.ref I) >>= _) _ _ s
    refine wpAny_bind (wpAny_pyNext_list_end (A := A.in1) hh hit hl (Array.getElem?_eq_none (Nat.le_of_eq hsz)) fun h' he => ?_)
    show wpAny _ A.in1 (Builtin.Dict.addKeywords S [] >>= _) _ _ _
    refine wpAny_bind (wpAny_pure (wpAny_pure ?_))
    have hm' : DictN w h' S acc := by
      obtain ⟨o, es, ep, g1, g2, g3, g4, g5, g6⟩ := hm
      exact ⟨o, es, ep, he S o hSI g1, g2, g3, g4, fun y hy => ⟨nested_turn hit (fun b o hb q => he b o hb q) (g5 y hy).1, (g5 y hy).2⟩, g6⟩
    exact hR h' s.toks hm' fun b o _ hb e => he b o hb e
  | q :: rest, i, acc, ix, t, s, hsz, hln, ht, hit, hl, hm, hR => by
    obtain ⟨b, hb, hbS, hbI, htup, hk, hdp⟩ := ht 0 q rfl
    rw [List.length_cons] at hsz hln
    refine codeAny_builtin ud_entry ?_
    rw [Around.under_plainId ud_plain _]
    show wpAny _ A.in1 (pyNext (.ref I) >>= _) _ _ s
    refine wpAny_bind (wpAny_pyNext_list_item (x := .ref b) hit hl (by simpa using hb) fun h1 hit1 hs1 => ?_)
    have k1 : ∀ c o, c ≠ I → s.heap.get? c = some o → h1.get? c = some o := fun c o hc e => (hs1.2 c hc).trans e
    have ht1 : PyProof.Rows.IsTup h1 b #[q.2.1, q.2.2] := htup.extBut hs1.extBut hbI
    have hl1 : h1.IsList l items := hl.extBut hs1.extBut hlI
    have hm1 : DictN w h1 S acc := by
      obtain ⟨o, es, ep, g1, g2, g3, g4, g5, g6⟩ := hm
      exact ⟨o, es, ep, k1 S o hSI g1, g2, g3, g4, fun y hy => ⟨nested_turn hit k1 (g5 y hy).1, (g5 y hy).2⟩, g6⟩
    obtain ⟨o, ho, hc, n, hd⟩ := id ht1
    show wpAny _ A.in1 (holding [Value.ref b] _ >>= _) _ _ _
    refine wpAny_bind (wpAny_holding ?_)
    refine wpAny_bind (wpAny_tryCatch ?_)
    unfold Builtin.Dict.pairItems
    refine wpAny_bind (wpAny_typeOf (T := "tuple") ⟨o, ho, hc⟩ ?_)
    rw [if_pos (by decide)]
    refine wpAny_bind (wpAny_seqItems ho hd (wpAny_pure ?_))
    show wpAny _ A.in1 (holding [q.2.1, q.2.2] (dictSet S q.2.1 q.2.2)) _ _ _
    refine wpAny_holding (set_key (s := { s with heap := h1 }) (A := A.in1) (by show A.units + 1 + 8 < _; omega) (nested_turn hit k1 hk) hdp hm1 (fun h2 hm2 hs2 => ?_) (by omega))
    obtain ⟨oS, esS, epS, gS1, gS2, gS3, _⟩ := id hm1
    have k2 : ∀ c oc, c ≠ S → h1.get? c = some oc → h2.get? c = some oc := fun c oc hc e => (hs2.2 c hc).trans e
    refine wpAny_pure ⟨plainId_quiet ud_plain _, dict_loopN (items := items) hh hlI hSI hSl hu rest (i + 1) (putN acc q.1 q.2.1 q.2.2) (ix + 1) 0 _ (show items.size = i + 1 + rest.length by omega) ?_ (fun j q' e => ?_) ?_ ?_ hm2 fun h' tk hd' kk => ?_⟩
    · have z := putN_len acc q.1 q.2.1 q.2.2
      omega
    · obtain ⟨b', hb', hbS', hbI', htup', hk', hdp'⟩ := ht (j + 1) q' (by simpa using e)
      refine ⟨b', ?_, hbS', hbI', (htup'.extBut hs1.extBut hbI').extBut hs2.extBut hbS', ?_, hdp'⟩
      · rw [show i + 1 + j = i + (j + 1) by omega]
        exact hb'
      · exact NestedIs.but gS1 gS3 hs2 (nested_turn hit k1 hk')
    · exact hit1.at fun o' e => k2 I o' (Ne.symm hSI) e
    · exact hl1.extBut hs2.extBut (Ne.symm hSl)
    · exact hR h' tk hd' fun c oc h3 h4 e => kk c oc h3 h4 (k2 c oc h3 (k1 c oc h4 e))
theorem call_dictN {s : Shared} {l : Addr} {ol : Obj} {items : Array Value} {n : Nat} {prs : KVs Value} {Q : Value → Shared → Prop} (hh : A.handled = none) (hu : A.units + 20 < cLine) (hl : s.heap.get? l = some ol) (hc : ol.cls = .type "list") (hd : ol.dict = none)
    (hdat : ol.data = .seq items n) (hsz : items.size = prs.length) (hln : prs.length ≤ sizeLine)
    (ht : ∀ (j : Nat) (q : NestedKey × Value × Value), prs[j]? = some q → ∃ b : Addr, items[j]? = some (.ref b) ∧ PyProof.Rows.IsTup s.heap b #[q.2.1, q.2.2] ∧ NestedIs s.heap q.1 q.2.1 ∧ q.1.depth ≤ 8)
    (h : ∀ h' tk, DictN w h' s.heap.objs.size (foldN [] prs) → (∀ b o, s.heap.get? b = some o → h'.get? b = some o) → Q (.ref s.heap.objs.size) { s with heap := h', toks := tk }) :
    wpAny (model prog w) A (call (.type "dict") [.ref l]) Q E s := by
  refine callType_codes (Q₁ := fun obj s₁ => obj = .ref s.heap.objs.size ∧ s₁ = { s with heap := s.heap.push { cls := .type "dict", data := .dict #[] } }) PySem.F.kt_called_dict (PySem.F.kt_typeCall_dict_1 _) PySem.F.entry_dict_init (kt_code_dict_new _ ⟨rfl, rfl⟩) ?_
  rintro obj s₁ ⟨rfl, rfl⟩
  have hn : (s.heap.push { cls := .type "dict", data := .dict #[] }).get? s.heap.objs.size = some { cls := .type "dict", data := .dict #[] } := Heap.get?_push_size _ rfl
  have hnew : DictN w (s.heap.push { cls := .type "dict", data := .dict #[] }) s.heap.objs.size [] := ⟨_, #[], 0, hn, ⟨rfl, rfl, rfl⟩, rfl, rfl, (fun _ z => nomatch z), List.nodup_nil, rfl⟩
  have k0 : ∀ b o, s.heap.get? b = some o → (s.heap.push { cls := .type "dict", data := .dict #[] }).get? b = some o := fun b o e => Heap.get?_push_of_some _ e
  have ty0 : ({ s with heap := s.heap.push { cls := .type "dict", data := .dict #[] } } : Shared).TypeIs (.ref s.heap.objs.size) "dict" := ⟨_, hn, rfl⟩
  refine ⟨ty0, PySem.F.args_dict_init_2 _ _, ?_⟩
  unfold Builtin.«dict.__init__»
  refine wpAny_bind ?_
  unfold Builtin.Dict.selfAndRest
  refine wpAny_bind (wpAny_notOrdered_dict ty0 ?_)
  show wpAny _ _ (pure (s.heap.objs.size, [Value.ref l])) _ _ _
  refine wpAny_pure ?_
  show wpAny _ _ (Builtin.Dict.updateFrom "dict.__init__" s.heap.objs.size (.ref l) [] .none) _ _ _
  unfold Builtin.Dict.updateFrom
  refine wpAny_bind (wpAny_typeOf (T := "list") ⟨ol, k0 _ _ hl, hc⟩ ?_)
  rw [if_pos (by decide)]
  refine wpAny_bind (miss_list (k0 _ _ hl) hc hdat hd hh fun h1 tk1 hk1 => ?_)
  rw [if_pos (show (none : Option Value).isNone = true from rfl)]
  refine wpAny_bind (wpAny_rule ?_)
  have hl1 : h1.IsList l items := ⟨ol, hk1 _ _ (k0 _ _ hl), hc, n, hdat⟩
  have hS1 : s.heap.objs.size < h1.objs.size := Heap.lt_size (hk1 _ _ hn)
  refine wpAny_bind (wpAny_pyIter_list hl1 ?_)
  have k2 : ∀ b o, h1.get? b = some o → (h1.push { cls := .type "list_iterator", data := .fields #[.ref l, .int 0 0] }).get? b = some o := fun b o e => Heap.get?_push_of_some _ e
  have k3 : ∀ b o, s.heap.get? b = some o → (h1.push { cls := .type "list_iterator", data := .fields #[.ref l, .int 0 0] }).get? b = some o := fun b o e => k2 _ _ (hk1 _ _ (k0 _ _ e))
  have hlt : l < s.heap.objs.size := Heap.lt_size hl
  have key := dict_loopN (prog := prog) (w := w) (A := A.in1) (R := wants (fun r s₂ => r = .none ∧ Q (.ref s.heap.objs.size) s₂) E) (S := s.heap.objs.size) (I := h1.objs.size) (l := l) (items := items) (res := Value.none) hh
    (Nat.ne_of_lt (Nat.lt_trans hlt hS1)) (Nat.ne_of_lt hS1) (Nat.ne_of_gt hlt) (by show A.units + 1 + 16 < _; omega) prs 0 [] 0 0
    { s with heap := h1.push { cls := .type "list_iterator", data := .fields #[.ref l, .int 0 0] }, toks := tk1 } (by rw [hsz, Nat.zero_add]) (by rw [List.length_nil, Nat.zero_add]; exact hln)
    (fun j q e => by
      obtain ⟨b, e1, e2, e3, e4⟩ := ht j q e
      have hb : b < s.heap.objs.size := e2.lt
      exact ⟨b, by rw [Nat.zero_add]; exact e1, Nat.ne_of_lt hb, Nat.ne_of_lt (Nat.lt_trans hb hS1), e2.keeps k3, NestedIs.at (fun a o vs n e _ => k3 a o e) _ _ e3, e4⟩)
    ⟨_, Heap.get?_push_size _ rfl, rfl, rfl⟩ (hl1.at fun o e => k2 _ _ e) ((hnew.stay hk1).stay k2)
    (fun h' tk hd' kk => ⟨rfl, h h' tk hd' fun b o e => kk b o (Nat.ne_of_lt (Heap.lt_size e)) (Nat.ne_of_lt (Nat.lt_trans (Heap.lt_size e) hS1)) (k3 _ _ e)⟩)
  first
    | exact wpAny_pure ⟨plainId_quiet ud_plain _, key⟩
    | exact wpAny_bind (wpAny_pure (wpAny_pure ⟨plainId_quiet ud_plain _, key⟩))
end

def asPairs : List D → Option DK
  | [] => some []
  | .tup [a, b] :: r => if a.keyOk = true then (asPairs r).map ((a, b) :: ·) else none
  | _ :: _ => none
def foldD (acc : DK) (ps : DK) : DK := ps.foldl (fun acc q => setD acc q.1 q.2) acc
def dictG (t : Bool) (xs : List D) (h : MH) : Res D := match t, asPairs xs with
  | false, some ps => if ps.length ≤ lim then .ok (.ref h.length) (h ++ [.dict (foldD [] ps)]) else .bad
  | _, _ => .bad
theorem dict_noexc : NoExc (seqF dictG) := seq_noexc fun b xs h x h' e => by
  unfold dictG at e
  repeat' split at e
  all_goals cases e
section
variable {L : Md → Prop} {n : Nm} {k : Nat} {W : WX} {ow : Str → Bool} {N : List Str} {sc : Scope} {X : Cx} {pos : Pos}
theorem foldD_len : ∀ (ps acc : DK), (foldD acc ps).length ≤ acc.length + ps.length
  | [], acc => Nat.le_refl _
  | q :: r, acc => by
    have h1 := foldD_len r (setD acc q.1 q.2)
    have h2 := setD_len acc q.1 q.2
    show (foldD (setD acc q.1 q.2) r).length ≤ _
    rw [List.length_cons]; omega
theorem KRel.fold {K : PySem.W.Frag} {F : Hp} {ρ : List Addr} : ∀ {ps : DK} {zs : KVs Value} {acc : DK} {ys : KVs Value}, KRel K F ρ ps zs → KRel K F ρ acc ys → KRel K F ρ (foldD acc ps) (foldN ys zs)
  | _, _, _, _, .nil, q => q
  | _, _, acc, ys, .cons (d := d0) (e := e0) (k := k0) (kv := kv) (ev := ev) (ds := ds) (ys := zs) a b c d e f g, q => (KRel.fold g (q.put a b c d e f) : KRel K F ρ (foldD (setD acc d0 e0) ds) (foldN (putN ys k0 kv ev) zs))
theorem pairs_kr {pins : List (Addr × Obj)} {σ : St} {H : Hp} {s : Shared} {F : Hp} {ρ : List Addr} (I : Inv X pins σ H s) (S : Le F H) : ∀ {xs : List D} {ps : DK} {vs : List V} {us : List Value}, asPairs xs = some ps → Reps X.K F ρ xs vs → Vals vs us →
    ∃ zs : KVs Value, KRel X.K F ρ ps zs ∧ us.length = zs.length ∧ ∀ (j : Nat) (q : NestedKey × Value × Value), zs[j]? = some q → ∃ b : Addr, us[j]? = some (.ref b) ∧ PyProof.Rows.IsTup s.heap b #[q.2.1, q.2.2] ∧ NestedIs s.heap q.1 q.2.1 ∧ q.1.depth ≤ 8
  | [], _, _, _, e, .nil, r => by cases e; cases r; exact ⟨[], .nil, rfl, fun j q z => by simp at z⟩
  | x :: xs, ps, _, _, e, .cons h1 h2, r => by
    unfold asPairs at e
    split at e
    · rename_i z
      cases z
    · rename_i a b r' z
      cases z
      split at e
      · rename_i hk
        rw [Option.map_eq_some_iff] at e
        obtain ⟨ps', e1, rfl⟩ := e
        cases r with
        | cons r1 r2 =>
          obtain ⟨zs, g1, g2, g3⟩ := pairs_kr I S e1 h2 r2
          obtain ⟨k1, hk1, hk2⟩ := D.keyOk_iff.mp hk
          cases h1 with
          | tup t1 t2 =>
            obtain ⟨its, rv, it, _⟩ := I.tuple (sqT_le S t1)
            obtain ⟨v1, ws, rfl, w1, w2⟩ := t2.inv_cons
            obtain ⟨v2, ws2, rfl, w3, w4⟩ := w2.inv_cons
            cases w4
            obtain ⟨u1, u2, rfl, q1, q2⟩ := vals2 rv
            cases r1
            refine ⟨(k1, u1, u2) :: zs, .cons hk1 hk2 w1 q1 w3 q2 g1, by rw [List.length_cons, List.length_cons, g2], fun j q z => ?_⟩
            cases j with
            | zero =>
              simp at z; subst z
              exact ⟨_, rfl, it, rep_nested I S w1 q1 hk1, hk2⟩
            | succ j =>
              obtain ⟨b', f1, f2⟩ := g3 j q (by simpa using z)
              exact ⟨b', by simpa using f1, f2⟩
      · cases e
    · cases e
theorem dict_ok (hc : X.calm = true) (hu : X.A.units + 64 < cLine) : CallR X (.type "dict") (rF (tb X n) (seqF dictG)) := seq_ok fun pins s σ H pr F ρ h a b xs ws Q I S lt rs _ p => by
  unfold dictG at p
  split at p
  · rename_i ps e _
    split at p
    · rename_i hl
      obtain ⟨its, rv, ⟨o, m, g1, g2, g3, g4⟩, hz⟩ := I.list (show SqL X.K H a ws from lt)
      obtain ⟨zs, k1, k2, k3⟩ := pairs_kr I S.le e rs rv
      refine call_dictN (I.ok.hd hc) (by omega) g1 g2 g3 g4 (by simpa using k2) (by rw [← k1.length]; exact lim_ok hl) (fun j q z => by
        obtain ⟨b', f1, f2⟩ := k3 j q z
        exact ⟨b', by simpa using f1, f2⟩) fun h' tk hd' kk => ?_
      obtain ⟨F', ρ', H', I', ex, S', r⟩ := dict_new (tk := tk) I S (Nat.le_refl _) (k1.fold .nil) hd' kk (by
        have := foldD_len ps []
        have h2 := lim_ok hl
        rw [List.length_nil] at this
        omega)
      exact ⟨.ref s.heap.objs.size, H', I', rfl, p F' ρ' H' _ ex S' r⟩
    · exact p.elim
  · exact p.elim

/-! ### x in y -/
def inA : Op2 := fun h x y => match y with
  | .ref m => match boxD h m with
    | some kvs => if x.keyOk = true then some (.bl (getD kvs x).isSome) else none
    | none => (isIn h x y).map .bl
  | y => (isIn h x y).map .bl
def notInA : Op2 := fun h x y => match inA h x y with
  | some (.bl b) => some (.bl (!b))
  | _ => none
theorem shaped_parts {ds : List PyData} (h : PyData.canLayAll0 ds = true) : PyData.canLayAll0 ds = true := h
theorem in_core (hu : X.A.units + 70 < cLine) {pins : List (Addr × Obj)} {s : Shared} {σ : St} {H : Hp} {x y : V} {v u : Value} {pr : Addr → Option HO} {F : Hp} {ρ : List Addr} {h : MH} {dx dy : D} {b : Bool} (I : Inv X pins σ H s) (rx : RelV x v) (ry : RelV y u) (S : SR ((tb X n).at pr) F ρ H h) (r1 : Rep X.K F ρ dx x) (r2 : Rep X.K F ρ dy y) (e : inA h dx dy = some (.bl b)) {Q : VK} :
    (Q (.bl b) H → wpAny (model X.prog X.w) X.A (compareOp .In v u) (EP X pins σ Q) X.xe s) ∧ (Q (.bl (!b)) H → wpAny (model X.prog X.w) X.A (compareOp .NotIn v u) (EP X pins σ Q) X.xe s) := by
  have seqs : (isIn h dx dy).map D.bl = some (.bl b) → (Q (.bl b) H → wpAny (model X.prog X.w) X.A (compareOp .In v u) (EP X pins σ Q) X.xe s) ∧ (Q (.bl (!b)) H → wpAny (model X.prog X.w) X.A (compareOp .NotIn v u) (EP X pins σ Q) X.xe s) := by
    intro e
    rw [Option.map_eq_some_iff] at e
    obtain ⟨b', e1, e2⟩ := e
    cases e2
    unfold isIn at e1
    split at e1
    · cases e1
      cases r1
      cases r2
      exact ⟨fun q => op_in_str pins s σ H _ _ v u Q I rx ry ⟨_, _, rfl, rfl, q⟩, fun q => op_notin_str pins s σ H _ _ v u Q I rx ry ⟨_, _, rfl, rfl, q⟩⟩
    · cases e3 : toPy h dx with
      | none => rw [e3] at e1; cases e1
      | some d =>
        rw [e3] at e1
        cases e4 : toPy h dy with
        | none => rw [e4] at e1; cases e1
        | some c =>
          rw [e4] at e1
          have rd := toPy_dp S r1 e3
          have rc := toPy_dp S r2 e4
          obtain ⟨as, rd'⟩ := Dp.reads I d x v rd rx
          obtain ⟨cs, rc'⟩ := Dp.reads I c y u rc ry
          have fin : ∀ {q : Bool}, Q (.bl q) H → EP X pins σ Q (.bool q) s := fun {q} z => ⟨.bl q, H, I, rfl, z⟩
          cases c with
          | list ds =>
            dsimp only at e1
            split at e1
            · rename_i hs
              cases e1
              obtain ⟨s1, s2⟩ := Bool.and_eq_true_iff.mp hs
              have c1 := SeqAt.canLay_of_shaped s1
              have c2 : PyData.canLayAll0 ds = true := by simpa [PyData.canLay0] using SeqAt.canLay_of_shaped s2
              have dd := SeqAt.depth_of_shaped s1
              have room : X.A.units + 1 + min (PyData.depthAll ds) d.depth < cLine := by
                have := Nat.min_le_right (PyData.depthAll ds) d.depth
                omega
              exact ⟨fun q => SeqAt.in_list_reads rc' rd' c2 c1 room (fin q), fun q => SeqAt.notIn_list_reads rc' rd' c2 c1 room (fin q)⟩
            · cases e1
          | tuple ds =>
            dsimp only at e1
            split at e1
            · rename_i hs
              cases e1
              obtain ⟨s1, s2⟩ := Bool.and_eq_true_iff.mp hs
              have c1 := SeqAt.canLay_of_shaped s1
              have c2 : PyData.canLayAll0 ds = true := by simpa [PyData.canLay0] using SeqAt.canLay_of_shaped s2
              have dd := SeqAt.depth_of_shaped s1
              have room : X.A.units + 1 + min (PyData.depthAll ds) d.depth < cLine := by
                have := Nat.min_le_right (PyData.depthAll ds) d.depth
                omega
              exact ⟨fun q => SeqAt.in_tuple_reads rc' rd' c2 c1 room (fin q), fun q => SeqAt.notIn_tuple_reads rc' rd' c2 c1 room (fin q)⟩
            · cases e1
          | _ => cases e1
  cases r2 with
  | @ref m a h1 =>
    unfold inA at e
    dsimp only at e
    cases e1 : boxD h m with
    | none => rw [e1] at e; exact seqs e
    | some kvs =>
      rw [e1] at e
      dsimp only at e
      split at e
      · rename_i hk
        cases e
        obtain ⟨k1, hk1, hk2⟩ := D.keyOk_iff.mp hk
        obtain ⟨ys, kr, dn, hs, hz, xs, hH⟩ := dict_at I S h1 (boxD_at e1)
        obtain rfl : u = .ref a := ry
        have hl : (lookN ys k1).isSome = (getD kvs dx).isSome := by
          rcases kr.look hk1 with ⟨q1, q2⟩ | ⟨e2, uu, ev, q1, q2, _⟩
          · rw [q1, q2]; rfl
          · rw [q1, q2]; rfl
        have con : ∀ {Q' : Bool → Shared → Prop}, Q' (getD kvs dx).isSome { s with toks := s.toks + k1.draws } → wpAny (model X.prog X.w) X.A (contains (.ref a) v) Q' X.xe s := fun {Q'} hq => by
          refine wpAny_contains_slot dn.typeIs PySem.F.slot_dict_contains ?_
          refine call_meetsIn PySem.F.slot_dict_contains dn.typeIs PySem.F.entry_dict_contains (PySem.F.args_dict_contains_2 _ _) (S := fun A' R s' => A' = X.A ∧ s' = s ∧ R (.ok (.ret (.bool (getD kvs dx).isSome))) { s with toks := s.toks + k1.draws }) (fun A' R s' hS => ?_) ⟨rfl, rfl, wpAny_truthy_bool hq⟩
          obtain ⟨rfl, rfl, hq⟩ := hS
          show wpAny _ _ (dictGet a v >>= _) _ _ _
          refine wpAny_bind (get_key (by show X.A.units + 1 + 8 < _; omega) (rep_nested I S.le r1 rx hk1) hk2 dn ?_)
          rw [← hl] at hq
          cases hf : lookN ys k1 with
          | some p =>
            rw [hf] at hq
            show wpAny _ _ (ret (.bool true)) _ _ _
            exact wpAny_pure hq
          | none =>
            rw [hf] at hq
            show wpAny _ _ (Builtin.Dict.pendingKey? a v >>= _) _ _ _
            exact wpAny_bind (wpAny_pendingKey_other hs (wpAny_pure hq))
        refine ⟨fun q => ?_, fun q => ?_⟩
        · show wpAny _ _ (do return Value.bool (← contains (.ref a) v) : Sem Value) _ _ s
          exact wpAny_bind (con (wpAny_pure ⟨.bl _, H, I.tok _, rfl, q⟩))
        · show wpAny _ _ (do return Value.bool (!(← contains (.ref a) v)) : Sem Value) _ _ s
          exact wpAny_bind (con (wpAny_pure ⟨.bl _, H, I.tok _, rfl, q⟩))
      · cases e
  | _ => exact seqs e
theorem in_ok (hu : X.A.units + 70 < cLine) : OpR X (compareOp .In) (rO (tb X n) inA) := by
  rintro pins s σ H x y v u Q I rx ry ⟨pr, F, ρ, h0, dx, dy, d, S, r1, r2, e, kk⟩
  have hb : ∃ b, d = .bl b := by
    unfold inA at e
    repeat' split at e
    all_goals first
      | (cases e; exact ⟨_, rfl⟩)
      | (rw [Option.map_eq_some_iff] at e; obtain ⟨b, _, rfl⟩ := e; exact ⟨b, rfl⟩)
      | cases e
  obtain ⟨b, rfl⟩ := hb
  exact (in_core hu I rx ry S r1 r2 e).1 (kk F ρ H _ (Ext.refl _ _) S (.bl _))
theorem notIn_ok (hu : X.A.units + 70 < cLine) : OpR X (compareOp .NotIn) (rO (tb X n) notInA) := by
  rintro pins s σ H x y v u Q I rx ry ⟨pr, F, ρ, h0, dx, dy, d, S, r1, r2, e, kk⟩
  unfold notInA at e
  split at e
  · rename_i b hb
    cases e
    exact (in_core hu I rx ry S r1 r2 hb).2 (kk F ρ H _ (Ext.refl _ _) S (.bl _))
  · cases e
end
end MI

/-! MI, part Q: repr; slices from the back; the law's end. -/
namespace MI
open PySem PySem.Spec L2

/-! ### repr -/
def reprF : Fn := fun ds h => match ds with
  | [d] => match toPy h d with
    | some p => if (p.showable && !p.hasDict && decide (p.depth ≤ 16) && decide (p.shown.length ≤ lim)) = true then .ok (.str p.shown) h else .bad
    | none => .bad
  | _ => .bad
theorem repr_noexc : NoExc reprF := fun ds h x h' e => by
  unfold reprF at e
  repeat' split at e
  all_goals cases e
section
variable {L : Md → Prop} {n : Nm} {k : Nat} {W : WX} {ow : Str → Bool} {N : List Str} {sc : Scope} {X : Cx} {pos : Pos}
theorem repr_ok (hg : X.A.guards = some []) (hu : X.A.units + 64 < cLine) : CallR X (.builtin "repr") (rF (tb X n) reprF) := by
  rintro pins s σ H vs us Q I r ⟨pr, F, ρ, h, ds, S, rs, p⟩
  match ds, rs with
  | [], .nil => exact p.elim
  | _ :: _ :: _, .cons _ (.cons _ _) => exact p.elim
  | [d], .cons (v := v) r1 .nil =>
    obtain ⟨u, rfl, ru⟩ := vals1 r
    unfold reprF at p
    dsimp only at p
    cases e1 : toPy h d with
    | none => rw [e1] at p; exact p.elim
    | some q =>
      rw [e1] at p
      dsimp only at p
      split at p
      · rename_i hc
        simp only [Bool.and_eq_true, decide_eq_true_eq, Bool.not_eq_true'] at hc
        obtain ⟨⟨⟨c1, c2⟩, c3⟩, c4⟩ := hc
        have dp := toPy_dp S r1 e1
        obtain ⟨as, rd⟩ := Dp.reads I q v u dp ru
        have lz : q.shown.length ≤ sizeLine := lim_ok c4
        have fin : ∀ tk (t : Tok), EP X pins σ Q (.str q.shown t) { s with toks := tk } := fun tk t => ⟨.str _, H, I.tok _, ⟨t, rfl⟩, p F ρ H _ (Ext.refl _ _) S (.str _)⟩
        cases u with
        | ref a =>
          exact repr_of_reads' rd c1 (PyData.noDict_hsm c2) hg (by omega) (fun _ _ e => e) (fun h' u tk hk => ⟨.str _, H, I.kept hk, ⟨u, rfl⟩, p F ρ H _ (Ext.refl _ _) S (.str _)⟩) lz
        | none => cases rd; exact P.repr_of_none (by simpa [PyData.shown] using fin _ _)
        | bool b => cases rd; exact P.repr_of_bool (by simpa [PyData.shown] using fin _ _)
        | int i t =>
          cases rd
          refine P.repr_of_int (by simpa [PyData.showable] using c1) ?_
          have z := fin (s.toks + 1) s.toks
          rw [PyData.shown] at z
          exact z
        | str x t =>
          cases rd
          rw [PyData.shown] at lz
          refine P.repr_of_str ?_ lz
          have z := fin (s.toks + 1) s.toks
          rw [PyData.shown] at z
          exact z
        | _ => cases rd
      · exact p.elim

/-! ### t[::-1], a tuple -/
theorem filterMap_same {α β : Type} {f g : α → Option β} : ∀ {l : List α}, (∀ x ∈ l, f x = g x) → l.filterMap f = l.filterMap g
  | [], _ => rfl
  | x :: l, h => by
    rw [List.filterMap_cons, List.filterMap_cons, h x List.mem_cons_self, filterMap_same fun y hy => h y (List.mem_cons_of_mem _ hy)]
theorem rev_pick (xs : Array Value) : (List.range xs.size).filterMap (fun (m : Nat) => xs[(((xs.size : Int) - 1) + (m : Int) * (-1)).toNat]?) = xs.toList.reverse := by
  have h1 : (List.range xs.size).filterMap (fun (m : Nat) => xs[(((xs.size : Int) - 1) + (m : Int) * (-1)).toNat]?) = ((List.range xs.size).map fun k => xs.size - 1 - k).filterMap (xs[·]?) := by
    rw [List.filterMap_map]
    refine filterMap_same fun m hm => ?_
    have hm' := List.mem_range.mp hm
    have : (((xs.size : Int) - 1) + (m : Int) * (-1)).toNat = xs.size - 1 - m := by omega
    rw [this]; rfl
  rw [h1, PySem.W.krv_range, List.filterMap_reverse, PySem.W.krv_all]
theorem getItem_tup_rev {prog : Program} {w : World} {A : Around} {E : Value → Shared → Prop} {s : Shared} {t sl : Addr} {items : Array Value} {tk : Tok} {os : Obj} {Q : Value → Shared → Prop} (ht : PyProof.Rows.IsTup s.heap t items) (h1 : s.heap.get? sl = some os) (h2 : os.cls = .type "slice") (h3 : os.data = .fields #[.none, .none, .int (-1) tk])
    (h : Q (.ref s.heap.objs.size) { s with heap := s.heap.push { cls := .type "tuple", data := .seq items.toList.reverse.toArray } }) (hsz : items.size ≤ sizeLine) : wpAny (model prog w) A (getItem (.ref t) (.ref sl)) Q E s := by
  have hTs : s.TypeIs (.ref sl) "slice" := ⟨os, h1, h2⟩
  have htake : sizeOk (.seq items.toList.reverse.toArray) := by
    show items.toList.reverse.toArray.size ≤ sizeLine
    rw [List.size_toArray, List.length_reverse, Array.length_toList]; exact hsz
  unfold getItem
  try with_reducible refine wpAny_holding ?_
  first | refine wpAny_bind (wpAny_pure ?_) | skip
  refine wpAny_bind (wpAny_sequenceKey ht.typeIs (by decide) ?_)
  refine wpAny_bind (wpAny_callSpecial?_slot (name := Str.ofString "__getitem__") ht.typeIs PyProof.Rows.slot_tuple_getitem (wpAny_call_entry PyProof.Rows.slot_tuple_getitem ht.typeIs PyProof.Rows.entry_tuple_getitem ?_ (PyProof.Rows.args_tuple_getitem _ _)))
  show wpAny _ _ (Builtin.Tuple.tupleItemsOf (.ref t) >>= _) _ _ s
  refine wpAny_bind (PyProof.Rows.tupleItemsOf_ ht ?_)
  refine wpAny_bind (wpAny_typeOf hTs ?_)
  rw [if_pos (by decide)]
  refine wpAny_bind ?_
  unfold Builtin.Slice.sliceApplied Builtin.Slice.sliceFields
  refine wpAny_bind (wpAny_bind (wpAny_field h1 h3 (x := .none) rfl (wpAny_bind (wpAny_field h1 h3 (x := .none) rfl (wpAny_bind (wpAny_field h1 h3 (x := .int (-1) tk) rfl (wpAny_pure ?_)))))))
  refine wpAny_bind (PyProof.Rows.slicePart_int ?_)
  show wpAny _ _ (if ((-1 : Int) == 0) = true then _ else _) _ _ s
  rw [if_neg (by decide)]
  refine wpAny_bind (PyProof.Rows.slicePart_none (wpAny_bind (PyProof.Rows.slicePart_none (wpAny_bind (wpAny_pure ?_)))))
  have adj : Builtin.Slice.sliceAdjust none none (-1) (items.size : Int) = ((items.size : Int) - 1, -1) := by unfold Builtin.Slice.sliceAdjust; rfl
  have plc : Builtin.Slice.slicePlaces ((items.size : Int) - 1) (-1) (-1) = items.size := by
    unfold Builtin.Slice.slicePlaces
    rw [if_neg (by decide)]
    by_cases z : (items.size : Int) - 1 > -1
    · rw [if_pos z]
      have : ((items.size : Int) - 1 - -1 - 1) / (- -1) + 1 = items.size := by
        rw [show (- -1 : Int) = 1 by decide, Int.ediv_one]; omega
      rw [this]; omega
    · rw [if_neg z]; omega
  show wpAny _ _ (match Builtin.Slice.sliceAdjust none none (-1) (items.size : Int) with | (lo, hi) => pure (lo, (-1 : Int), Builtin.Slice.slicePlaces lo hi (-1))) _ _ s
  rw [adj]
  show wpAny _ _ (pure ((items.size : Int) - 1, (-1 : Int), Builtin.Slice.slicePlaces ((items.size : Int) - 1) (-1) (-1))) _ _ s
  rw [plc]
  refine wpAny_pure ?_
  have hno : ¬ ((((items.size : Int) - 1) == 0 && (-1 : Int) == 1 && items.size == items.size) = true) := by
    rw [show ((-1 : Int) == 1) = false from by decide, Bool.and_false, Bool.false_and]
    exact Bool.false_ne_true
  show wpAny _ _ (if (((items.size : Int) - 1) == 0 && (-1 : Int) == 1 && items.size == items.size) = true then _ else _) _ _ s
  rw [if_neg hno, rev_pick]
  first
    | exact wpAny_bind (m := Builtin.Tuple.tupleExact _) (wpAny_newObj_type (wpAny_pure ⟨_, rfl, wpAny_pure h⟩) htake)
    | exact wpAny_bind (wpAny_bind (m := Builtin.Tuple.tupleExact _) (wpAny_newObj_type (wpAny_pure ⟨_, rfl, wpAny_pure h⟩) htake))
    | exact wpAny_bind (m := Builtin.Tuple.tupleExact _) (wpAny_newObj_type (wpAny_bind (wpAny_pure (wpAny_pure ⟨_, rfl, wpAny_pure h⟩))) htake)
    | exact wpAny_bind (wpAny_bind (m := Builtin.Tuple.tupleExact _) (wpAny_newObj_type (wpAny_pure (wpAny_pure ⟨_, rfl, wpAny_pure h⟩)) htake))
/-- t[::-1] -/
def eRev (f : Ev) : Ev := fun σ h => (f σ h).bind fun d h1 => match d with
  | .tup xs => .ok (.tup xs.reverse) h1
  | _ => .bad
theorem se_rev {e : Expr} {f : Ev} {j : Nat} {p1 p2 p3 : Pos} (he : SE X n W e f) : SE X n W (.Subscript e (.Slice none none (some (.UnaryOp .USub (.Constant (.int 1) j p1) p2)) p3) pos) (eRev f) := by
  refine ⟨fun pins s τ H Q I q => ?_⟩
  obtain ⟨pr, F, ρ, h, σ, S, l, p⟩ := q
  refine PyProof.Rows.Subscript_ (thn (he.run pins s τ H (fun v H1 => ∃ a vs, v = .ref a ∧ SqT X.K H1 a vs ∧ ∀ q, H1 q = none → Q (.ref q) (upd H1 q (.tup vs.reverse))) I (tM_bind S l p fun F1 ρ1 H1 d h1 v x1 s1 l1 r1 p1 => ?_)) fun v s1 h1 => ?_)
  · cases r1 with
    | tup t1 t2 => exact ⟨_, _, rfl, sqT_le s1.le t1, fun q hq => tup_new p1 s1 (rev_reps t2) hq⟩
    | _ => exact p1.elim
  · obtain ⟨x, H1, I1, rx, a, vs, rfl, ht, q⟩ := h1
    obtain rfl : v = .ref a := rx
    refine wpAny_Slice ?_
    rw [evalPart_none]
    refine wpAny_pure (wpAny_pure ?_)
    rw [evalPart_some]
    refine thn ((pe_un un_neg (pe_int (X := X) (i := 1) (j := j) (pos := p1)) (pos := p2)).run pins s1 τ H1 (fun v H2 => v = .int (-1) ∧ H2 = H1) I1 ⟨1, rfl, rfl, rfl⟩) fun u s2 h2 => ?_
    obtain ⟨v2, H2, I2, r2, rfl, rfl⟩ := h2
    obtain ⟨tk, rfl⟩ := r2
    have I3 : Inv X pins τ H2 { s2 with heap := s2.heap.push { cls := .type "slice", data := .fields #[.none, .none, .int (-1) tk] } } := I2.kept (t' := s2.toks) fun b ob q => Heap.get?_push_of_some _ q
    obtain ⟨its, rv, it, hz⟩ := I3.tuple ht
    refine PyProof.Rows.tail_any (ops := [.ref a, .ref s2.heap.objs.size]) it.typeIs PyProof.Rows.slot_tuple_getitem.lookup (getItem_tup_rev it (Heap.get?_push_size _ rfl) rfl rfl ?_ (by have := rv.length; simp; omega)) rfl
    refine ⟨.ref _, _, I3.laid (s := { s2 with heap := s2.heap.push { cls := .type "slice", data := .fields #[.none, .none, .int (-1) tk] } }) (t' := s2.toks) (fun b o e => Heap.get?_push_of_some _ e) (Nat.le_refl _) (show ObjOk X.prog X.w _ _ _ (.tup vs.reverse) from ⟨by rw [List.length_reverse]; exact hz, its.reverse, rv.reverse, PyProof.Rows.IsTup.new _ _⟩), rfl, q _ (I3.hok.fresh (Nat.le_refl _))⟩
end

/-! ### the law's end -/
/-- a law: its def keeps its promise in every base -/
theorem law_g {l : PySem.W.OpenLaw} {n : Nat} {k m : Nat} {q : Program} {loose : List Str} {XP : (Str → Option Value) → Heap → Prop} {YP : World → Heap → Prop} {d : DefRec} {x : Str} {nm : PySem.W.Frag → Nm} {g : Fn}
    (hn : l.most = some n) (hn2 : n ≤ sizeLine) (hdf : d.params.defaults = []) (hr : Room k callerA) (hg : ∀ ns : List Int, ns.length ≤ n → ∃ h, g [.scr ns] [] = .ok (.bl true) h)
    (Fw : ∀ (w : World) (mg : Str → Option Value) (fa : Addr) (h : Heap), YP w h → h.Ns mainGlobals mg → mg d.name = some (.ref fa) →
      ∃ (K : PySem.W.Frag) (fd : FuncData), K.In h ∧ (∀ (s : Shared) (u : Value), BindsTo s fd ⟨[u], []⟩ [(x, u)]) ∧ ∀ base : Heap, K.In base → base.Ns mainGlobals mg → FnG ⟨l.prog, w, K, mg, base⟩ (nm K) k fa fd [x] g) :
    PySem.W.WalkO q loose XP YP l.row.toRowW d [] (fun f vs => PySem.call f vs) := by
  refine Att.attach_call hn hdf fun w s₀ s₁ mg mb fa o pm cd doc a vs ns G Y ho hd hcd hmg hobj hints hlen hgens => ?_
  obtain ⟨K, fd, KX, hb, hF⟩ := Fw w mg fa _ Y G.T.g hmg
  have rv := vals_ints hints
  have lenV := hints.length
  have main : ∀ H : Hp, Only H → SqL K H a (ns.map V.int) → HOk l.prog w H s₁.heap → (∀ b, H b ≠ none → b = a) → (H a ≠ none → K.lookup a = none) →
      codeAny (model l.prog w) callerA (.call (.ref fa) ⟨[.ref a], []⟩) (fun r s' => r = .ok (.ret (.bool true)) ∧ OldK s₁.heap s'.heap ∧ s'.os = s₁.os ∧ PyProof.Rows.AllBare s'.gens) s₁ := by
    intro H hO hS hok hA hK
    have only_a : ∀ {b : Addr} {u : HO}, H b = some u → b = a := fun q => hA _ (by rw [q]; simp)
    have noD : ∀ {b : Addr} {o : Obj} {es : Array DictEntry} {ep : Nat}, s₁.heap.get? b = some o → o.data = .dict es ep → H b = none := fun {b o es ep} e dd => by
      cases q : H b with
      | none => rfl
      | some u =>
        obtain rfl := only_a q
        rw [hobj] at e; cases e
        cases (show Data.seq vs.toArray _ = Data.dict es ep from dd)
    have ns' : ∀ {b : Addr} {m : Str → Option Value}, s₁.heap.Ns b m → (hidT s₁.heap H).Ns b m := fun {b m} ⟨o, es, ep, e, dd, r⟩ => ⟨o, es, ep, hidT_get e (noD e dd), dd, r⟩
    have kb : K.In (hidT s₁.heap H) := fun b o e => hidT_get (KX b o e) (by
      cases q : H b with
      | none => rfl
      | some u =>
        obtain rfl := only_a q
        rw [hK (by rw [q]; simp)] at e; cases e)
    have hM : Mod K mg (hidT s₁.heap H) := ⟨kb, ns' G.T.g, ⟨mb, ns' G.T.b, G.T.builtins⟩, let ⟨mc, h1, h2⟩ := G.T.nolimit; ⟨mc, ns' h1, h2⟩⟩
    have e0 : Env0 l.prog w K mg (hidT s₁.heap H) callerA [] s₁ H := ⟨rfl, hM, fun b o e => of_hidT e, Nat.le_of_eq (hidT_size _ _), trivial, (fun b hb => absurd (show b ∈ ([] : List Addr) from hb) (by simp)), hok, .of_eq hgens⟩
    obtain ⟨h1, hg1⟩ := hg ns hlen
    have sr : SR (((⟨l.prog, w, K, mg, hidT s₁.heap H⟩ : Md).tb (nm K)).at fun _ => none) H [] H [] := ⟨Le.refl H, List.nodup_nil, rfl, fun n o b e => by simp at e, fun a u e => by cases e⟩
    refine codeAny_mono ((hF _ kb (ns' G.T.g)).run callerA [] s₁ H ⟨[.ref a], []⟩ [.ref a] [.ref a] (fun v _ => v = .bl true) (fun _ _ _ => False) hr rfl e0 (hb s₁ (.ref a)) (.cons rfl .nil) ⟨rfl, _, H, [], [], [.scr ns], sr, .cons (.scr hS) .nil, ?_⟩) fun r s' hq => ?_
    · rw [hg1]
      intro F' ρ' H' v ex s' r
      cases r; rfl
    · cases r with
      | error e =>
        obtain ⟨_, _, _, _, _, _, _, _, _, _, _, _, z⟩ := hq
        exact z.elim
      | ok fl =>
        cases fl with
        | next => exact hq.elim
        | brk => exact hq.elim
        | cont => exact hq.elim
        | ret u =>
          obtain ⟨v, H', os, bare, un, hok', r', q⟩ := hq
          have q' : v = .bl true := q
          subst q'
          obtain rfl : u = Value.bool true := r'
          refine ⟨rfl, OldK.of_keep fun b o e => ?_, os, bare⟩
          cases q2 : H b with
          | none => exact un.keep b o e q2 (fun z => absurd (show b ∈ ([] : List Addr) from z) (by simp)) (by simp)
          | some u =>
            rcases hO b with z | ⟨ob, xs, z⟩
            · rw [q2] at z; cases z
            · obtain ⟨e1, _⟩ := hok b _ z
              obtain ⟨e2, _⟩ := hok' b _ (un.frzs b ob _ z)
              rw [e] at e1; cases e1
              exact e2
  cases hk : K.lookup a with
  | some o =>
    have e := KX a o hk
    rw [hobj] at e
    cases e
    exact main (fun _ => none) (fun _ => .inl rfl) (.inr ⟨_, vs.toArray, _, hk, rfl, rfl, rfl, by rw [List.size_toArray, lenV]; exact Nat.le_trans hlen hn2, by simpa using rv⟩) (fun b u z => nomatch (show (none : Option HO) = some u from z)) (fun b z => absurd rfl z) fun z => absurd rfl z
  | none =>
    refine main (fun b => if b = a then some (.frz { cls := .type "list", data := .seq vs.toArray } (.lst (ns.map V.int))) else none) (fun b => ?_) (.inl (.inr ⟨{ cls := .type "list", data := .seq vs.toArray }, if_pos rfl⟩)) (fun b u z => ?_) (fun b z => ?_) fun _ => hk
    · by_cases hb : b = a
      · exact .inr ⟨_, _, if_pos hb⟩
      · exact .inl (if_neg hb)
    · by_cases hb : b = a
      · subst hb
        cases (if_pos rfl).symm.trans z
        exact ⟨hobj, by rw [List.length_map]; exact Nat.le_trans hlen hn2, vs, _, rv, hobj⟩
      · cases (if_neg hb).symm.trans z
    · by_cases hb : b = a
      · exact hb
      · exact absurd (if_neg hb) z
end MI

/-! MI, part R: stores in pairs; lists joined into a numbered one; small rooms. -/
namespace MI
open PySem PySem.Spec L2

section
variable {L : Md → Prop} {n : Nm} {k : Nat} {W : WX} {ow : Str → Bool} {N : List Str} {sc : Scope} {X : Cx} {pos : Pos}
theorem Cc.u64 (c : Cc L n k W ow N sc X) : X.A.units + 64 < cLine := c.room.units
theorem Cc.u70 (c : Cc L n k W ow N sc X) : X.A.units + 70 < cLine := by have := c.room.un; omega
theorem Cc.u0 (c : Cc L n k W ow N sc X) : X.A.units < cLine := c.room.units0
theorem Cc.bk (c : Cc L n k W ow N sc X) : X.env.blockKind = .function := by
  unfold Env.blockKind
  rw [c.kd]; rfl
theorem Cc.sw (c : Cc L n k W ow N sc X) {elt : Expr} {gens : List Comprehension} {scope : Scope} {p py : Pos} {y : Str} {line : Nat} (hy : sc.names.lookup y = some .local) (hl : py.line = p.line) (hn : (scope.names.any fun x => x.1 == y && (x.2 == .local || x.2 == .cell)) = false) : swapsWith (.ListComp elt gens scope p) (some (.Name y py)) line X.env = pure true :=
  swaps_true c.bk (by show X.env.scope.names.lookup y = _; rw [c.hs]; exact hy) hl hn
/-- a comprehension whose store is not exchanged: the name is captured, or its own -/
theorem Cc.sw0 (c : Cc L n k W ow N sc X) {elt : Expr} {gens : List Comprehension} {scope : Scope} {p py : Pos} {y : Str} {line : Nat} (h : (sc.names.lookup y == some NameKind.local && py.line == p.line && !(scope.names.any fun x => x.1 == y && (x.2 == .local || x.2 == .cell))) = false) : swapsWith (.ListComp elt gens scope p) (some (.Name y py)) line X.env = pure false := by
  have h2 : X.env.kindOf y = sc.names.lookup y := by show X.env.scope.names.lookup y = _; rw [c.hs]
  have h1 : (X.env.blockKind == ScopeKind.function) = true := by rw [c.bk]; rfl
  show (pure (X.env.blockKind == ScopeKind.function && X.env.kindOf y == some NameKind.local && py.line == p.line && !(scope.names.any fun x => x.1 == y && (x.2 == .local || x.2 == .cell))) : Sem Bool) = pure false
  rw [h1, Bool.true_and, h2, h]

/-! ### a, b = x, y -/
def sPar (i j : Nat) (as : EvL) : EvS := fun σ h => (as σ h).fl σ fun ds h1 => match ds with
  | [x, y] => .nx ((σ.set i (some x)).set j (some y)) h1
  | _ => .bad
theorem fl_bindL {T : Tb} {W : WX} {F : Hp} {ρ : List Addr} {H : Hp} {h : MH} {σ : Sl} {τ : Tv} {Dn : Ends} {f : EvL} {g : List D → MH → Fl} (s : SR T F ρ H h) (l : SLR T.K F ρ σ τ) (p : PostS T W F ρ ((f σ h).fl σ g) Dn) {R : List V → Hp → Prop}
    (k : ∀ F' ρ' H' d h' v, Ext F ρ F' ρ' → SR T F' ρ' H' h' → SLR T.K F' ρ' σ τ → Reps T.K F' ρ' d v → PostS T W F' ρ' (g d h') Dn → R v H') : tML T W f τ H R := by
  refine ⟨_, F, ρ, h, σ, s, l, ?_⟩
  cases e : f σ h with
  | ok d h' =>
    rw [e] at p
    exact fun F' ρ' H' v x s' r => k F' ρ' H' d h' v x s' (l.mono x) r (PostS.mono' x p)
  | exc x h' =>
    rw [e] at p
    exact fun F' ρ' H' c d x s' xi => p F' ρ' H' τ c d x s' (l.mono x) xi
  | bad => rw [e] at p; exact p
theorem par_sw {env : Env} {x y : Str} {a b : Expr} {px py pt pt2 : Pos} {kt k2 : Nat} (hb : env.blockKind = .function) (hx : env.kindOf x = some .local) (hy : env.kindOf y = some .local) (hl : py.line = px.line) (hne : x ≠ y)
    (h1 : ([a, b].any fun | .Starred .. => true | _ => false) = false) (h2 : [a, b].all (foldedForSure 8) = false) (h3 : [a, b].all (constantsAlone 8) = false) :
    swappedStores [.Tuple [.Name x px, .Name y py] kt pt] (.Tuple [a, b] k2 pt2) env = pure (some [x, y]) := by
  have hne' : ¬ y = x := fun e => hne e.symm
  unfold swappedStores
  simp only [List.length_cons, List.length_nil, hb, h1, h2, h3]
  simp [hx, hy, hl, Expr.pos, List.eraseDups_cons, hne, hne']
  simp only [List.any_cons, List.any_nil, Bool.or_false, Bool.or_eq_false_iff] at h1
  intro h
  rcases h with h | h
  · exact absurd (h1.1.symm.trans h) Bool.false_ne_true
  · exact absurd (h1.2.symm.trans h) Bool.false_ne_true
theorem s_par (c : Cc L n k W ow N sc X) {i j : Nat} {x y : Str} {a b : Expr} {as : EvL} {px py pt : Pos} {kt k2 : Nat} {pt2 : Pos} (hi : N[i]? = some x) (hj : N[j]? = some y) (hij : i ≠ j) (hx : sc.names.lookup x = some .local) (hy : sc.names.lookup y = some .local) (hne : x ≠ y) (ha : SA X n W [a, b] as) (hl : py.line = px.line)
    (h1 : ([a, b].any fun | .Starred .. => true | _ => false) = false) (h2 : [a, b].all (foldedForSure 8) = false) (h3 : [a, b].all (constantsAlone 8) = false)
    (hs : swapsWithSole [.Tuple [.Name x px, .Name y py] kt pt] (.Tuple [a, b] k2 pt2) pos.line X.env = pure false) :
    SS X n W (.Assign [.Tuple [.Name x px, .Name y py] kt pt] (.Tuple [a, b] k2 pt2) pos) (sPar i j as) := by
  have kx : X.env.kindOf x = some .local := by show X.env.scope.names.lookup x = _; rw [c.hs]; exact hx
  have ky : X.env.kindOf y = some .local := by show X.env.scope.names.lookup y = _; rw [c.hs]; exact hy
  refine PS_imp (ps_par c.calm c.nd' (c.ix hi) (c.ix hj) hij kx ky ha (par_sw c.bk kx ky hl hne h1 h2 h3) hs) fun Dn τ H q => ?_
  obtain ⟨_, F, ρ, h, σ, s, l, p⟩ := q
  refine fl_bindL s l p fun F1 ρ1 H1 ds h1 vs x1 s1 l1 r1 p1 => ?_
  split at p1
  · cases r1 with
    | cons r1 r2 =>
      cases r2 with
      | cons r2 r3 =>
        cases r3
        exact ⟨_, _, rfl, p1 F1 ρ1 H1 _ (Ext.refl _ _) s1 ((l1.set r1 i).set r2 j)⟩
  · exact p1.elim

/-! ### xs + ys, a numbered list -/
def eCat (b : Bool) (f g : Ev) : Ev := fun σ h => (f σ h).bind fun x h1 => (g σ h1).bind fun y h2 => match lstOf h2 x, lstOf h2 y with
  | some xs, some ys => if xs.length + ys.length ≤ lim then mkL b (xs ++ ys) h2 else .bad
  | _, _ => .bad
theorem se_cat (b : Bool) {a c : Expr} {f g : Ev} (ha : SE X n W a f) (hb : SE X n W c g) : SE X n W (.BinOp a .Add c pos) (eCat b f g) := PE_imp (pe_op op_cat ha hb) fun τ H Q q => by
  obtain ⟨_, F, ρ, h, σ, s, l, p⟩ := q
  refine tM_bind s l p fun F1 ρ1 H1 x h1 vx x1 s1 l1 r1 p1 => ?_
  refine tM_bind s1 l1 p1 fun F2 ρ2 H2 y h2 vy x2 s2 l2 r2 p2 => ?_
  cases e1 : lstOf h2 x with
  | none => rw [e1] at p2; exact p2.elim
  | some xs =>
    cases e2 : lstOf h2 y with
    | none => rw [e1, e2] at p2; exact p2.elim
    | some ys =>
      rw [e1, e2] at p2
      dsimp only at p2
      split at p2
      · rename_i hl
        obtain ⟨a1, w1, rfl, g1, q1⟩ := lstOf_rep s2 (r1.mono x2) e1
        obtain ⟨a2, w2, rfl, g2, q2⟩ := lstOf_rep s2 r2 e2
        exact ⟨a1, a2, w1, w2, rfl, rfl, g1, g2, by rw [← q1.length, ← q2.length]; exact lim_ok hl, fun z hz => mkL_new p2 s2 (q1.append q2) hz⟩
      · exact p2.elim
/-- a call without arguments' length -/
theorem len0 : ∀ (σ : Sl) (h : MH) (ds : List D) (h' : MH), aNil σ h = .ok ds h' → ds.length = 0 := fun _ _ _ _ e => aNil_len e

/-! ### functions by their names -/
theorem gf_of {L : Md → Prop} {m : Md} {k : Nat} {x qual : Str} {params : Arguments} {body : List Stmt} {sc : Scope} {f : Addr} {fd : FuncData} {N ps : List Str} {g : EvS} (FD : FunD m.K x qual params body sc [] [] f fd) (S : FnScope N ps sc) (gs : L m) (hm : m.mg x = some (.ref f)) (np : Nat) (hnp : ps.length = np)
    (hb : Binds m.K fd ps []) (bd : ∀ (X : Cx) (W : WX), Cc L n k W (fun _ => true) N sc X → md X = m → X.stack = X.env :: X.outer → X.env.frame = some X.env.locals → X.ex = [] → SSs X n W body g) : GF m n x (k + 1) np (fnM N.length g) :=
  ⟨f, fd, ps, hm, FD.kp, hnp, hb, fn_g FD S gs bd⟩
/-- with no room for any call: no promise -/
theorem gf_bad {m : Md} {k : Nat} {x qual : Str} {params : Arguments} {body : List Stmt} {sc : Scope} {f : Addr} {fd : FuncData} {ps : List Str} (FD : FunD m.K x qual params body sc [] [] f fd) (hm : m.mg x = some (.ref f)) (np : Nat) (hnp : ps.length = np) (hb : Binds m.K fd ps []) : GF m n x k np (fun _ _ => .bad) :=
  ⟨f, fd, ps, hm, FD.kp, hnp, hb, ⟨fun A o s H args us vs Q E hr hg e0 hbd rv hsp => by
    obtain ⟨_, _, _, _, _, _, _, _, z⟩ := hsp
    exact z.elim⟩⟩

/-! ### range(i, j, c) -/
def rangeC (lo c : Int) (m : Nat) : List D := (List.range m).map fun q => .int (lo + (q : Nat) * c)
def iRange3 (as : EvL) : EvI := fun σ h => (as σ h).bind fun ds h1 => match ds with
  | [.int i, .int j, .int c] => if (decide (c ≠ 0) && decide (c.natAbs < 1073741824) && Builtin.Range.small i j c && decide (0 ≤ Builtin.Range.rangeSize i j c)) = true then .ok ⟨rangeC i c (Builtin.Range.rangeSize i j c).toNat, noChk⟩ h1 else .bad
  | _ => .bad
theorem jok_rangeC {T : Tb} {F : Hp} {ρ : List Addr} {lo c : Int} {m : Nat} : JOk T F ρ ⟨rangeC lo c m, noChk⟩ (Itc lo c m) := by
  intro i pr F' ρ' H' h' x s hc
  have hl : (rangeC lo c m).length = m := by unfold rangeC; simp
  refine ⟨fun d hd => ?_, fun hl' => by rw [hl] at hl'; exact hl'⟩
  have hi : i < m := by
    have := (List.getElem?_eq_some_iff.mp hd).1
    rw [hl] at this; exact this
  refine ⟨hi, fun y H'' ⟨e, q⟩ => ⟨F', ρ', Ext.refl _ _, by rw [e]; exact s, ?_⟩⟩
  have : (rangeC lo c m)[i]? = some (.int (lo + (i : Nat) * c)) := by unfold rangeC; simp [hi]
  rw [this] at hd; cases hd
  rw [q]; exact .int _
theorem si_range3 (c : Cc L n k W ow N sc X) {tg : Expr} (hg : gloB sc "range" = true) (hm : X.mg "range" = none) {a b d : Expr} {as : EvL} {p1 : Pos} (ha : SA X n W [a, b, d] as) (hs : starEach [a, b, d] X.env = (false, eval a X.env) :: starEach [b, d] X.env) (hpl : (backTo pos (starEach [b, d] X.env)).any (·.1) = false)
    (hlen : ∀ σ h ds h', as σ h = .ok ds h' → ds.length = 3) : SI X n W tg (.Call (.Name "range" p1) [a, b, d] [] pos) (iRange3 as) := by
  refine PI_imp (pi_range3 (c.glo hg) hm ha hs hpl) fun τ H Q q => ?_
  obtain ⟨pr, F, ρ, h, σ, sr, l, p⟩ := q
  refine ⟨_, F, ρ, h, σ, sr, l, ?_⟩
  unfold iRange3 at p
  cases e : as σ h with
  | exc x h' => rw [e] at p; exact p
  | bad => rw [e] at p; exact p
  | ok ds h1 =>
    have e1 := hlen _ _ _ _ e
    rw [e] at p
    intro F' ρ' H' v x s' r
    match ds, r, e1 with
    | [_, _, _], .cons r1 (.cons r2 (.cons r3 .nil)), _ =>
      simp only [Res.bind] at p
      cases r1 with
      | int i =>
        cases r2 with
        | int j =>
          cases r3 with
          | int q =>
            dsimp only at p
            split at p
            · rename_i hb
              simp only [Bool.and_eq_true, decide_eq_true_eq] at hb
              obtain ⟨⟨⟨b1, b2⟩, b3⟩, b4⟩ := hb
              exact ⟨i, j, q, _, rfl, ⟨b1, b2, b3, by omega⟩, p F' ρ' H' x s' _ jok_rangeC⟩
            · exact p.elim
          | _ => exact p.elim
        | _ => exact p.elim
      | _ => exact p.elim
end
end MI

/-! MI, part X: enumerate over lists and tuples, list.extend, len(set(xs)). -/
namespace MI
open PySem PySem.Spec L2
/-! ### enumerate(t), t a tuple -/
def IteT (K : PySem.W.Frag) (a : Addr) : It :=
  ⟨fun i H => ∃ (xs : List V) (x : V), SqT K H a xs ∧ xs[i]? = some x, fun i H v H' => ∃ T x, v = .ref T ∧ H T = none ∧ H' = upd H T (.tup [.int (i : Nat), x]) ∧ ∀ xs, SqT K H a xs → xs[i]? = some x, fun i H => ∃ xs : List V, SqT K H a xs ∧ xs.length ≤ i⟩
theorem meets_enumB {v : Value} {o : Obj} {H : Heap → Prop} (B : Begins v o H) :
    Meets (Builtin.«enumerate.__new__» ⟨[.type "enumerate", v], []⟩) (fun _ R s => H s.heap ∧
      R (.ok (.ret (.ref (s.heap.push o).objs.size))) { s with heap := (s.heap.push o).push { cls := .type "enumerate", data := .fields #[.none, .bool false, .ref s.heap.objs.size, rawInt 0, .none, .none] } }) :=
  .of_wp fun prog w A R s h => by
    obtain ⟨hp, g, d, tk, os⟩ := s; obtain ⟨h1, h⟩ := h
    have hsub := sub_enumerate
    have q1 : ∀ {A' : Around} {E : Value → Shared → Prop} {Q : Value → Shared → Prop}, Q (.ref hp.objs.size) ⟨hp.push o, g, d, tk, os⟩ → wpAny (model prog w) A' (pyIter v) Q E ⟨hp, g, d, tk, os⟩ :=
      fun q => B.iter prog w _ _ ⟨hp, g, d, tk, os⟩ _ h1 q
    wp_walk using q1
    refine wpAny_stack_any fun st => wpAny_pure ?_
    split
    · rename_i c _ _ _ _ _
      cases (c == Value.type "enumerate")
      · wp_walk using q1
        exact ⟨_, rfl, h⟩
      · wp_walk using q1
        exact ⟨_, rfl, h⟩
    · wp_walk using q1
      exact ⟨_, rfl, h⟩
theorem call_enumB {prog : Program} {w : World} {A : Around} {E : Value → Shared → Prop} {s : Shared} {v : Value} {o : Obj} {H : Heap → Prop} {Q : Value → Shared → Prop} (B : Begins v o H) (h1 : H s.heap)
    (h : ∀ h', IsEnum h' (s.heap.objs.size + 1) s.heap.objs.size 0 .none → h'.get? s.heap.objs.size = some o → h'.objs.size = s.heap.objs.size + 2 →
      (∀ b o, s.heap.get? b = some o → h'.get? b = some o) → Q (.ref (s.heap.objs.size + 1)) { s with heap := h' }) :
    wpAny (model prog w) A (call (.type "enumerate") [v]) Q E s := by
  refine callType_new F.called_enumerate (by decide) (F.typeCall_enumerate_1 _) (F.newCall_enumerate_1 _) (fun obj => F.args_object_init_2 obj _) F.entry_enumerate_new
    (meets_enumB B) ⟨h1, ?_⟩
  have hz : (s.heap.push o).objs.size = s.heap.objs.size + 1 := Heap.size_push ..
  show _ ∧ _
  rw [hz]
  have he : IsEnum ((s.heap.push o).push { cls := .type "enumerate", data := .fields #[.none, .bool false, .ref s.heap.objs.size, rawInt 0, .none, .none] }) (s.heap.objs.size + 1) s.heap.objs.size 0 .none := by
    have := Heap.get?_push_size (s.heap.push o) (o := { cls := .type "enumerate", data := .fields #[.none, .bool false, .ref s.heap.objs.size, rawInt 0, .none, .none] }) rfl
    rw [hz] at this; exact this
  refine ⟨⟨_, he, rfl⟩, h _ he (Heap.get?_push_of_some _ (Heap.get?_push_size _ B.free)) (by rw [Heap.size_push, hz]) fun b o x => Heap.get?_push_of_some _ (Heap.get?_push_of_some _ x)⟩
theorem draws_stop {prog : Program} {w : World} {A : Around} (hh : A.handled = none) {it t : Addr} {items : Array Value} {k : Nat} (hk : items[k]? = none) :
    Draws prog w A it [it, t] k (fun _ _ => False) (fun i h => i = k ∧ h.IsTupleIter it t i ∧ h.IsTuple t items) where
  live := fun _ _ st => let ⟨o, ho, _⟩ := st.2.1; ⟨o, ho⟩
  frame := fun _ _ _ st hk => ⟨st.1, st.2.1.at fun o e => hk it (by simp) o e, st.2.2.at fun o e => hk t (by simp) o e⟩
  item := fun i s Q E hi st hQ => absurd st.1 (Nat.ne_of_lt hi)
  done := fun s Q E st hE => wpAny_nextOf_tuple_end hh st.2.1 st.2.2 hk hE
theorem turn_enumT {P : Program} {w : World} {K : PySem.W.Frag} {elts : List Expr} {kk : Nat} {tpos : Pos} (a e it : Addr) :
    Turn P w K (.Tuple elts kk tpos) (IteT K a) [e, it] e (fun i h => (∃ old, IsEnum h e it ((i : Nat) : Int) old) ∧ h.IsTupleIter it a i ∧ e ≠ it) where
  mem := by simp
  obj := fun i h st b hb => by
    obtain ⟨⟨old, he⟩, ⟨o, ho, hc, hd⟩, _⟩ := st
    have e' : b = e ∨ b = it := by simpa using hb
    rcases e' with z | z
    · rw [z]; exact ⟨_, he, fun v q => nomatch q⟩
    · rw [z]; exact ⟨o, ho, fun v q => by rw [hd] at q; cases q⟩
  keep := fun i h h' st k => let ⟨⟨old, he⟩, hi, hne⟩ := st; ⟨⟨old, k e (by simp) _ he⟩, hi.at fun o q => k it (by simp) o q, hne⟩
  item := by
    intro X hP hw hK hc i pins s σ H E I hf st hg
    subst hP hw hK
    obtain ⟨⟨old, he⟩, hit, hne⟩ := st
    obtain ⟨xs, x, hq, hx⟩ := hg
    obtain ⟨its, rv, p, hz⟩ := I.tuple hq
    obtain ⟨u, hu, ru⟩ := rv.get hx
    have hel : e < s.heap.objs.size := Heap.lt_size he
    have hil : it < s.heap.objs.size := by obtain ⟨_, q, _⟩ := hit; exact Heap.lt_size q
    have hai : a ≠ it := fun z => by
      obtain ⟨o, e1, c1, _⟩ := p
      obtain ⟨o2, e2, c2, _⟩ := hit
      rw [z, e2] at e1; cases e1
      rw [c2] at c1; simp at c1
    have hea : e ≠ a := fun z => by
      obtain ⟨o, e1, c1, _⟩ := p
      rw [← z] at e1
      have e2 := he
      unfold IsEnum at e2
      rw [e2] at e1; cases e1
      simp at c1
    have hlt : i < its.toArray.size := by
      have := (List.getElem?_eq_some_iff.mp hu).1
      simpa using this
    refine wpAny_pyNext_enum_itemC (Draws.tuple (A := X.A.in1) (I.ok.hd hc) it a hai its.toArray) he ⟨hit, p⟩ hlt hne (by simp; exact ⟨hne, hea⟩) fun x' h' tk hx' ho hst' hT hsz hk => ?_
    have ex : x' = u := by
      have : its[i]? = some x' := by simpa using hx'
      rw [hu] at this; cases this; rfl
    subst ex
    refine ⟨_, rfl, wpAny_letOwnedTupleGo_enum (s := { s with heap := h', toks := tk + 1 }) ho fun h'' he' sb => ?_⟩
    have hT2 : h''.get? s.heap.objs.size = some { cls := .type "tuple", data := .seq #[.int i tk, x'] } := (sb.2 _ (Nat.ne_of_gt hel)).trans hT
    have new : ObjOk X.prog X.w (upd H s.heap.objs.size (.tup [.int (i : Nat), x])) h'' s.heap.objs.size (.tup [.int (i : Nat), x]) :=
      ⟨by show 2 ≤ sizeLine; decide, [.int i tk, x'], .cons ⟨_, rfl⟩ (.cons ru .nil), ⟨_, hT2, rfl, _, rfl⟩⟩
    have I1 : Inv X pins σ (upd H s.heap.objs.size (.tup [.int (i : Nat), x])) { s with heap := h'', toks := tk + 1 } :=
      I.turnedNew (ch := [e, it]) (fun b ob hb q => (sb.2 b (fun z => hb (by simp [z]))).trans (hk b ob (fun z => hb (by simp [z])) (fun z => hb (by simp [z])) q)) hf (Nat.le_refl _) new
    refine ⟨.ref s.heap.objs.size, _, I1, rfl, ⟨_, x, rfl, I.hok.fresh (Nat.le_refl _), rfl, fun ys hy => by rw [I.tuple_inj hy hq]; exact hx⟩, ⟨⟨x', ?_⟩, hst'.1.at fun o q => (sb.2 it (Ne.symm hne)).trans q, hne⟩, fun b hb => ?_⟩
    · have e1 : ((i + 1 : Nat) : Int) = (i : Int) + 1 := by omega
      rw [e1]; exact he'
    · have hb' : b < s.heap.objs.size := by
        have e' : b = e ∨ b = it := by simpa using hb
        rcases e' with z | z
        · rw [z]; exact hel
        · rw [z]; exact hil
      rw [upd_ne (Nat.ne_of_lt hb')]
      exact (hf b hb).1
  done := by
    intro X hP hw hK hc i pins s σ H E I hf st hg
    subst hP hw hK
    obtain ⟨⟨old, he⟩, hit, hne⟩ := st
    obtain ⟨xs, hq, hx⟩ := hg
    obtain ⟨its, rv, p, hz⟩ := I.tuple hq
    obtain ⟨f0, f1, f2, f3, f4, f5⟩ := hf it (by simp)
    have hl := rv.length
    exact wpAny_pyNext_enum_endD (draws_stop (A := X.A.in1) (t := a) (items := its.toArray) (k := i) (I.ok.hd hc) (by simp; omega)) he ⟨rfl, hit, p⟩ fun h' eb => ⟨rfl, I.turned (t' := s.toks) (fun b o hb q => eb b o hb q) f0 f1 f3 f4 f5⟩
  self := fun A i s Q E st h => let ⟨⟨_, he⟩, _⟩ := st; wpAny_pyIter_enum he h
def iEnumT (K : PySem.W.Frag) (ta : TA) : TI := fun σ H R => ta σ H fun vs H1 => ∃ a xs, vs = [.ref a] ∧ ((SqL K H1 a xs ∧ R (Ite K a) H1) ∨ (SqT K H1 a xs ∧ R (IteT K a) H1))
theorem pi_enumA {X : Cx} {e : Expr} {ta : TA} {p pos tpos : Pos} {elts : List Expr} {kk : Nat} (hg : Gl X "enumerate") (hm : X.mg "enumerate" = none) (ha : PA X [e] ta) (hs : starEach [e] X.env = [(false, eval e X.env)] := by rfl) :
    PI X (.Tuple elts kk tpos) (.Call (.Name "enumerate" p) [e] [] pos) (iEnumT X.K ta) := by
  refine ⟨fun pins s σ H R I h => ?_⟩
  refine PyProof.Rows.Call_ (ld_blt I hg hm (show bootBuiltins "enumerate" = some (.type "enumerate") by decide +kernel) (PyProof.Rows.callWith_type1 (thn (ha.run pos pins s σ H _ I h) fun us s1 ⟨vs, H1, I1, r1, q1⟩ => ?_) hs rfl))
  obtain ⟨a, xs, ex, q1⟩ := q1
  subst ex
  cases r1 with
  | cons r rr =>
    cases rr
    cases r
    rcases q1 with ⟨hq, q⟩ | ⟨hq, q⟩
    · obtain ⟨its, rv, p', hz⟩ := I1.list hq
      refine call_enumerate_list p'.isList fun h' he hit hsz hk => wpAny_pyIter_enum he ?_
      have I2 : Inv X pins σ H1 { s1 with heap := h' } := I1.kept (t' := s1.toks) hk
      refine ⟨s1.heap.objs.size + 1, [s1.heap.objs.size + 1, s1.heap.objs.size], _, _, H1, rfl, I2, turn_enum a (s1.heap.objs.size + 1) s1.heap.objs.size, ⟨⟨.none, he⟩, hit, Nat.succ_ne_self _⟩, fun b hb => ?_, q⟩
      have e' : b = s1.heap.objs.size + 1 ∨ b = s1.heap.objs.size := by simpa using hb
      have hle : s1.heap.objs.size ≤ b := by
        rcases e' with z | z
        · rw [z]; exact Nat.le_add_right _ _
        · rw [z]; exact Nat.le_refl _
      exact I1.fpOk hle (I1.hok.fresh hle)
    · obtain ⟨its, rv, p', hz⟩ := I1.tuple hq
      refine call_enumB (begins_tuple a its.toArray) p' fun h' he hit hsz hk => wpAny_pyIter_enum he ?_
      have I2 : Inv X pins σ H1 { s1 with heap := h' } := I1.kept (t' := s1.toks) hk
      refine ⟨s1.heap.objs.size + 1, [s1.heap.objs.size + 1, s1.heap.objs.size], _, _, H1, rfl, I2, turn_enumT a (s1.heap.objs.size + 1) s1.heap.objs.size, ⟨⟨.none, he⟩, ⟨_, hit, rfl, rfl⟩, Nat.succ_ne_self _⟩, fun b hb => ?_, q⟩
      have e' : b = s1.heap.objs.size + 1 ∨ b = s1.heap.objs.size := by simpa using hb
      have hle : s1.heap.objs.size ≤ b := by
        rcases e' with z | z
        · rw [z]; exact Nat.le_add_right _ _
        · rw [z]; exact Nat.le_refl _
      exact I1.fpOk hle (I1.hok.fresh hle)
/-! ### enumerate, read -/
def enumD (xs : List D) : List D := xs.mapIdx fun i d => .tup [.int (i : Nat), d]
theorem enumD_len (xs : List D) : (enumD xs).length = xs.length := by unfold enumD; simp
theorem enumD_get {xs : List D} {i : Nat} {d : D} (h : (enumD xs)[i]? = some d) : ∃ e, xs[i]? = some e ∧ d = .tup [.int (i : Nat), e] := by
  unfold enumD at h
  rw [List.getElem?_mapIdx, Option.map_eq_some_iff] at h
  obtain ⟨e, h1, h2⟩ := h
  exact ⟨e, h1, h2.symm⟩
def iEnumM (as : EvL) : EvI := fun σ h => (as σ h).bind fun ds h1 => match ds with
  | [x] => match itemsOf h1 x with
    | some a => .ok ⟨enumD a.xs, a.chk⟩ h1
    | none => .bad
  | _ => .bad
theorem jok_enum {T : Tb} {F : Hp} {ρ : List Addr} {it1 : ItD} {a : Addr} {t : Bool} (w1 : ∀ pr F' ρ' H' h', Ext F ρ F' ρ' → SR (T.at pr) F' ρ' H' h' → it1.chk h' = true → ∃ vs, LT T.K H' a vs t ∧ Reps T.K F' ρ' it1.xs vs) :
    JOk T F ρ ⟨enumD it1.xs, it1.chk⟩ (if t = true then IteT T.K a else Ite T.K a) := by
  intro i pr F' ρ' H' h' x s hc
  obtain ⟨vs, lt, rs⟩ := w1 pr F' ρ' H' h' x s hc
  have fin : ∀ {d1 d2 : D} {v1 v2 : V} {Tt : Addr}, Rep T.K F' ρ' d1 v1 → Rep T.K F' ρ' d2 v2 → H' Tt = none → ∃ F'' ρ'', Ext F' ρ' F'' ρ'' ∧ SR (T.at pr) F'' ρ'' (upd H' Tt (.tup [v1, v2])) h' ∧ Rep T.K F'' ρ'' (.tup [d1, d2]) (.ref Tt) := by
    intro d1 d2 v1 v2 Tt r1 r2 hn
    obtain ⟨s2, ex⟩ := s.frozen (o := .tup [v1, v2]) hn
    exact ⟨_, _, ex, s2, .tup (.of (upd_same ..)) (.cons (r1.mono ex) (.cons (r2.mono ex) .nil))⟩
  cases t with
  | true =>
    refine ⟨fun d hd => ?_, fun hl => ⟨vs, lt, ?_⟩⟩
    · obtain ⟨d1, e1, rfl⟩ := enumD_get hd
      obtain ⟨v1, hv1, rv1⟩ := rs.get e1
      refine ⟨⟨vs, v1, lt, hv1⟩, ?_⟩
      rintro y H'' ⟨Tt, x1, rfl, hn, rfl, q1⟩
      have z1 := q1 vs lt
      rw [hv1] at z1; cases z1
      exact fin (.int _) rv1 hn
    · have hl : (enumD it1.xs).length ≤ i := hl
      rw [enumD_len, rs.length] at hl; exact hl
  | false =>
    refine ⟨fun d hd => ?_, fun hl => ⟨vs, lt, ?_⟩⟩
    · obtain ⟨d1, e1, rfl⟩ := enumD_get hd
      obtain ⟨v1, hv1, rv1⟩ := rs.get e1
      refine ⟨⟨vs, v1, lt, hv1⟩, ?_⟩
      rintro y H'' ⟨Tt, x1, rfl, hn, rfl, q1⟩
      have z1 := q1 vs lt
      rw [hv1] at z1; cases z1
      exact fin (.int _) rv1 hn
    · have hl : (enumD it1.xs).length ≤ i := hl
      rw [enumD_len, rs.length] at hl; exact hl
section
variable {L : Md → Prop} {n : Nm} {k : Nat} {W : WX} {ow : Str → Bool} {N : List Str} {sc : Scope} {X : Cx} {pos : Pos}
theorem si_enum (c : Cc L n k W ow N sc X) (hg : gloB sc "enumerate" = true) (hm : X.mg "enumerate" = none) {e : Expr} {as : EvL} {p1 tp : Pos} {elts : List Expr} {kk : Nat} (ha : SA X n W [e] as) (hs : starEach [e] X.env = [(false, eval e X.env)])
    (hlen : ∀ σ h ds h', as σ h = .ok ds h' → ds.length = 1) : SI X n W (.Tuple elts kk tp) (.Call (.Name "enumerate" p1) [e] [] pos) (iEnumM as) := by
  refine PI_imp (pi_enumA (c.glo hg) hm ha hs) fun τ H Q q => ?_
  obtain ⟨pr, F, ρ, h, σ, sr, l, p⟩ := q
  refine ⟨_, F, ρ, h, σ, sr, l, ?_⟩
  unfold iEnumM at p
  cases e : as σ h with
  | exc x h' => rw [e] at p; exact p
  | bad => rw [e] at p; exact p
  | ok ds h1 =>
    have e1 := hlen _ _ _ _ e
    rw [e] at p
    intro F' ρ' H' v x s' r
    match ds, r, e1 with
    | [d1], .cons r1 .nil, _ =>
      simp only [Res.bind] at p
      cases i1 : itemsOf h1 d1 with
      | none => rw [i1] at p; exact p.elim
      | some it1 =>
        rw [i1] at p
        obtain ⟨a, rfl, ⟨vs, lt, rs⟩, w1⟩ := isTupB_of s' r1 i1
        have q := p F' ρ' H' x s' _ (jok_enum w1)
        refine ⟨a, vs, rfl, ?_⟩
        cases ht' : isTupB d1 with
        | true => rw [ht'] at lt q; exact .inr ⟨lt, q⟩
        | false => rw [ht'] at lt q; exact .inl ⟨lt, q⟩
end
/-! ### xs.extend(ys) -/
def extendF : Fn := fun ds h => match ds with
  | [.ref m, d] => match boxL h m with
    | some xs => match lstOf h d with
      | some ys => if xs.length + ys.length ≤ lim then .ok .non (h.set m (.lst (xs ++ ys))) else .bad
      | none => .bad
    | none => .bad
  | _ => .bad
theorem extend_noexc : NoExc extendF := fun ds h x h' e => by
  unfold extendF at e
  repeat' split at e
  all_goals cases e
section
variable {n : Nm} {X : Cx}
theorem extend_ok : MtR X "list.extend" (rM (tb X n) extendF) := by
  rintro pins s σ H x vs u us Q I rx r ⟨pr, F, ρ, h, ds, S, rs, p⟩
  unfold extendF at p
  split at p
  · rename_i m d
    split at p
    · rename_i xs hx
      split at p
      · rename_i ys hy
        split at p
        · rename_i hl
          cases rs with
          | cons r1 r2 =>
            cases r2 with
            | cons r2 r3 =>
              cases r3
              cases r1 with
              | ref e =>
                obtain ⟨ws, e3, e4⟩ := boxL_at S e hx
                obtain ⟨b, zs, rfl, g1, q1⟩ := lstOf_rep S r2 hy
                refine mt_extend pins s σ H _ _ u us Q I rx r ⟨_, b, ws, zs, rfl, rfl, e3, g1, ?_, p F ρ _ _ (Ext.refl _ _) (S.putL e e3 (e4.append q1)) .non⟩
                rw [← e4.length, ← q1.length]
                exact lim_ok hl
        · exact p.elim
      · exact p.elim
    · exact p.elim
  · exact p.elim
end
/-! ### len(set(xs)), xs a list of whole numbers -/
def setL (ns : List Int) : List Int := ns.foldl PyProof.Rows.step_dedup []
theorem setL_len (ns : List Int) : (setL ns).length ≤ ns.length := by
  have : ∀ (ns acc : List Int), (ns.foldl PyProof.Rows.step_dedup acc).length ≤ acc.length + ns.length := by
    intro ns
    induction ns with
    | nil => intro acc; simp
    | cons n ns ih =>
      intro acc
      refine Nat.le_trans (ih _) ?_
      unfold PyProof.Rows.step_dedup
      split <;> simp <;> omega
  have := this ns []
  rw [List.length_nil, Nat.zero_add] at this
  exact this
theorem range_getD (ns : List Int) : (List.range ns.length).map (fun i => ns.getD i 0) = ns := by
  refine List.ext_getElem (by simp) fun i h1 h2 => ?_
  simp at h1
  simp [h1]
def tLenSetG (K : PySem.W.Frag) (ta : TE) : TE := fun σ H Q => ta σ H fun x H1 => ∃ (l : Addr) (ns : List Int), x = .ref l ∧ SqL K H1 l (ns.map V.int) ∧ ns.length ≤ 4000 ∧ Q (.int ((setL ns).length : Nat)) H1
theorem pe_lenSetG {X : Cx} {a : Expr} {ta : TE} {p p2 q pos : Pos} (hg : Gl X "len") (hm : X.mg "len" = none) (hg2 : Gl X "set") (hm2 : X.mg "set" = none) (ha : PE X a ta) (hc : X.calm = true)
    (na : starEach [a] X.env = (false, eval a X.env) :: starEach [] X.env) (nb : starEach [.Call (.Name "set" p2) [a] [] q] X.env = (false, eval (.Call (.Name "set" p2) [a] [] q) X.env) :: starEach [] X.env) : PE X (.Call (.Name "len" p) [.Call (.Name "set" p2) [a] [] q] [] pos) (tLenSetG X.K ta) := by
  refine ⟨fun pins s σ H Q I h => ?_⟩
  refine PyProof.Rows.Call_ (ld_blt I hg hm boot_len ?_)
  refine PyProof.Rows.callWith_builtin1 (PyProof.Rows.args_cons ?_ nb) nb rfl
  refine PyProof.Rows.Call_ (ld_blt I hg2 hm2 (show bootBuiltins "set" = some (.type "set") by decide +kernel) ?_)
  refine PyProof.Rows.callWith_type1 (PyProof.Rows.args_cons (thn (ha.run pins s σ H _ I h) fun v s1 ⟨x, H1, I1, r1, q1⟩ => PyProof.Rows.args_nil ?_) na) na rfl
  obtain ⟨l, ns, rfl, hq, hl, q1⟩ := q1
  cases r1
  obtain ⟨its, r, pl, hz⟩ := I1.list hq
  have hlen : its.toArray.size = ns.length := by rw [List.size_toArray, ← r.length, List.length_map]
  refine call_set_list (I1.ok.hd hc) pl.isList (by simpa using RZ.intsAre_vals r) (by rw [hlen]; unfold scanBound; omega) fun h' tk hS hk => ?_
  refine PyProof.Rows.args_nil ?_
  have em : PyProof.Rows.firstMet (fun i => ns.getD i 0) its.toArray.size = setL ns := by
    unfold PyProof.Rows.firstMet setL
    rw [hlen, range_getD]
  rw [em] at hS
  obtain ⟨o, es, ep, t, ho, hex, hd, _, _, _, hf, hn⟩ := hS
  have I2 : Inv X pins σ H1 { s1 with heap := h', toks := tk } := I1.kept fun b o e => hk b o (Heap.lt_size e) e
  have lz := setL_len ns
  exact call_len_set ho hex hd hf (by rw [hn] <;> omega) ⟨.int (setL ns).length, H1, I2.tok _, ⟨_, by rw [hn]⟩, q1⟩
def eLenSet (f : Ev) : Ev := fun σ h => (f σ h).bind fun d h1 => match isTupB d, itemsOf h1 d with
  | false, some it => match asInts it.xs with
    | some ns => if ns.length ≤ 4000 then .ok (.int ((setL ns).length : Nat)) h1 else .bad
    | none => .bad
  | _, _ => .bad
section
variable {L : Md → Prop} {n : Nm} {k : Nat} {W : WX} {ow : Str → Bool} {N : List Str} {sc : Scope} {X : Cx} {pos : Pos}
theorem se_lenSet (c : Cc L n k W ow N sc X) (hg : gloB sc "len" = true) (hm : X.mg "len" = none) (hg2 : gloB sc "set" = true) (hm2 : X.mg "set" = none) {a : Expr} {f : Ev} {p1 p2 q : Pos} (ha : SE X n W a f)
    (na : starEach [a] X.env = (false, eval a X.env) :: starEach [] X.env) (nb : starEach [.Call (.Name "set" p2) [a] [] q] X.env = (false, eval (.Call (.Name "set" p2) [a] [] q) X.env) :: starEach [] X.env) :
    SE X n W (.Call (.Name "len" p1) [.Call (.Name "set" p2) [a] [] q] [] pos) (eLenSet f) := PE_imp (pe_lenSetG (c.glo hg) hm (c.glo hg2) hm2 ha c.calm na nb) fun τ H Q q => by
  obtain ⟨_, F, ρ, h, σ, s, l, p⟩ := q
  refine tM_bind s l p fun F1 ρ1 H1 d h1 v x1 s1 l1 r1 p1 => ?_
  split at p1
  · rename_i it hb hi
    split at p1
    · rename_i ns hns
      split at p1
      · rename_i hl
        obtain ⟨a, rfl, ⟨vs, lt, rs⟩, _⟩ := isTupB_of s1 r1 hi
        rw [hb] at lt
        have e := asInts_eq hns
        rw [e] at rs
        have ev : vs = ns.map V.int := Reps.of_ints rs
        subst ev
        exact ⟨a, ns, rfl, lt, hl, p1 F1 ρ1 H1 _ (Ext.refl _ _) s1 (.int _)⟩
      · exact p1.elim
    · exact p1.elim
  · exact p1.elim
end
/-! ### min, max of a list or a tuple of whole numbers -/
def minA (t : Bool) (xs : List D) (h : MH) : Res D := match asInts xs with
  | some (i :: ns) => .ok (.int (if t = true then PySem.W.minOf i ns else minL (i :: ns))) h
  | _ => .bad
def maxA (t : Bool) (xs : List D) (h : MH) : Res D := match asInts xs with
  | some (i :: ns) => .ok (.int (if t = true then PySem.W.maxOf i ns else maxL (i :: ns))) h
  | _ => .bad
theorem minA_noexc : NoExc (seqF minA) := seq_noexc fun t xs h x h' e => by
  unfold minA at e
  split at e <;> cases e
theorem maxA_noexc : NoExc (seqF maxA) := seq_noexc fun t xs h x h' e => by
  unfold maxA at e
  split at e <;> cases e
section
variable {n : Nm} {X : Cx}
theorem holds_int_of {h : Heap} {v : Value} {m : Int} (H : PySem.W.Holds h v m) : ∃ t, v = .int m t := by
  obtain ⟨as, r⟩ := H
  cases r
  exact ⟨_, rfl⟩
theorem minA_ok (hc : X.calm = true) (hu : X.A.units + 64 < cLine) : CallR X (.builtin "min") (rF (tb X n) (seqF minA)) := seq_ok fun pins s σ H pr F ρ h a b xs ws Q I S lt rs _ p => by
  unfold minA at p
  split at p
  · rename_i i ns e
    rw [asInts_eq e] at rs
    have ew := rs.of_ints
    subst ew
    cases b with
    | false =>
      refine cr_min hc pins s σ H [.ref a] _ Q I (.cons rfl .nil) ⟨a, i :: ns, rfl, lt, by simp, fun m h1 h2 => ?_⟩
      obtain ⟨g1, g2⟩ := minL_mem (i :: ns) (by simp)
      rw [show m = minL (i :: ns) from by have := h2 _ g1; have := g2 m h1; omega]
      exact p F ρ H _ (Ext.refl _ _) S (.int _)
    | true =>
      obtain ⟨its, rv, it, hz⟩ := I.tuple lt
      refine PySem.W.min_tuple_datum (α := Int) (x := i) (xs := ns) (vs := its.toArray) (I.ok.hd hc) it ?_ (by show X.A.units + 1 + 0 < cLine; omega) fun j v h' tk hj hv hk => ?_
      · exact PySem.W.HoldAll.of_ints (by simpa using RZ.intsAre_vals rv)
      · obtain ⟨t, rfl⟩ := holds_int_of hv
        have I2 : Inv X pins σ H { s with heap := h', toks := tk } := I.kept (t' := tk) hk
        exact ⟨.int _, H, I2, ⟨t, rfl⟩, p F ρ H _ (Ext.refl _ _) S (.int _)⟩
  · exact p.elim
theorem maxA_ok (hc : X.calm = true) (hu : X.A.units + 64 < cLine) : CallR X (.builtin "max") (rF (tb X n) (seqF maxA)) := seq_ok fun pins s σ H pr F ρ h a b xs ws Q I S lt rs _ p => by
  unfold maxA at p
  split at p
  · rename_i i ns e
    rw [asInts_eq e] at rs
    have ew := rs.of_ints
    subst ew
    cases b with
    | false =>
      refine cr_max hc pins s σ H [.ref a] _ Q I (.cons rfl .nil) ⟨a, i :: ns, rfl, lt, by simp, fun m h1 h2 => ?_⟩
      obtain ⟨g1, g2⟩ := maxL_mem (i :: ns) (by simp)
      rw [show m = maxL (i :: ns) from by have := h2 _ g1; have := g2 m h1; omega]
      exact p F ρ H _ (Ext.refl _ _) S (.int _)
    | true =>
      obtain ⟨its, rv, it, hz⟩ := I.tuple lt
      refine PySem.W.max_tuple_datum (α := Int) (x := i) (xs := ns) (vs := its.toArray) (I.ok.hd hc) it ?_ (by show X.A.units + 1 + 0 < cLine; omega) fun j v h' tk hj hv hk => ?_
      · exact PySem.W.HoldAll.of_ints (by simpa using RZ.intsAre_vals rv)
      · obtain ⟨t, rfl⟩ := holds_int_of hv
        have I2 : Inv X pins σ H { s with heap := h', toks := tk } := I.kept (t' := tk) hk
        exact ⟨.int _, H, I2, ⟨t, rfl⟩, p F ρ H _ (Ext.refl _ _) S (.int _)⟩
  · exact p.elim
end
/-! ### len of a dict -/
section
variable {prog : Program} {w : World} {A : Around} {E : Value → Shared → Prop} {s : Shared}
theorem meets_lenN (d : Addr) (hd : (d == sysModules) = false) :
    MeetsIn prog w (Builtin.«dict.__len__» ⟨[.ref d], []⟩) (fun _ R s => ∃ xs : KVs Value, DictN w s.heap d xs ∧ R (.ok (.ret (.int xs.length s.toks))) { s with toks := s.toks + 1 }) :=
  .of_wp fun A R s ⟨xs, hm, h⟩ => by
    obtain ⟨o, es, ep, ho, hc, hdat, he, hk, hn⟩ := hm
    show wpAny _ _ (dictSize d >>= _) _ _ s
    unfold dictSize
    refine wpAny_bind (wpAny_bind (wpAny_dictEntries ho hdat (wpAny_pure ?_)))
    show wpAny _ _ (Builtin.Dict.pendingCount d >>= _) _ _ s
    refine wpAny_bind (wpAny_pendingCount_other hd ?_)
    refine wpAny_ret_mkInt ?_
    have e : es.size = xs.length := by rw [← Array.length_toList, he, List.length_map]
    rw [Nat.add_zero, e]; exact h
theorem call_lenN {d : Addr} {xs : KVs Value} {Q : Value → Shared → Prop} (hd : (d == sysModules) = false) (hm : DictN w s.heap d xs) (hfit : (xs.length : Int) < 2 ^ 63)
    (h : Q (.int xs.length (s.toks + 1)) { s with toks := s.toks + 1 + 1 }) : wpAny (model prog w) A (call (.builtin "len") [.ref d]) Q E s := by
  refine Calls.call_function_entry kind_len plain_len entry_len (args_len1 _) ?_
  have ty : s.TypeIs (.ref d) "dict" := by
    obtain ⟨o, es, ep, ho, hc, _⟩ := hm
    exact ⟨o, ho, hc.1⟩
  unfold Builtin.«len»
  refine wpAny_bind (m := oneArg "len" _) (wpAny_pure ?_)
  refine wpAny_bind (m := callSpecial? (.ref d) (Str.ofString "__len__")) (wpAny_callSpecial?_slot (name := Str.ofString "__len__") ty F.slot_dict_len
    (call_meetsIn F.slot_dict_len ty F.entry_dict_len (F.args_dict_len_1 _) (meets_lenN d hd) ⟨xs, hm, ?_⟩))
  show wpAny _ _ _ _ _ { s with toks := s.toks + 1 }
  refine wpAny_bind (wpAny_holding (wpAny_pure ?_))
  refine wpAny_bind (wpAny_letGo ?_)
  show wpAny _ _ (if ((xs.length : Nat) : Int) < 0 then _ else _) _ _ _
  rw [if_neg (by omega)]
  show wpAny _ _ (if ((xs.length : Nat) : Int) ≥ 2 ^ 63 then _ else _) _ _ _
  rw [if_neg (by omega)]
  exact wpAny_bind (wpAny_mkInt (wpAny_pure ⟨_, rfl, h⟩))
end
def lenA : Fn := fun ds h => match ds with
  | [.ref m] => match boxD h m with
    | some kvs => .ok (.int (kvs.length : Nat)) h
    | none => lenF ds h
  | _ => lenF ds h
theorem lenA_noexc : NoExc lenA := fun ds h x h' e => by
  unfold lenA at e
  repeat' split at e
  · cases e
  · exact len_noexc _ _ _ _ e
  · exact len_noexc _ _ _ _ e
theorem lenA_ok {n : Nm} {X : Cx} : CallR X (.builtin "len") (rF (tb X n) lenA) := by
  rintro pins s σ H vs us Q I r ⟨pr, F, ρ, h, ds, S, rs, p⟩
  unfold lenA at p
  split at p
  · rename_i m
    split at p
    · rename_i kvs hk
      match vs, rs with
      | _ :: _, .cons (v := v) r1 .nil =>
        cases r1 with
        | ref e =>
          obtain ⟨ys, k1, k2, k3, k4, _⟩ := dict_at I S e (boxD_at hk)
          obtain ⟨u, rfl, ru⟩ := vals1 r
          obtain rfl : u = .ref _ := ru
          have lz := k1.length
          have e4 : (sizeLine : Nat) = 16777216 := sizeLine_eq
          exact call_lenN k3 k2 (by omega) ⟨.int ys.length, H, I.tok _, ⟨_, rfl⟩, by rw [← lz]; exact p F ρ H _ (Ext.refl _ _) S (.int _)⟩
    · exact len_ok pins s σ H vs us Q I r ⟨pr, F, ρ, h, _, S, rs, p⟩
  · exact len_ok pins s σ H vs us Q I r ⟨pr, F, ρ, h, _, S, rs, p⟩
end MI

/-! MI, part Z: exceptions of own classes with fields, over any built-in one: made. -/
namespace MI
open PySem PySem.Spec L2
/-- what one knows of an own exception class at C -/
structure XC (K : PySem.W.Frag) (C : Addr) (B newId initId : String) (bmB : List Value) : Prop where
  fb : ExcBaseFacts B newId initId bmB
  sf : StoreFacts B bmB "object.__setattr__" "object"
  q : PySem.W.excInitIn K C bmB newId = true
  dct : PySem.W.hasDictIn K C = true
  sa : PySem.W.findIn K (.ref C) "__setattr__" = some (some (.builtin "object.__setattr__"))
  ga : PySem.W.findIn K (.ref C) "__getattribute__" = some (some (.builtin "BaseException.__getattribute__"))
  gg : PySem.W.findIn K (.ref C) "__getattr__" = some none
  sub : PySem.W.subIn K (.ref C) (.type "BaseException") = some true
  ty : PySem.W.typeIn K (.ref C) = some (.type "type")
  kp : PySem.W.keepIn K (.ref C) = true
section
variable {K : PySem.W.Frag} {C : Addr} {B newId initId : String} {bmB : List Value}
theorem XC.obj (T : XC K C B newId initId bmB) : ∃ nm N qn bs bm sn sb ab col dd k0 k1 k2 k3 k5, K.lookup C = some (excClassObj nm qn C N bs bm true sn sb ab col dd k0 k1 k2 k3 k5 newId) ∧ PySem.W.excTail bmB bm = true := by
  have hq := T.q
  have hd := T.dct
  unfold PySem.W.excInitIn at hq
  split at hq
  · rename_i dd cd sl ho
    split at hq
    · rename_i D bm k0 k1 k2 k3 i k5 e1 e2
      simp only [Bool.and_eq_true, beq_iff_eq, Bool.not_eq_true'] at hq
      obtain ⟨⟨⟨rfl, rfl⟩, e3⟩, e4⟩ := hq
      obtain ⟨nm, bs, mro, ns, qn, hdc, sn, sb, ab, col, del⟩ := cd
      dsimp only at e1 e3
      subst e1 e3
      have e5 : sl = #[k0, k1, k2, k3, some (.builtin i), k5] := by
        rw [← e2]
      have e6 : hdc = true := by
        unfold PySem.W.hasDictIn PySem.W.clsIn at hd
        rw [ho] at hd
        exact hd
      subst e5 e6
      exact ⟨nm, ns, qn, bs, bm, sn, sb, ab, col, dd, k0, k1, k2, k3, k5, ho, e4⟩
    · cases hq
  · cases hq
theorem XC.over (T : XC K C B newId initId bmB) : PySem.W.excOver K C bmB = true := by
  obtain ⟨nm, N, qn, bs, bm, sn, sb, ab, col, dd, k0, k1, k2, k3, k5, ho, ht⟩ := T.obj
  unfold PySem.W.excOver PySem.W.clsIn
  rw [ho]
  show (_ == C && PySem.W.excTail bmB bm) = true
  rw [ht, Bool.and_true, beq_iff_eq]
theorem taker_none {f : Str} (h : PySem.W.findIn K (.ref C) f = some none) : PySem.W.takerIn K C f = some none := by
  unfold PySem.W.takerIn
  rw [h]
  rfl
section
open PySem.Builtin PySem.Builtin.ObjectAttr
variable {prog : Program} {w : World} {A : Around} {R : Result → Shared → Prop} {hp : Heap} {g : Array GenState} {dr : Drawn} {t : Nat} {os : OsState}
/-- the first field of an exception: its dict is made -/
theorem field_first (T : XC K C B newId initId bmB) (kin : K.In hp) {x : Addr} {fv : Array Value} (ex : hp.get? x = some { cls := .ref C, dict := none, data := .fields fv }) {f : Str} {tk : Tok} {v : Value} (no : PySem.W.findIn K (.ref C) f = some none)
    (k : ∀ h' tk' dx, (∀ b o, b ≠ x → hp.get? b = some o → h'.get? b = some o) → hp.objs.size ≤ dx → dx ≠ x → h'.get? x = some { cls := .ref C, dict := some dx, data := .fields fv } → h'.Ns1 dx (fun y => if y = f then some v else none) → R (.ok (.ret .none)) ⟨h', g, dr, tk', os⟩) :
    codeAny (model prog w) A (.call (.builtin "object.__setattr__") ⟨[.ref x, .str f tk, v], []⟩) R ⟨hp, g, dr, t, os⟩ := by
  obtain ⟨nm, N, qn, bs, bm, sn, sb, ab, col, dd, k0, k1, k2, k3, k5, ho, ht⟩ := T.obj
  have hcls : PySem.W.Looks (model prog w) hp (classData C) _ := PySem.W.looks_clsIn kin (by unfold PySem.W.clsIn; rw [ho])
  have xs : x ≠ hp.objs.size := Nat.ne_of_lt (Heap.lt_size ex)
  refine PySem.W.osa_openX (s := ⟨hp, g, dr, t, os⟩) (od := none) T.sf kin ⟨ex, rfl, rfl, trivial⟩ T.over (taker_none no) fun b => ?_
  dsimp only
  unfold storeInOwnDict ownDictForStores
  repeat (first | with_reducible refine PySem.HandSPX.store_in_new ?_ ?_ | with_reducible refine wpAny_loadPart_at ex ?_ | with_reducible refine hcls.at ?_ | wp_step)
  · exact ⟨_, #[], _, (Heap.get?_update_ne _ _ _ _ xs.symm).trans (Heap.get?_push_at rfl rfl), rfl, fun e z => absurd z (by simp), fun _ => rfl⟩
  · intro h2 tk2 ns2 same2
    have ex2 : (hp.push { cls := .type "dict", data := .dict #[] }).get? x = some { cls := .ref C, data := .fields fv } := Heap.get?_push_of_some _ ex
    refine k h2 tk2 hp.objs.size (fun b o hb e => ?_) (Nat.le_refl _) xs.symm ?_ ns2
    · rw [same2.2 b (Nat.ne_of_lt (Heap.lt_size e)), Heap.get?_update_ne _ _ _ _ hb]
      exact Heap.get?_push_of_some _ e
    · rw [same2.2 x xs]
      exact Heap.get?_update_self _ ex2 rfl
/-- a further one -/
theorem field_more (T : XC K C B newId initId bmB) (kin : K.In hp) {x dx : Addr} {fv : Array Value} (ex : hp.get? x = some { cls := .ref C, dict := some dx, data := .fields fv }) {m0 : Str → Option Value} {nl : List Str} (ns : hp.Ns1 dx m0) (hw : Within m0 nl) (hz : nl.length ≤ 1000) {f : Str} {tk : Tok} {v : Value} (no : PySem.W.findIn K (.ref C) f = some none)
    (k : ∀ h' tk', (∀ b o, b ≠ dx → hp.get? b = some o → h'.get? b = some o) → h'.Ns1 dx (fun y => if y = f then some v else m0 y) → R (.ok (.ret .none)) ⟨h', g, dr, tk', os⟩) :
    codeAny (model prog w) A (.call (.builtin "object.__setattr__") ⟨[.ref x, .str f tk, v], []⟩) R ⟨hp, g, dr, t, os⟩ := by
  obtain ⟨nm, N, qn, bs, bm, sn, sb, ab, col, dd, k0, k1, k2, k3, k5, ho, ht⟩ := T.obj
  have hcls : PySem.W.Looks (model prog w) hp (classData C) _ := PySem.W.looks_clsIn kin (by unfold PySem.W.clsIn; rw [ho])
  obtain ⟨oD, _, _, eD, _, _⟩ := ns.count hw
  refine PySem.W.osa_openX (s := ⟨hp, g, dr, t, os⟩) (od := some oD) T.sf kin ⟨ex, rfl, rfl, eD⟩ T.over (taker_none no) fun b => ?_
  dsimp only
  unfold storeInOwnDict ownDictForStores
  repeat (first | with_reducible refine PySem.OEX.store_in_old ns hw hz ?_ | with_reducible refine wpAny_loadPart_at ex ?_ | with_reducible refine hcls.at ?_ | wp_step)
  intro h2 tk2 ns2 same2
  exact k h2 tk2 (fun b o hb e => (same2.2 b hb).trans e) ns2
end
end
end MI
namespace MI
open PySem PySem.Spec L2
section
variable {X : Cx} {pins : List (Addr × Obj)} {σ : Tv} {H : Hp} {s : Shared} {a C dx : Addr} {B newId initId : String} {bmB : List Value} {f : Str} {y : V} {u : Value} {fs : List (Str × V)} {E : Value → Shared → Prop} {A : Around}
/-- self.f = y, as the first -/
theorem x_first {Q : Unit → Shared → Prop} (T : XC X.K C B newId initId bmB) (I : Inv X pins σ H s) (ea : H a = some (exo a C none)) (no : PySem.W.findIn X.K (.ref C) f = some none) (ry : RelV y u)
    (h : ∀ dx s', H dx = none → dx ≠ a → Inv X pins σ (upd (upd H dx (exd dx [(f, y)])) a (exo a C (some dx))) s' → Q () s') : wpAny (model X.prog X.w) A (setAttr (.ref a) f u) Q E s := by
  obtain ⟨t1, oa⟩ := exo_at I.hok ea
  obtain ⟨hp, g, dr, t, os⟩ := s
  refine PySem.W.set_plain I.kIn (od := none) ⟨oa, rfl, rfl, trivial⟩ T.sa (field_first T I.kIn oa no fun h' tk' dx kp ge ne ex ns => ?_)
  have hd : H dx = none := I.hok.fresh ge
  have nd : ∀ {b : Addr} {o : Obj}, hp.get? b = some o → b ≠ dx := fun e => Nat.ne_of_lt (Nat.lt_of_lt_of_le (Heap.lt_size e) ge)
  have na : ∀ {b : Addr}, H b = none → b ≠ a := fun e z => by rw [z, ea] at e; cases e
  have other : ∀ {b : Addr} {v : HO}, H b = some v → exo a C none ≠ v → (upd (upd H dx (exd dx [(f, y)])) a (exo a C (some dx))) b = some v := fun e ne' => by
    rw [upd_ne (at_ne ea e ne'), upd_ne (ne_of_none e hd)]
    exact e
  refine h dx _ hd ne (I.un (t' := tk') ⟨fun b o e n _ _ => kp b o (na n) e, fun b o e n _ _ => ⟨o.slots, kp b o (na n) e⟩, fun b o e n _ => ?_, fun b o e _ => ?_, fun b xs e => other e exo_tup, fun b o v e => other e exo_frz, fun b ps e => ⟨#[], ?_⟩⟩ fun b o e => ?_)
  · rw [upd_ne (na n), upd_ne (nd e)]
    exact n
  · by_cases hb : b = a
    · rw [hb]; exact ⟨_, ex⟩
    · exact ⟨o, kp b o hb e⟩
  · rw [other e exo_tbl]
    simp
  · by_cases hb : b = a
    · subst hb
      rw [upd_same] at e
      cases e
      exact exo_ok ex
    · rw [upd_ne hb] at e
      by_cases hb2 : b = dx
      · subst hb2
        rw [upd_same] at e
        cases e
        exact exd_ok ns (relO_put (fs := []) ry fun _ => True.intro)
      · rw [upd_ne hb2] at e
        refine (I.hok b o e).stay (fun c v hc z => kp c v ?_ z) (fun c hc => other hc exo_own) fun c xs hc => other hc exo_tup
        rcases hc with hc | hc
        · rw [hc]; exact hb
        · exact at_ne ea hc exo_own
/-- .. as a further one -/
theorem x_more {Q : Unit → Shared → Prop} (T : XC X.K C B newId initId bmB) (I : Inv X pins σ H s) (ea : H a = some (exo a C (some dx))) (ed : H dx = some (exd dx fs)) (hl : fs.length ≤ 900) (no : PySem.W.findIn X.K (.ref C) f = some none) (ry : RelV y u)
    (h : ∀ s', Inv X pins σ (upd H dx (exd dx ((f, y) :: fs))) s' → Q () s') : wpAny (model X.prog X.w) A (setAttr (.ref a) f u) Q E s := by
  obtain ⟨t1, oa⟩ := exo_at I.hok ea
  obtain ⟨mA, ns, rel⟩ := exd_at I.hok ed
  obtain ⟨hp, g, dr, t, os⟩ := s
  obtain ⟨oD, _, _, eD, _, _⟩ := ns.count (within_of rel)
  refine PySem.W.set_plain I.kIn (od := some oD) ⟨oa, rfl, rfl, eD⟩ T.sa (field_more T I.kIn oa ns (within_of rel) (by rw [List.length_map]; omega) no fun h' tk' kp ns' => ?_)
  refine h _ (I.write (t' := tk') (x := dx) (e := dx) (o := exd dx ((f, y) :: fs)) (by rw [ed]; exact True.intro) (.inl rfl) kp ?_ (exd_ok ns' (relO_put ry rel)))
  obtain ⟨o, _, _, e, _⟩ := ns'
  exact ⟨o, e⟩
/-- the base's __init__(self, ..) -/
theorem x_init {Q : Value → Shared → Prop} {us : List Value} (T : XC X.K C B newId initId bmB) (I : Inv X pins σ H s) (ea : H a = some (exo a C none)) (hl : us.length ≤ sizeLine) (h : ∀ s', Inv X pins σ H s' → Q .none s') :
    wpAny (model X.prog X.w) A (call (.builtin initId) (.ref a :: us)) Q E s := by
  obtain ⟨nm, N, qn, bs, bm, sn, sb, ab, col, dd, k0, k1, k2, k3, k5, ho, ht⟩ := T.obj
  obtain ⟨t1, oa⟩ := exo_at I.hok ea
  obtain ⟨hp, g, dr, t, os⟩ := s
  refine wpAny_call (PySem.HandSPX.init_base T.fb (fun Y => PySem.W.excTail_contains Y bm ht) (I.kIn _ _ ho) oa hl fun h' t2 kp ex => ?_)
  have J := I.write (t' := t) (x := a) (e := a) (o := exo a C none) (by rw [ea]; exact True.intro) (.inl rfl) kp ⟨_, ex⟩ (exo_ok ex)
  have same : upd H a (exo a C none) = H := funext fun b => by
    by_cases hb : b = a
    · rw [hb, upd_same, ea]
    · rw [upd_ne hb]
  rw [same] at J
  exact h _ J
end
end MI
namespace MI
open PySem PySem.Spec L2
/-- a name whose __init__ is that of the built-in class: an own class without one, or the built-in class -/
inductive XB (K : PySem.W.Frag) (mg : Str → Option Value) (b : Str) (initId : String) : Prop
  | own (D : Addr) : mg b = some (.ref D) → PySem.W.readsIn K D (.type "type") = true → PySem.W.specialIn K (.ref D) "__getattribute__" = some (some (.builtin "type.__getattribute__")) →
      PySem.W.findCls K (.ref D) (.type "type") "__init__" = some (.val (.builtin initId)) → XB K mg b initId
  | blt (T : String) : mg b = none → bootBuiltins b = some (.type T) → b ≠ "__name__" → typeOf (.type T) = pure (.type "type") → Manifest.isStub T = false →
      PySem.W.findCls K (.type T) (.type "type") "__init__" = some (.val (.builtin initId)) → XB K mg b initId
section
variable {X : Cx} {b f f2 : Str} {e : Expr} {es : List Expr} {ta : TA} {to te : TE} {B newId initId : String} {bmB : List Value} {C : Addr} {p p1 p2 p3 pos : Pos}
theorem x_bcall {pl : Sem Bool} (hb : XB X.K X.mg b initId) (hi : PySem.W.handedIn (.builtin initId) = true) (hg : Gl X b) (hd : (b == ("__debug__" : Str)) = false) (ha : PA X (e :: es) ta)
    (hc : eval (.Call (.Attribute (.Name b p1) "__init__" p2) (e :: es) [] pos) X.env = (do
      let ov ← eval (.Name b p1) X.env
      standAt p2.atName
      let (f, first) ← holding [ov] (getMethod ov "__init__" pl)
      callWith pos f first (backTo pos (starEach (e :: es) X.env)) (backToKw pos (keywordEach [] X.env))))
    (he : starEach (e :: es) X.env = (false, eval e X.env) :: starEach es X.env) (hpl : (backTo pos (starEach es X.env)).any (·.1) = false) :
    PE X (.Call (.Attribute (.Name b p1) "__init__" p2) (e :: es) [] pos) (fun σ H Q => ta σ H fun vs H1 => ∃ (a C : Addr) (ws : List V) (B newId : String) (bmB : List Value), vs = .ref a :: ws ∧ ws.length ≤ 1000 ∧ XC X.K C B newId initId bmB ∧ H1 a = some (exo a C none) ∧ Q .non H1) := by
  refine ⟨fun pins s σ H Q I h => ?_⟩
  have fin : ∀ {s0 : Shared}, Inv X pins σ H s0 → wpAny (model X.prog X.w) X.A (callWith pos (Value.builtin initId) [] (backTo pos (starEach (e :: es) X.env)) []) (EP X pins σ Q) X.xe s0 := fun {s0} I0 =>
    PyProof.Rows.callWith_method1 (thn (ha.run pos pins _ σ H _ I0 h) fun us s1 ⟨vs, H1, I1, r1, a, C, ws, B, newId, bmB, ev, hl, T, ea, q⟩ => by
      subst ev
      cases r1 with
      | @cons _ u0 _ ur ra rw' =>
        obtain rfl : u0 = Value.ref a := ra
        exact x_init T I1 ea (by rw [← Paired.length rw', sizeLine_eq]; omega) fun s' J => ⟨.non, H1, J, rfl, q⟩) he hpl
  cases hb with
  | own D h1 h2 h3 h4 => exact PySem.W.methodCall_KW (ld_glob I hg h1 (PySem.W.method_cls I.kIn h3 (PySem.W.cls_value I.kIn h2 h4 hi (fin (I.tok _)))) hd) hc
  | blt T h1 h2 h3 h4 h5 h6 =>
    obtain ⟨m, fr⟩ := I.fr
    exact PySem.W.methodCall_KW (ld_blt I hg h1 h2 (PySem.W.method_type fr I.ok.mod.kin h4 h5 h6 hi (fin (I.tok _))) h3 hd) hc
/-- self.f = e of an exception that is being made -/
def tXS (K : PySem.W.Frag) (f : Str) (to te : TE) : TS := fun D σ H => te σ H fun y H1 => to σ H1 fun x H2 => ∃ (a C : Addr) (B newId initId : String) (bmB : List Value), x = .ref a ∧ XC K C B newId initId bmB ∧ PySem.W.findIn K (.ref C) f = some none ∧
  ((H2 a = some (exo a C none) ∧ ∀ dx, H2 dx = none → dx ≠ a → D.nx σ (upd (upd H2 dx (exd dx [(f, y)])) a (exo a C (some dx)))) ∨
    ∃ (dx : Addr) (fs : List (Str × V)), H2 a = some (exo a C (some dx)) ∧ H2 dx = some (exd dx fs) ∧ fs.length ≤ 900 ∧ D.nx σ (upd H2 dx (exd dx ((f, y) :: fs))))
theorem x_set {o : Expr} (ho : PE X o to) (he : PE X e te) (hs : swapsWith e (some (.Attribute o f p)) pos.line X.env = pure false) : PS X (.Assign [.Attribute o f p] e pos) (tXS X.K f to te) := by
  refine ⟨fun pins s σ H D I h => ?_⟩
  refine plainObj_wpAny_Assign_Attribute (thn (he.run pins s σ H _ I h) fun v s1 ⟨y, H1, I1, r1, q1⟩ => thn (ho.run pins s1 σ H1 _ I1 q1) fun u s2 ⟨x, H2, I2, r2, a, C, B, newId, initId, bmB, ex, T, no, q⟩ => ?_) hs
  subst ex
  obtain rfl : u = Value.ref a := r2
  rcases q with ⟨ea, q⟩ | ⟨dx, fs, ea, ed, hl, q⟩
  · exact x_first T I2 ea no r1 fun dx s' n ne J => ⟨σ, _, J, q dx n ne⟩
  · exact x_more T I2 ea ed hl no r1 fun s' J => ⟨σ, _, J, q⟩
end
/-- what __init__(self, f1, ..) of an own exception class leaves -/
def spX (C : Addr) (fl : List Str) : Sp := fun vs H Q _ => ∃ (a : Addr) (us : List V), vs = .ref a :: us ∧ us.length = fl.length ∧ H a = some (exo a C none) ∧
  ∀ (d : Addr) (H' : Hp), H d = none → d ≠ a → H' d = some (exd d (fl.zip us).reverse) → H' a = some (exo a C (some d)) → (∀ b, b ≠ d → b ≠ a → H' b = H b) → Q .non H'
/-- how B.__init__(self, "m") is read -/
def ShapeX (b m : Str) (j : Nat) (p1 p2 p3 p4 p5 : Pos) : Prop := ∀ env : Env, env.scope.kind = .function → ∃ pl : Sem Bool, eval (.Call (.Attribute (.Name b p1) "__init__" p2) [.Name "self" p3, .Constant (.str m) j p4] [] p5) env = (do
      let ov ← eval (.Name b p1) env
      standAt p2.atName
      let (f, first) ← holding [ov] (getMethod ov "__init__" pl)
      callWith p5 f first (backTo p5 (starEach [.Name "self" p3, .Constant (.str m) j p4] env)) (backToKw p5 (keywordEach [] env)))
def bodyX (b m f : Str) (j : Nat) (p1 p2 p3 p4 p5 p6 q1 q2 q3 q4 : Pos) : List Stmt :=
  [.Expr (.Call (.Attribute (.Name b p1) "__init__" p2) [.Name "self" p3, .Constant (.str m) j p4] [] p5) p6, .Assign [.Attribute (.Name "self" q1) f q2] (.Name f q3) q4]
theorem gl_of {CX : CXT} {P : Program} {w : World} {K : PySem.W.Frag} {mg : Str → Option Value} {base : Heap} {N : List Str} {qual b : Str} {sc : Scope} {f : Addr} {cdv : Value} {A : Around} {o : List Env} {s : Shared} {H : Hp} {E : XK}
    (h : sc.names.lookup b = some .globalImplicit) : Gl (cxOf CX P w K mg base N qual sc f cdv A o s H E) b := h
theorem x_init1 {P : Program} {w : World} {K : PySem.W.Frag} {mg : Str → Option Value} {base : Heap} {qual : Str} {params : Arguments} {sc : Scope} {fI C : Addr} {fd : FuncData} {b m f : Str} {j : Nat} {p1 p2 p3 p4 p5 p6 q1 q2 q3 q4 : Pos} {B newId initId : String} {bmB : List Value}
    (FD : FunD K "__init__" qual params (bodyX b m f j p1 p2 p3 p4 p5 p6 q1 q2 q3 q4) sc [] [] fI fd) (S : FnScope ["self", f] ["self", f] sc) (T : XC K C B newId initId bmB) (hb : XB K mg b initId) (hi : PySem.W.handedIn (.builtin initId) = true) (hsx : ShapeX b m j p1 p2 p3 p4 p5)
    (gb : sc.names.lookup b = some .globalImplicit) (ls : sc.names.lookup ("self" : Str) = some .local) (lf : sc.names.lookup f = some .local) (no : PySem.W.findIn K (.ref C) f = some none) (n1 : (b == ("__debug__" : Str)) = false) (n2 : (f == ("__debug__" : Str)) = false) (n3 : (f == ("__classdict__" : Str)) = false) :
    FnOk P w K mg base CX0 1 fI fd ["self", f] (spX C [f]) := by
  refine FunD.ok FD S (fun vs H Q E ⟨a, us, e, l, _⟩ => by subst e; simpa using l) fun cdv A outer s H vs Q E hr hsp => ?_
  obtain ⟨a, us, e, l, ea, q⟩ := hsp
  obtain ⟨pl, hc⟩ := hsx (cxOf CX0 P w K mg base ["self", f] qual sc fI cdv A outer s H E).env S.kind
  refine ⟨_, pss_cons (ps_expr (x_bcall (initId := initId) hb hi (gl_of gb) n1 (pa_cons (pe_var (i := 0) rfl (.inl ls) (by decide) (by decide)) (pa_cons pe_str pa_nil)) hc rfl rfl) rfl) (pss_one (x_set (pe_var (i := 0) rfl (.inl ls) (by decide) (by decide)) (pe_var (i := 1) rfl (.inl lf) n2 n3) rfl)), ?_⟩
  subst e
  match us, l with
  | [y], _ =>
    refine ⟨_, rfl, a, C, [.str m], B, newId, bmB, rfl, (show 1 ≤ 1000 by decide), T, ea, _, rfl, _, rfl, a, C, B, newId, initId, bmB, rfl, T, no, .inl ⟨ea, fun d hd ne => ?_⟩⟩
    exact q d _ hd ne (by rw [upd_ne ne, upd_same]; rfl) (by rw [upd_same]) fun b h1 h2 => by rw [upd_ne h2, upd_ne h1]
/-- .. with two fields -/
def bodyX2 (b m f f2 : Str) (j : Nat) (p1 p2 p3 p4 p5 p6 q1 q2 q3 q4 r1 r2 r3 r4 : Pos) : List Stmt :=
  [.Expr (.Call (.Attribute (.Name b p1) "__init__" p2) [.Name "self" p3, .Constant (.str m) j p4] [] p5) p6, .Assign [.Attribute (.Name "self" q1) f q2] (.Name f q3) q4, .Assign [.Attribute (.Name "self" r1) f2 r2] (.Name f2 r3) r4]
theorem x_init2 {P : Program} {w : World} {K : PySem.W.Frag} {mg : Str → Option Value} {base : Heap} {qual : Str} {params : Arguments} {sc : Scope} {fI C : Addr} {fd : FuncData} {b m f f2 : Str} {j : Nat} {p1 p2 p3 p4 p5 p6 q1 q2 q3 q4 r1 r2 r3 r4 : Pos} {B newId initId : String} {bmB : List Value}
    (FD : FunD K "__init__" qual params (bodyX2 b m f f2 j p1 p2 p3 p4 p5 p6 q1 q2 q3 q4 r1 r2 r3 r4) sc [] [] fI fd) (S : FnScope ["self", f, f2] ["self", f, f2] sc) (T : XC K C B newId initId bmB) (hb : XB K mg b initId) (hi : PySem.W.handedIn (.builtin initId) = true) (hsx : ShapeX b m j p1 p2 p3 p4 p5)
    (gb : sc.names.lookup b = some .globalImplicit) (ls : sc.names.lookup ("self" : Str) = some .local) (lf : sc.names.lookup f = some .local) (lf2 : sc.names.lookup f2 = some .local) (no : PySem.W.findIn K (.ref C) f = some none) (no2 : PySem.W.findIn K (.ref C) f2 = some none)
    (n1 : (b == ("__debug__" : Str)) = false) (n2 : (f == ("__debug__" : Str)) = false) (n3 : (f == ("__classdict__" : Str)) = false) (n4 : (f2 == ("__debug__" : Str)) = false) (n5 : (f2 == ("__classdict__" : Str)) = false) :
    FnOk P w K mg base CX0 1 fI fd ["self", f, f2] (spX C [f, f2]) := by
  refine FunD.ok FD S (fun vs H Q E ⟨a, us, e, l, _⟩ => by subst e; simpa using l) fun cdv A outer s H vs Q E hr hsp => ?_
  obtain ⟨a, us, e, l, ea, q⟩ := hsp
  obtain ⟨pl, hc⟩ := hsx (cxOf CX0 P w K mg base ["self", f, f2] qual sc fI cdv A outer s H E).env S.kind
  refine ⟨_, pss_cons (ps_expr (x_bcall (initId := initId) hb hi (gl_of gb) n1 (pa_cons (pe_var (i := 0) rfl (.inl ls) (by decide) (by decide)) (pa_cons pe_str pa_nil)) hc rfl rfl) rfl) (pss_cons (x_set (pe_var (i := 0) rfl (.inl ls) (by decide) (by decide)) (pe_var (i := 1) rfl (.inl lf) n2 n3) rfl) (pss_one (x_set (pe_var (i := 0) rfl (.inl ls) (by decide) (by decide)) (pe_var (i := 2) rfl (.inl lf2) n4 n5) rfl))), ?_⟩
  subst e
  match us, l with
  | [y, z], _ =>
    refine ⟨_, rfl, a, C, [.str m], B, newId, bmB, rfl, (show 1 ≤ 1000 by decide), T, ea, _, rfl, _, rfl, a, C, B, newId, initId, bmB, rfl, T, no, .inl ⟨ea, fun d hd ne => ?_⟩⟩
    refine ⟨_, rfl, _, rfl, a, C, B, newId, initId, bmB, rfl, T, no2, .inr ⟨d, [(f, y)], by rw [upd_same], by rw [upd_ne ne, upd_same], (show 1 ≤ 900 by decide), ?_⟩⟩
    exact q d _ hd ne (by rw [upd_same]; rfl) (by rw [upd_ne ne.symm, upd_same]) fun b h1 h2 => by rw [upd_ne h1, upd_ne h2, upd_ne h1]
end MI
namespace MI
open PySem PySem.Spec L2
section
variable {X : Cx} {x : Str} {C fI : Addr} {fl ps : List Str} {fd : FuncData} {e : Expr} {es : List Expr} {ta : TA} {B newId initId : String} {bmB : List Value} {p pos : Pos}
/-- C(e, ..), an own exception class with fields -/
theorem x_made (T : XC X.K C B newId initId bmB) (iC : PySem.W.findIn X.K (.ref C) "__init__" = some (some (.ref fI))) (tI : PySem.W.typeIn X.K (.ref fI) = some (.type "function")) (F1 : FnOk X.prog X.w X.K X.mg X.base CX0 1 fI fd ps (spX C fl))
    (hr : Room 2 X.A) (hb : Binds X.K fd ps []) (hg : Gl X x) (hm : X.mg x = some (.ref C)) (hd : (x == ("__debug__" : Str)) = false) (ha : PA X (e :: es) ta)
    (he : starEach (e :: es) X.env = (false, eval e X.env) :: starEach es X.env) (hpl : (backTo pos (starEach es X.env)).any (·.1) = false) :
    PMk X (.Call (.Name x p) (e :: es) [] pos) (fun σ H Q => ta σ H fun vs H1 => (vs.length = fl.length ∧ vs.length ≤ 1000) ∧ ∀ d, H1 d = none → Q (.ref C) (some d) (upd H1 d (.xd (fl.zip vs).reverse))) := by
  intro pins s σ H Q I h
  obtain ⟨nm, N, qn, bs, bm, sn, sb, ab, col, dd, k0, k1, k2, k3, k5, oC, tail⟩ := T.obj
  refine wpAny_Call_Name_kw (ld_glob I hg hm ?_ hd)
  refine PySem.W.callWith_K (h₀ := X.base) I.ok.mod.kin T.kp (thn (ha.run pos pins s σ H _ I h) fun us s1 hh => ?_) he hpl
  obtain ⟨vs, H1, I1, r1, ⟨l1, l2⟩, q1⟩ := hh
  refine ⟨I1.kIn, ?_⟩
  show wpAny _ _ (call (.ref C) us) _ _ _
  obtain ⟨hp, g, dr, tk, os⟩ := s1
  generalize ea : hp.objs.size + 1 = a
  have big : hp.objs.size ≤ a := by omega
  have fresh : H1 a = none := I1.hok.fresh big
  have old : ∀ b o, hp.get? b = some o → ((hp.push (PySem.W.kdv_tup us)).push (PySem.HandSPX.excO C hp.objs.size)).get? b = some o := fun b o z => Heap.get?_push_of_some _ (Heap.get?_push_of_some _ z)
  have at_ : ((hp.push (PySem.W.kdv_tup us)).push (PySem.HandSPX.excO C hp.objs.size)).get? a = some (PySem.HandSPX.excO C hp.objs.size) := by
    rw [← ea]
    heap_get
  have J : Inv X pins σ (upd H1 a (exo a C none)) ⟨(hp.push (PySem.W.kdv_tup us)).push (PySem.HandSPX.excO C hp.objs.size), g, dr, tk, os⟩ := I1.laid (t' := tk) old big (exo_ok at_)
  have sp : spX C fl (.ref a :: vs) (upd H1 a (exo a C none)) (fun v H2 => v = .non ∧ ∃ (d : Addr) (fs : List (Str × V)), H2 a = some (exo a C (some d)) ∧ H2 d = some (exd d fs) ∧ H1 d = none ∧ Q (.ref C) (some d) (upd (del H2 a) d (.xd fs))) (fun _ _ _ => False) := by
    refine ⟨a, vs, rfl, l1, by rw [upd_same], fun d H' z1 z2 z3 z4 z5 => ⟨rfl, d, _, z4, z3, by rw [upd_ne z2] at z1; exact z1, ?_⟩⟩
    rw [upd_ne z2] at z1
    have same : upd (del H' a) d (.xd (fl.zip vs).reverse) = upd H1 d (.xd (fl.zip vs).reverse) := funext fun b => by
      by_cases h1 : b = d
      · rw [h1, upd_same, upd_same]
      · rw [upd_ne h1, upd_ne h1]
        by_cases h2 : b = a
        · rw [h2, del_same, fresh]
        · rw [del_ne h2, z5 b h1 h2, upd_ne h2]
    rw [same]
    exact q1 d z1
  have r2 : Vals (V.ref a :: vs) (Value.ref a :: us) := .cons rfl r1
  have pl : (Value.ref a :: us).length = ps.length := by rw [← r2.length, F1.len _ _ _ _ sp]
  have bt := hb ⟨(hp.push (PySem.W.kdv_tup us)).push (PySem.HandSPX.excO C hp.objs.size), g, dr, tk, os⟩ (Value.ref a :: us) J.kIn (by rw [List.append_nil]; exact pl)
  rw [List.append_nil] at bt
  subst ea
  refine wpAny_call (PySem.HandSPX.call_own T.fb (fun Y => PySem.W.excTail_contains Y bm tail) (I1.kIn _ _ oC) (PySem.W.looks_findIn I1.kIn iC) (fun self => PySem.W.bind_fn I1.kIn self tI) (by rw [← r1.length, sizeLine_eq]; omega)
    (codeAny_mono (F1.run _ X.stack _ _ ⟨Value.ref (hp.objs.size + 1) :: us, []⟩ (Value.ref (hp.objs.size + 1) :: us) _ _ (fun _ _ _ => False) ((hr.make C us [])) (J.env0.make C us []) bt r2 sp) fun r s' z => ?_))
  cases r with
  | error er => exact False.elim z
  | ok fin =>
    cases fin with
    | ret u =>
      obtain ⟨v, H2, o2, b2, un2, k2', rv, ev, d, fs, e1, e2, e3, q2⟩ := z
      subst ev
      obtain ⟨h2, g2, d2, t2, os'⟩ := s'
      exact ⟨rv, mk_end (raises_own T.sub T.ty) I1 big old un2 k2' o2 b2 e1 e2 e3 q2⟩
    | next => exact False.elim z
    | brk => exact False.elim z
    | cont => exact False.elim z
/-- C(), an own exception class without __init__ -/
theorem x_made0 (F : ExcBaseFacts B newId initId bmB) (q : PySem.W.excIn X.K C bmB newId = true) (kC : PySem.W.keepIn X.K (.ref C) = true) (r : Raises X (.ref C)) (hg : Gl X x) (hm : X.mg x = some (.ref C)) (hd : (x == ("__debug__" : Str)) = false) :
    PMk X (.Call (.Name x p) [] [] pos) (fun _ H Q => Q (.ref C) none H) := by
  intro pins s σ H Q I h
  refine wpAny_Call_Name_kw (ld_glob I hg hm ?_ hd)
  refine PySem.W.callWith_K0 I.kIn kC ?_
  show wpAny _ _ (call (.ref C) []) _ _ _
  obtain ⟨bm, N, nm, qn, bs, hdct, sn, sb, ab, col, dd, k0, k1, k2, k3, k5, mN, oC, nN, nI, T⟩ := exc_obj I.kIn q
  exact wpAny_call_exc_subT F T oC nN nI (fun h' e m => mk_of I m r h (I.hok.gone m.new)) (Nat.zero_le _)
end
end MI

/-! MI, part ZA: try with except clauses, whose exception may be kept. -/
namespace MI
open PySem PySem.Spec L2
theorem excO_ok {P : Program} {w : World} {H : Hp} {h : Heap} {a : Addr} {cls : Value} {dd : Option Addr} {oe : Obj} {vs : Array Value} (e : h.get? a = some oe) (z : Zc cls dd oe) (d : oe.data = .fields vs) : ObjOk P w H h a (ExcO cls dd a) :=
  ⟨⟨oe, vs, e, z, d⟩, ⟨oe, e⟩, fun h1 h2 ⟨o, v, q, r⟩ k => ⟨o, v, k o q, r⟩⟩
section
variable {X : Cx} {pins : List (Addr × Obj)} {σ : Tv} {H : Hp} {sI s' : Shared} {a : Addr} {B : Heap} {cls : Value} {d : Option Addr}
/-- the exception that was caught stands in the heap from now on -/
theorem inv_keep {h4 : Heap} {L : List Env} (I : Inv X pins σ H sI) (nb : ∀ b o, sI.heap.get? b = some o → b ∉ frs X.stack → B.get? b = some o) (fl : PySem.HandSPX.FlyingZ B L a (Zc cls d) h4) (up : sI.heap.UpToSlots h4) (os : s'.os = sI.os) (ag : PyProof.Rows.AllBare s'.gens)
    (nfr : a ∉ frs X.stack) (na : H a = none) : Inv X pins σ (upd H a (ExcO cls d a)) { s' with heap := h4 } := by
  obtain ⟨oe, vs, e1, e2, e3⟩ := fl.there
  have nI : sI.heap.get? a = none := by
    cases q : sI.heap.get? a with
    | none => rfl
    | some o => have := nb a o q nfr; rw [fl.2.1] at this; cases this
  obtain ⟨G, g1, g2⟩ := restrict h4 fun b => decide (b ≠ a)
  have gk : ∀ b, b ≠ a → G.get? b = h4.get? b := fun b hb => g1 b (decide_eq_true hb)
  have ga : G.get? a = none := g2 a (by simp)
  have J := I.landed (s' := { s' with heap := G }) nb (fun b o e => (gk b fun z => by rw [z, fl.2.1] at e; cases e).trans (fl.1 b o e)) (fun b o e nf => by
    have hb : b ≠ a := fun z => by rw [z, nI] at e; cases e
    obtain ⟨sl, q⟩ := up b o e nf
    exact ⟨sl, (gk b hb).trans q⟩) os ag
  exact J.laidN (h' := h4) (t' := s'.toks) (fun b u e => (gk b fun z => by rw [z, ga] at e; cases e).symm.trans e) ga na (excO_ok e1 e2 e3)
theorem inv_in {s : Shared} (I : Inv X pins σ H s) (a : Addr) : Inv (X.suite a (X.pn ++ pins)) [] σ H s :=
  ⟨I.ok.suite _ _, I.os, I.bare, I.base, I.loc, I.cell, I.free, I.freeC, fun p hp => I.pin p (by rw [List.append_nil] at hp; exact hp), I.hok, I.len⟩
theorem inv_out {s : Shared} {pn' : List (Addr × Obj)} (I : Inv (X.suite a (X.pn ++ pins)) pn' σ H s) (ok : X.Ok) : Inv X pins σ H s :=
  ⟨ok, I.os, I.bare, I.base, I.loc, I.cell, I.free, I.freeC, fun p hp => I.pin p (List.mem_append_left _ hp), I.hok, I.len⟩
end
/-- the ends of a suite whose exception's name stood in slot i -/
def offE (i : Nat) (D : Ends) : Ends := { nx := fun σ H => D.nx (σ.set i none) H, rt := D.rt, bk := fun σ H => D.bk (σ.set i none) H, ct := fun σ H => D.ct (σ.set i none) H }
/-- what the clauses wish of an exception of the body -/
def wKeep (K : PySem.W.Frag) (Wout : WX) (D : Ends) : List (Value × Option Nat × TS) → WX
  | [] => Wout
  | (c, some i, ts) :: r => fun cls d σ H => ∃ b, PySem.W.exmOne K cls c = some b ∧ (b = true → ∀ a, H a = none → ts (offE i D) (σ.set i (some (.ref a))) (upd H a (ExcO cls d a))) ∧ (b = false → wKeep K Wout D r cls d σ H)
  | (c, none, ts) :: r => fun cls d σ H => ∃ b, PySem.W.exmOne K cls c = some b ∧ (b = true → ∀ a, H a = none → ts D σ (upd H a (ExcO cls d a))) ∧ (b = false → wKeep K Wout D r cls d σ H)
inductive HKs (X : Cx) : List ExceptHandler → List (Value × Option Nat × TS) → Prop
  | nil : HKs X [] []
  | as_ {x n : Str} {i : Nat} {c : Value} {ts : TS} {b₀ : Stmt} {suite : List Stmt} {np pos' : Pos} {hds : List ExceptHandler} {l : List (Value × Option Nat × TS)} (hc : Names X x c) (hi : X.N[i]? = some n) (hn : X.env.kindOf n = some .local)
      (hsu : ∀ (a : Addr) (pn : List (Addr × Obj)), PSs (X.suite a pn) (b₀ :: suite) ts) (r : HKs X hds l) : HKs X (.ExceptHandler (some (.Name x np)) (some n) (b₀ :: suite) pos' :: hds) ((c, some i, ts) :: l)
  | no_ {x : Str} {c : Value} {ts : TS} {b₀ : Stmt} {suite : List Stmt} {np pos' : Pos} {hds : List ExceptHandler} {l : List (Value × Option Nat × TS)} (hc : Names X x c)
      (hsu : ∀ (a : Addr) (pn : List (Addr × Obj)), PSs (X.suite a pn) (b₀ :: suite) ts) (r : HKs X hds l) : HKs X (.ExceptHandler (some (.Name x np)) none (b₀ :: suite) pos' :: hds) ((c, none, ts) :: l)
section
variable {X : Cx} {body : List Stmt} {h₀ : ExceptHandler} {hds : List ExceptHandler} {l : List (Value × Option Nat × TS)} {pos : Pos} {tb : WX → TS} {Wout : WX}
theorem ps_try_keep (hs : X.stack = X.env :: X.outer) (hf : X.env.frame = some X.env.locals) (hN : X.N.Nodup) (tk : Takes X Wout)
    (hb : ∀ (W : WX) (pn : List (Addr × Obj)) (xe : Value → Shared → Prop), Takes (X.tr pn xe) W → PassesOwn (model X.prog X.w) X.A X.env xe → PSs (X.tr pn xe) body (tb W))
    (hh : HKs X (h₀ :: hds) l) : PS X (.Try body (h₀ :: hds) [] [] pos) (fun D σ H => tb (wKeep X.K Wout D l) D σ H) := by
  refine ⟨fun pins s σ H D I h => ?_⟩
  have ok := I.ok
  have frm : X.A.frames = some (X.env :: X.outer) := by rw [ok.frames, hs]
  refine wpAny_Try_except (wpAny_mono ((hb (wKeep X.K Wout D l) (X.pn ++ pins) _ (fun u s' xx => ?_) PassesOwn.looking).run [] s σ H D (I.toTry _) h) (fun f s1 sp => ?_) (fun e s1 z => z))
  rotate_left
  · cases f with
    | next => obtain ⟨σ1, H1, J, q⟩ := sp; exact wpAny_execs_nil ⟨σ1, H1, J.ofTry ok, q⟩
    | brk => obtain ⟨σ1, H1, J, q⟩ := sp; exact ⟨σ1, H1, J.ofTry ok, q⟩
    | cont => obtain ⟨σ1, H1, J, q⟩ := sp; exact ⟨σ1, H1, J.ofTry ok, q⟩
    | ret u => obtain ⟨v, σ1, H1, J, r, q⟩ := sp; exact ⟨v, σ1, H1, J.ofTry ok, r, q⟩
  obtain ⟨a, B, sI, pins', σ1, H1, cls, d, rfl, J', nb, up, sky, na, os, ag, w⟩ := xx
  have J : Inv X pins σ1 H1 sI := J'.ofTry ok
  have sky' : Sky B (X.env :: X.outer) a (Zc cls d) X.env.locals s'.heap := by rw [← hs]; exact sky
  show wpAny (model X.prog X.w) X.A (noteFrame (.ref a) X.env) _ _ _
  refine Sky.land Zc.steady frm hf sky' fun h3 fl3 up3 => ?_
  have nfr : a ∉ frs X.stack := fun hm => by
    obtain ⟨oe, vs, e1, _, e3⟩ := fl3.there
    rw [hs] at hm
    obtain ⟨_, o', e', nf⟩ := fl3.2.2.1.mem hm
    rw [e1] at e'
    cases e'
    exact nf _ e3
  have J3 : Inv X pins σ1 H1 { s' with heap := h3 } := J.landed nb fl3.1 (up.trans up3) os ag
  have K3 : Inv (X.suite a (X.pn ++ pins)) [] σ1 H1 { s' with heap := h3 } := inv_in J3 a
  have clsOf : PySem.W.Looks (model X.prog X.w) h3 (typeOf (.ref a)) cls := fun A Q E s k q => by
    obtain ⟨oe, vs, e1, e2, _⟩ := fl3.there
    exact wpAny_typeOf_ref (k _ _ e1) (by rw [e2.1]; exact q)
  have test : ∀ {x : Str} {c : Value} {np : Pos} {Q : Value → Shared → Prop} {E : Value → Shared → Prop}, Names X x c → Q c { s' with heap := h3 } → wpAny (model X.prog X.w) (X.A.mark (some (.ref a))) (eval (.Name x np) X.env) Q E { s' with heap := h3 } := fun {x c np Q E} hc q => by
    obtain ⟨hg, hd, hm | ⟨hm, hv, hn⟩⟩ := hc
    · exact ld_glob (X := X.suite a (X.pn ++ pins)) K3 hg hm q hd
    · exact ld_blt (X := X.suite a (X.pn ++ pins)) K3 hg hm hv q hn hd
  have land : ∀ {h4 : Heap}, PySem.HandSPX.FlyingZ B (X.env :: X.outer) a (Zc cls d) h4 → h3.UpToSlots h4 → Inv (X.suite a (X.pn ++ pins)) [] σ1 (upd H1 a (ExcO cls d a)) { s' with heap := h4 } := fun fl4 up4 =>
    inv_in (inv_keep J nb fl4 ((up.trans up3).trans up4) os ag nfr na) a
  have go : ∀ {hds' : List ExceptHandler} {l' : List (Value × Option Nat × TS)}, HKs X hds' l' → wKeep X.K Wout D l' cls d σ1 H1 → wpAny (model X.prog X.w) X.A (handleBy (.ref a) X.env hds') (SP X pins D) X.xe { s' with heap := h3 } := by
    intro hds' l' hk
    induction hk with
    | nil =>
      intro w
      refine wpAny_handleBy_nil ?_
      obtain ⟨k1, k2, k3, oe, vs, T, oT, ts', he, hz, hd, h1, hr⟩ := id fl3
      unfold PySem.passOn
      refine wpAny_bind (wpAny_field he hd h1 ?_)
      rw [if_neg (by simp : ¬ ((Value.ref T == Value.none) = true))]
      have out : wpAny (model X.prog X.w) X.A (setFlight (.ref a) X.env.frame) (fun _ s4 => wpAny (model X.prog X.w) X.A (throw (.ref a) : Sem Flow) (SP X pins D) X.xe s4) X.xe { s' with heap := h3 } := by
        rw [hf]
        exact HandSPX.setFlight_upZ fl3 fun h4 hh4 up4 => wpAny_throw (tk _ _ ⟨a, B, sI, pins, σ1, H1, cls, d, rfl, J, nb, (up.trans up3).trans up4, .inr (.inr (by rw [hs]; exact hh4)), na, os, ag, w⟩)
      first
        | exact wpAny_bind (wpAny_pure (wpAny_bind out))
        | exact wpAny_bind out
    | @as_ x n i c ts b₀ suite np pos' hds2 l2 hc hi hn hsu r ih =>
      intro w
      obtain ⟨b, hb1, yes, no⟩ := w
      refine wpAny_handleBy_cons (codeAny_handlers_test ?_) (by intro q; cases q)
      refine test hc ((PySem.W.exm_one (M := model X.prog X.w) J3.kIn clsOf hb1).here ?_)
      cases b with
      | false => exact ih (no rfl)
      | true =>
        refine codeAny_handlers_suite_as (HandSPX.lands_againZ fl3 fun h4 fl4 up4 => ?_)
        refine store_ok (X := X.suite a (X.pn ++ pins)) (v := .ref a) (land fl4 up4) hN hi (.inl hn) rfl (fun s5 S5 => ?_) (.inr hn)
        refine wpAny_mono ((hsu a (X.pn ++ pins)).run [] s5 _ _ (offE i D) S5 (yes rfl a na)) (fun f s6 sp => ?_) (fun _ _ z => False.elim z)
        have off : ∀ {σ6 : Tv} {H6 : Hp} {Q : Shared → Prop}, Inv (X.suite a (X.pn ++ pins)) [] σ6 H6 s6 → (∀ s7, Inv X pins (σ6.set i none) H6 s7 → Q s7) →
            wpAny (model X.prog X.w) X.A (do bindName X.env n .none; unbindBehindTheSuite X.env n pos') (fun _ s7 => Q s7) X.xe s6 := fun S6 k => gone_ok (inv_out S6 ok) hN hi hn k
        cases f with
        | next => obtain ⟨σ6, H6, S6, q6⟩ := sp; exact off S6 fun s7 J7 => ⟨_, _, J7, q6⟩
        | brk => obtain ⟨σ6, H6, S6, q6⟩ := sp; exact off S6 fun s7 J7 => ⟨_, _, J7, q6⟩
        | cont => obtain ⟨σ6, H6, S6, q6⟩ := sp; exact off S6 fun s7 J7 => ⟨_, _, J7, q6⟩
        | ret u => obtain ⟨v, σ6, H6, S6, r6, q6⟩ := sp; exact off S6 fun s7 J7 => ⟨_, _, _, J7, r6, q6⟩
    | @no_ x c ts b₀ suite np pos' hds2 l2 hc hsu r ih =>
      intro w
      obtain ⟨b, hb1, yes, no⟩ := w
      refine wpAny_handleBy_cons (codeAny_handlers_test ?_) (by intro q; cases q)
      refine test hc ((PySem.W.exm_one (M := model X.prog X.w) J3.kIn clsOf hb1).here ?_)
      cases b with
      | false => exact ih (no rfl)
      | true =>
        refine codeAny_handlers_suite (HandSPX.lands_againZ fl3 fun h4 fl4 up4 => ?_)
        refine wpAny_mono ((hsu a (X.pn ++ pins)).run [] _ _ _ D (land fl4 up4) (yes rfl a na)) (fun f s6 sp => ?_) (fun _ _ z => False.elim z)
        cases f with
        | next => obtain ⟨σ6, H6, S6, q6⟩ := sp; exact ⟨_, _, inv_out S6 ok, q6⟩
        | brk => obtain ⟨σ6, H6, S6, q6⟩ := sp; exact ⟨_, _, inv_out S6 ok, q6⟩
        | cont => obtain ⟨σ6, H6, S6, q6⟩ := sp; exact ⟨_, _, inv_out S6 ok, q6⟩
        | ret u => obtain ⟨v, σ6, H6, S6, r6, q6⟩ := sp; exact ⟨_, _, _, inv_out S6 ok, r6, q6⟩
  exact go hh w
end
end MI

/-! MI, part ZB: raise and try, as readings. -/
namespace MI
open PySem PySem.Spec L2
/-! ### what one knows of exception classes -/
/-- x names the own exception class number c, made with the fields ix -/
structure XD (m : Md) (n : Nm) (x : Str) (c : Nat) (ix : List Nat) : Prop where
  ex : ∃ (fI : Addr) (fd : FuncData) (ps : List Str) (B newId initId : String) (bmB : List Value), m.mg x = some (.ref (n.ca c)) ∧ XC m.K (n.ca c) B newId initId bmB ∧ PySem.W.findIn m.K (.ref (n.ca c)) "__init__" = some (some (.ref fI)) ∧
    PySem.W.typeIn m.K (.ref fI) = some (.type "function") ∧ FnOk m.P m.w m.K m.mg m.base CX0 1 fI fd ps (spX (n.ca c) (ix.map n.an)) ∧ Binds m.K fd ps []
/-- .. without __init__ -/
structure XD0 (m : Md) (n : Nm) (x : Str) (c : Nat) : Prop where
  ex : ∃ (B newId initId : String) (bmB : List Value), m.mg x = some (.ref (n.ca c)) ∧ ExcBaseFacts B newId initId bmB ∧ PySem.W.excIn m.K (n.ca c) bmB newId = true ∧ PySem.W.keepIn m.K (.ref (n.ca c)) = true ∧
    PySem.W.subIn m.K (.ref (n.ca c)) (.type "BaseException") = some true ∧ PySem.W.typeIn m.K (.ref (n.ca c)) = some (.type "type")
/-- x names the class number c -/
def XN (m : Md) (n : Nm) (x : Str) (c : Nat) : Prop := m.mg x = some (.ref (n.ca c))
/-- which class is which -/
def TSt (m : Md) (n : Nm) (tst : Nat → Nat → Option Bool) : Prop := ∀ c j b, tst c j = some b → PySem.W.exmOne m.K (.ref (n.ca c)) (.ref (n.ca j)) = some b
section
variable {K : PySem.W.Frag} {F : Hp} {ρ : List Addr} {an : Nat → Str}
theorem FRel.append {fs es : List (Nat × D)} {gs hs : List (Str × V)} (h : FRel K F ρ an fs gs) (q : FRel K F ρ an es hs) : FRel K F ρ an (fs ++ es) (gs ++ hs) := by
  induction h with
  | nil => exact q
  | cons a b ih => exact .cons a ih
theorem FRel.rev {fs : List (Nat × D)} {gs : List (Str × V)} (h : FRel K F ρ an fs gs) : FRel K F ρ an fs.reverse gs.reverse := by
  induction h with
  | nil => exact .nil
  | cons a b ih =>
    rw [List.reverse_cons, List.reverse_cons]
    exact ih.append (.cons a .nil)
theorem FRel.zip : ∀ {ix : List Nat} {ds : List D} {vs : List V}, Reps K F ρ ds vs → FRel K F ρ an (ix.zip ds) ((ix.map an).zip vs)
  | [], ds, vs, _ => by simp; exact .nil
  | i :: ix, _, _, .nil => by simp; exact .nil
  | i :: ix, _, _, .cons a b => by
    rw [List.map_cons, List.zip_cons_cons, List.zip_cons_cons]
    exact .cons a (FRel.zip b)
end
/-! ### raise -/
def sRaise (c : Nat) (ix : List Nat) (as : EvL) : EvS := fun σ h => (as σ h).fl σ fun ds h1 => if ds.length = ix.length ∧ ds.length ≤ 1000 then .ex (c, (ix.zip ds).reverse) σ h1 else .bad
def sRaise0 (c : Nat) : EvS := fun σ h => .ex (c, []) σ h
/-- a statement that is never come to -/
def sBad : EvS := fun _ _ => .bad
def eBad : Ev := fun _ _ => .bad
section
variable {L : Md → Prop} {n : Nm} {k : Nat} {W : WX} {ow : Str → Bool} {N : List Str} {sc : Scope} {X : Cx} {pos : Pos}
theorem s_bad {st : Stmt} : SS X n W st sBad := ⟨fun pins s σ H D I q => by
  obtain ⟨_, F, ρ, h, σ', sr, l, p⟩ := q
  exact p.elim⟩
theorem se_bad {e : Expr} : SE X n W e eBad := ⟨fun pins s σ H D I q => by
  obtain ⟨_, F, ρ, h, σ', sr, l, p⟩ := q
  exact p.elim⟩
theorem s_raise (c : Cc L n k W ow N sc X) {x : Str} {j : Nat} {ix : List Nat} (G : XD (md X) n x j ix) (hk : 2 ≤ k) (hg : gloB sc x = true) (hd : (x == ("__debug__" : Str)) = false) {e : Expr} {es : List Expr} {as : EvL} {p pos2 : Pos} (ha : SA X n W (e :: es) as)
    (he : starEach (e :: es) X.env = (false, eval e X.env) :: starEach es X.env) (hpl : (backTo pos (starEach es X.env)).any (·.1) = false) :
    SS X n W (.Raise (some (.Call (.Name x p) (e :: es) [] pos)) none pos2) (sRaise j ix as) := by
  obtain ⟨fI, fd, ps, B, newId, initId, bmB, e1, T, iC, tI, F1, hb⟩ := G.ex
  refine PS_imp (ps_raise c.calm c.tk (x_made T iC tI F1 (c.room.mono hk) hb (c.glo hg) e1 hd ha he hpl)) fun Dn τ H q => ?_
  obtain ⟨_, F, ρ, h, σ, s, l, p⟩ := q
  unfold sRaise at p
  refine ⟨_, F, ρ, h, σ, s, l, ?_⟩
  cases ea : as σ h with
  | ok ds h1 =>
    rw [ea] at p
    intro F1 ρ1 H1 vs x1 s1 r1
    unfold Res.fl at p
    dsimp only at p
    split at p
    · rename_i hl
      have len := r1.length
      refine ⟨⟨by rw [List.length_map, ← len]; exact hl.1, by rw [← len]; exact hl.2⟩, fun d hd => ?_⟩
      have s2 : SR _ F1 ρ1 (upd H1 d (.xd ((ix.map n.an).zip vs).reverse)) h1 := s1.grow fun a u q => by rw [upd_ne (ne_of_none q hd)]; exact q
      refine p F1 ρ1 _ τ _ _ x1 s2 (l.mono x1) ⟨rfl, ⟨_, upd_same .., FRel.rev (FRel.zip r1)⟩, fun d' m q z => ?_, fun d' q => ?_⟩
      · cases q
        exact s1.notin hd m d z rfl
      · cases q
        exact s1.le.none hd
    · exact p.elim
  | exc y h1 =>
    rw [ea] at p
    exact fun F' ρ' H' cl d x s' xi => p F' ρ' H' τ cl d x s' (l.mono x) xi
  | bad => rw [ea] at p; exact p.elim
theorem s_raise0 (c : Cc L n k W ow N sc X) {x : Str} {j : Nat} (G : XD0 (md X) n x j) (hg : gloB sc x = true) (hd : (x == ("__debug__" : Str)) = false) {p pos2 : Pos} : SS X n W (.Raise (some (.Call (.Name x p) [] [] pos)) none pos2) (sRaise0 j) := by
  obtain ⟨B, newId, initId, bmB, e1, Fb, q, kp, s1, t1⟩ := G.ex
  refine PS_imp (ps_raise c.calm c.tk (x_made0 Fb q kp (raises_own s1 t1) (c.glo hg) e1 hd)) fun Dn τ H q => ?_
  obtain ⟨_, F, ρ, h, σ, s, l, p⟩ := q
  exact p F ρ H τ _ _ (Ext.refl _ _) s l ⟨rfl, rfl, fun _ _ z => (nomatch z), fun _ z => (nomatch z)⟩
end
/-! ### try -/
def noEx : Fl → Fl
  | .ex _ _ _ => .bad
  | r => r
def endAs (k : Nat) : Fl → Fl
  | .nx σ h => .nx (σ.set k none) h
  | .bk σ h => .bk (σ.set k none) h
  | .ct σ h => .ct (σ.set k none) h
  | .rt d h => .rt d h
  | _ => .bad
abbrev Hd := Nat × Option Nat × EvS
def hTry (tst : Nat → Nat → Option Bool) (x : EXC) (σ : Sl) (h : MH) : List Hd → Fl
  | [] => .ex x σ h
  | (j, some i, g) :: r => match tst x.1 j with
    | some true => endAs i (g (σ.set i (some (.ref h.length))) (h ++ [.exc x.1 x.2]))
    | some false => hTry tst x σ h r
    | none => .bad
  | (j, none, g) :: r => match tst x.1 j with
    | some true => noEx (g σ (h ++ [.exc x.1 x.2]))
    | some false => hTry tst x σ h r
    | none => .bad
def sTry (tst : Nat → Nat → Option Bool) (f : EvS) (hs : List Hd) : EvS := fun σ h => match f σ h with
  | .ex x σ' h' => hTry tst x σ' h' hs
  | r => r
/-- a suite's context: few rules hold there -/
structure Cw (L : Md → Prop) (n : Nm) (ow : Str → Bool) (N : List Str) (sc : Scope) (X : Cx) : Prop where
  gs : L (md X)
  hN : X.N = N
  nd : N.Nodup
  hs : X.env.scope = sc
  fn : ∀ x, ow x = true → X.fn x = true
section
variable {L : Md → Prop} {n : Nm} {k : Nat} {W : WX} {ow : Str → Bool} {N : List Str} {sc : Scope} {X : Cx} {pos : Pos}
theorem Cc.cw (c : Cc L n k W ow N sc X) (a : Addr) (pn : List (Addr × Obj)) : Cw L n ow N sc (X.suite a pn) := ⟨c.gs, c.hN, c.nd, c.hs, c.fn⟩
theorem Cc.tr (c : Cc L n k W ow N sc X) {W' : WX} {pn : List (Addr × Obj)} {xe : Value → Shared → Prop} (tk : Takes (X.tr pn xe) W') (ps : PassesOwn (model X.prog X.w) X.A X.env xe) : Cc L n k W' ow N sc (X.tr pn xe) :=
  ⟨c.gs, c.room, c.grd, c.calm, c.hN, c.nd, c.hs, c.fn, tk, ps, c.kd⟩
theorem Cw.var (c : Cw L n ow N sc X) {i : Nat} {x : Str} {p : Pos} (h1 : N[i]? = some x) (h2 : visB sc x = true) (h3 : (x == ("__debug__" : Str)) = false) (h4 : (x == ("__classdict__" : Str)) = false) : SE X n W (.Name x p) (eVar i) := by
  refine se_var (by rw [c.hN]; exact h1) ?_ h3 h4
  rw [c.hs]
  unfold visB at h2
  split at h2
  · exact .inl (by assumption)
  · exact .inr (.inl (by assumption))
  · exact .inr (.inr (by assumption))
  · cases h2
theorem g_varW (c : Cw L n ow N sc X) {i : Nat} {x : Str} (h1 : N[i]? = some x) (h2 : locB ow sc x = true) : SG X n (.Name x pos) [i] (gVar i) := by
  have ab : Loc X.env.scope x ∧ (X.fn x = true ∨ X.env.scope.names.lookup x = some .local) := by
    rw [c.hs]
    unfold locB at h2
    split at h2
    · rename_i e; exact ⟨.inl e, .inr e⟩
    · rename_i e; exact ⟨.inr e, .inl (c.fn x h2)⟩
    · cases h2
  refine PG_imp (pg_name (by rw [c.hN]; exact c.nd) (by rw [c.hN]; exact h1) ab.1 ab.2) fun v τ H Q q => ?_
  obtain ⟨_, F, ρ, h, σ, d, s, l, r, p⟩ := q
  exact p F ρ H _ (Ext.refl _ _) s (l.set r i) ⟨List.length_set, fun j hj => List.getElem?_set_ne fun z => hj (by rw [z]; exact List.mem_singleton.mpr rfl)⟩
/-- the clauses, side by side -/
inductive HsM (X : Cx) (n : Nm) : List ExceptHandler → List Hd → Prop
  | nil : HsM X n [] []
  | as_ {x y : Str} {i j : Nat} {g : EvS} {b₀ : Stmt} {suite : List Stmt} {np pos' : Pos} {hds : List ExceptHandler} {l : List Hd} (hc : Names X x (.ref (n.ca j))) (hi : X.N[i]? = some y) (hn : X.env.kindOf y = some .local)
      (hsu : ∀ (a : Addr) (pn : List (Addr × Obj)), SSs (X.suite a pn) n noW (b₀ :: suite) g) (r : HsM X n hds l) : HsM X n (.ExceptHandler (some (.Name x np)) (some y) (b₀ :: suite) pos' :: hds) ((j, some i, g) :: l)
  | no_ {x : Str} {j : Nat} {g : EvS} {b₀ : Stmt} {suite : List Stmt} {np pos' : Pos} {hds : List ExceptHandler} {l : List Hd} (hc : Names X x (.ref (n.ca j)))
      (hsu : ∀ (a : Addr) (pn : List (Addr × Obj)), SSs (X.suite a pn) n noW (b₀ :: suite) g) (r : HsM X n hds l) : HsM X n (.ExceptHandler (some (.Name x np)) none (b₀ :: suite) pos' :: hds) ((j, none, g) :: l)
def ofHd (X : Cx) (n : Nm) (l : List Hd) : List (Value × Option Nat × TS) := l.map fun q => (.ref (n.ca q.1), q.2.1, tMS (tb X n) noW q.2.2)
theorem HsM.ks {hds : List ExceptHandler} {l : List Hd} (h : HsM X n hds l) : HKs X hds (ofHd X n l) := by
  induction h with
  | nil => exact .nil
  | as_ hc hi hn hsu r ih => exact .as_ hc hi hn hsu ih
  | no_ hc hsu r ih => exact .no_ hc hsu ih
theorem names_of {x : Str} {j : Nat} (c : Cc L n k W ow N sc X) (h : XN (md X) n x j) (hg : gloB sc x = true) (hd : (x == ("__debug__" : Str)) = false) : Names X x (.ref (n.ca j)) := ⟨c.glo hg, hd, .inl h⟩
theorem s_try (c : Cc L n k W ow N sc X) (hst : X.stack = X.env :: X.outer) (hfr : X.env.frame = some X.env.locals) {tst : Nat → Nat → Option Bool} (ht : TSt (md X) n tst) {body : List Stmt} {h₀ : ExceptHandler} {hds : List ExceptHandler} {f : EvS} {l : List Hd}
    (hb : ∀ (W' : WX) (pn : List (Addr × Obj)) (xe : Value → Shared → Prop), Cc L n k W' ow N sc (X.tr pn xe) → SSs (X.tr pn xe) n W' body f) (hh : HsM X n (h₀ :: hds) l) : SS X n W (.Try body (h₀ :: hds) [] [] pos) (sTry tst f l) := by
  refine PS_imp (ps_try_keep (tb := fun W' => tMS (tb X n) W' f) hst hfr c.nd' c.tk (fun W' pn xe tk ps => hb W' pn xe (c.tr tk ps)) hh.ks) fun Dn τ H q => ?_
  obtain ⟨pr, F, ρ, h, σ, s, l1, p⟩ := q
  refine ⟨pr, F, ρ, h, σ, s, l1, ?_⟩
  unfold sTry at p
  cases e : f σ h with
  | nx σ' h' => rw [e] at p; exact p
  | rt d h' => rw [e] at p; exact p
  | bk σ' h' => rw [e] at p; exact p
  | ct σ' h' => rw [e] at p; exact p
  | bad => rw [e] at p; exact p
  | ex y σ' h' =>
    rw [e] at p
    dsimp only at p
    intro F1 ρ1 H1 τ1 cls dd x1 s1 sl xi
    have p1 : PostS ((tb X n).at pr) W F1 ρ1 (hTry tst y σ' h' l) Dn := PostS.mono' x1 p
    clear p hh
    have ec := xi.cls
    have keep : ∀ a, H1 a = none → ∃ (F2 : Hp) (ρ2 : List Addr), Ext F1 ρ1 F2 ρ2 ∧ SR ((tb X n).at pr) F2 ρ2 (upd H1 a (ExcO cls dd a)) (h' ++ [.exc y.1 y.2]) ∧ ρ2[h'.length]? = some a := fun a na => by
      obtain ⟨z1, z2, z3⟩ := s1.push (u := ExcO cls dd a) (o := .exc y.1 y.2) na fun F' ρ' x => ⟨dd, by rw [upd_same, ec], by
        have own := xi.own
        cases dd with
        | none => exact own
        | some d =>
          obtain ⟨gs, q1, q2⟩ := own
          exact ⟨gs, by rw [upd_ne (ne_of_none q1 na)]; exact q1, q2.mono x⟩⟩
      exact ⟨F1, ρ1 ++ [a], z2, z1, z3⟩
    induction l with
    | nil => exact p1 F1 ρ1 H1 τ1 cls dd (Ext.refl _ _) s1 sl xi
    | cons q l ih =>
      obtain ⟨j, oi, g⟩ := q
      have tt := ht y.1 j
      cases oi with
      | none =>
        unfold hTry at p1
        cases b1 : tst y.1 j with
        | none => rw [b1] at p1; exact p1.elim
        | some b =>
          have em := tt b b1
          rw [← ec] at em
          refine ⟨b, em, fun hb2 a na => ?_, fun hb2 => ?_⟩
          · subst hb2
            rw [b1] at p1
            dsimp only at p1
            obtain ⟨F2, ρ2, x2, s2, e2⟩ := keep a na
            refine ⟨pr, F2, ρ2, _, σ', s2, sl.mono x2, ?_⟩
            show PostS _ noW F2 ρ2 (g σ' (h' ++ [.exc y.1 y.2])) Dn
            cases eg : g σ' (h' ++ [.exc y.1 y.2]) with
            | ex _ _ _ => rw [eg] at p1; exact p1.elim
            | bad => rw [eg] at p1; exact p1.elim
            | nx _ _ => rw [eg] at p1; exact fun F' ρ' H' τ' x s l => p1 F' ρ' H' τ' (x2.trans x) s l
            | bk _ _ => rw [eg] at p1; exact fun F' ρ' H' τ' x s l => p1 F' ρ' H' τ' (x2.trans x) s l
            | ct _ _ => rw [eg] at p1; exact fun F' ρ' H' τ' x s l => p1 F' ρ' H' τ' (x2.trans x) s l
            | rt _ _ => rw [eg] at p1; exact fun F' ρ' H' v x s r => p1 F' ρ' H' v (x2.trans x) s r
          · subst hb2
            rw [b1] at p1
            exact ih p1
      | some i =>
        unfold hTry at p1
        cases b1 : tst y.1 j with
        | none => rw [b1] at p1; exact p1.elim
        | some b =>
          have em := tt b b1
          rw [← ec] at em
          refine ⟨b, em, fun hb2 a na => ?_, fun hb2 => ?_⟩
          · subst hb2
            rw [b1] at p1
            dsimp only at p1
            obtain ⟨F2, ρ2, x2, s2, e2⟩ := keep a na
            refine ⟨pr, F2, ρ2, _, σ'.set i (some (.ref h'.length)), s2, (sl.mono x2).set (.ref e2) i, ?_⟩
            show PostS _ noW F2 ρ2 (g (σ'.set i (some (.ref h'.length))) (h' ++ [.exc y.1 y.2])) (offE i Dn)
            cases eg : g (σ'.set i (some (.ref h'.length))) (h' ++ [.exc y.1 y.2]) with
            | ex _ _ _ => rw [eg] at p1; exact p1.elim
            | bad => rw [eg] at p1; exact p1.elim
            | nx _ _ => rw [eg] at p1; exact fun F' ρ' H' τ' x s l => p1 F' ρ' H' (τ'.set i none) (x2.trans x) s (l.del i)
            | bk _ _ => rw [eg] at p1; exact fun F' ρ' H' τ' x s l => p1 F' ρ' H' (τ'.set i none) (x2.trans x) s (l.del i)
            | ct _ _ => rw [eg] at p1; exact fun F' ρ' H' τ' x s l => p1 F' ρ' H' (τ'.set i none) (x2.trans x) s (l.del i)
            | rt _ _ => rw [eg] at p1; exact fun F' ρ' H' v x s r => p1 F' ρ' H' v (x2.trans x) s r
          · subst hb2
            rw [b1] at p1
            exact ih p1
end
end MI

/-! MI, part ZC: isinstance of kept exceptions, attributes. -/
namespace MI
open PySem PySem.Spec L2
/-- names by numbers, each another -/
def anOf (l : List Str) (i : Nat) : Str := match l[i]? with
  | some s => s
  | none => ⟨#[0, i]⟩
theorem an_inj {l : List Str} (nd : l.Nodup) (h0 : ∀ s ∈ l, s.cps[0]? ≠ some 0) : ∀ i j, anOf l i = anOf l j → i = j := by
  intro i j e
  unfold anOf at e
  cases hi : l[i]? with
  | some s =>
    cases hj : l[j]? with
    | some t =>
      rw [hi, hj] at e
      dsimp only at e
      subst e
      exact (List.getElem?_inj (List.getElem?_eq_some_iff.mp hi).1 nd).mp (hi.trans hj.symm)
    | none =>
      rw [hi, hj] at e
      dsimp only at e
      exact absurd (by rw [e]; rfl) (h0 s (List.mem_of_getElem? hi))
  | none =>
    cases hj : l[j]? with
    | some t =>
      rw [hi, hj] at e
      dsimp only at e
      exact absurd (by rw [← e]; rfl) (h0 t (List.mem_of_getElem? hj))
    | none =>
      rw [hi, hj] at e
      dsimp only at e
      have e2 := congrArg (fun s : Str => s.cps[1]?) e
      simpa using e2
def AnI (n : Nm) : Prop := ∀ i j, n.an i = n.an j → i = j
theorem FRel.look {K : PySem.W.Frag} {F : Hp} {ρ : List Addr} {n : Nm} (inj : AnI n) {i : Nat} : ∀ {fs : List (Nat × D)} {gs : List (Str × V)}, FRel K F ρ n.an fs gs → ∀ {d : D}, fs.lookup i = some d → ∃ v, gs.lookup (n.an i) = some v ∧ Rep K F ρ d v
  | _, _, .nil, d, e => by cases e
  | _, _, .cons (i := j) (d := d0) (v := v0) a b, d, e => by
    rw [List.lookup_cons] at e
    by_cases h : i = j
    · subst h
      rw [beq_self_eq_true] at e
      cases e
      exact ⟨v0, by rw [List.lookup_cons, beq_self_eq_true], a⟩
    · have h1 : (i == j) = false := beq_eq_false_iff_ne.mpr h
      have h2 : (n.an i == n.an j) = false := beq_eq_false_iff_ne.mpr fun z => h (inj _ _ z)
      rw [h1] at e
      obtain ⟨v, q, r⟩ := FRel.look inj b e
      exact ⟨v, by rw [List.lookup_cons, h2]; exact q, r⟩
/-- what an exception's class must say to be asked -/
structure XI (K : PySem.W.Frag) (C : Addr) : Prop where
  cl : (PySem.W.clsIn K C).isSome = true
  dct : PySem.W.hasDictIn K C = true
  ga : PySem.W.findIn K (.ref C) "__getattribute__" = some (some (.builtin "BaseException.__getattribute__"))
  gg : PySem.W.findIn K (.ref C) "__getattr__" = some none
  sub : PySem.W.subIn K (.ref C) (.type "BaseException") = some true
  ha : PySem.W.findIn K (.ref C) "__class__" = some (some (.builtin "object.__class__"))
  hn : PySem.W.specialIn K (.builtin "object.__class__") "__get__" = some (some (.builtin "getset_descriptor.__get__"))
  ht : PySem.W.takesIn K (.builtin "object.__class__") = some true
  hm : PySem.W.mroIn K C (.type "object") = some true
/-- a class that isinstance is asked for -/
inductive Tg where
  | own (j : Nat)
  | ty (T : String)
  deriving DecidableEq
def Tg.v (n : Nm) : Tg → V
  | .own j => .ref (n.ca j)
  | .ty T => .ty T
def Tg.u (n : Nm) : Tg → Value
  | .own j => .ref (n.ca j)
  | .ty T => .type T
theorem Tg.eq {n : Nm} {t : Tg} {u : Value} (r : RelV (t.v n) u) : u = t.u n := by
  cases t with
  | own j => exact r
  | ty T => exact r
abbrev Isx := Nat → Tg → Option Bool
structure ISt (m : Md) (n : Nm) (isx : Isx) : Prop where
  xi : ∀ c t b, isx c t = some b → XI m.K (n.ca c)
  is : ∀ c t b, isx c t = some b → PySem.W.kitOne m.K (.ref (n.ca c)) (t.u n) = some b
def isxAny (isx : Isx) (c : Nat) : List Tg → Option Bool
  | [] => some false
  | t :: r => match isx c t with
    | some true => some true
    | some false => isxAny isx c r
    | none => none
theorem isxAny_kit {m : Md} {n : Nm} {isx : Isx} (h : ISt m n isx) {c : Nat} : ∀ {ts : List Tg} {b : Bool}, isxAny isx c ts = some b → PySem.W.kitAny m.K (.ref (n.ca c)) (ts.map (Tg.u n)) = some b
  | [], b, e => e
  | t :: r, b, e => by
    unfold isxAny at e
    rw [List.map_cons]
    unfold PySem.W.kitAny
    cases q : isx c t with
    | none => rw [q] at e; cases e
    | some b' =>
      rw [q] at e
      rw [h.is c t b' q]
      cases b' with
      | true => exact e
      | false => exact isxAny_kit h e
/-- the class of a kept exception -/
def xcls (h : MH) : D → Option Nat
  | .ref m => match h[m]? with
    | some (.exc c _) => some c
    | _ => none
  | _ => none
def eIsX (isx : Isx) (t : Tg) (f : Ev) : Ev := fun σ h => (f σ h).bind fun d h1 => match xcls h1 d with
  | some c => (match isx c t with
    | some b => .ok (.bl b) h1
    | none => .bad)
  | none => .bad
def eIsXT (isx : Isx) (ts : List Tg) (f : Ev) : Ev := fun σ h => (f σ h).bind fun d h1 => match xcls h1 d with
  | some c => (match ts, isxAny isx c ts with
    | _ :: _, some b => .ok (.bl b) h1
    | _, _ => .bad)
  | none => .bad
section
variable {L : Md → Prop} {n : Nm} {k : Nat} {W : WX} {ow : Str → Bool} {N : List Str} {sc : Scope} {X : Cx} {pos : Pos}
/-- where a kept exception lies -/
theorem exc_at {pins : List (Addr × Obj)} {σ : Tv} {H : Hp} {s : Shared} {pr : Addr → Option HO} {F : Hp} {ρ : List Addr} {h : MH} {c m : Nat} {fs : List (Nat × D)} {v : V} (I : Inv X pins σ H s) (S : SR ((tb X n).at pr) F ρ H h) (r : Rep X.K F ρ (.ref m) v) (e : h[m]? = some (.exc c fs)) :
    ∃ (a : Addr) (oe : Obj) (od : Option Obj) (dd : Option Addr), v = .ref a ∧ PySem.W.InstAt s.heap a oe (n.ca c) od ∧ XRel X.K F ρ n.an H fs dd ∧
      (∀ (d : Addr) (gs : List (Str × V)), dd = some d → H d = some (.xd gs) → ∃ o, od = some o ∧ ∀ name, ∃ u, PySem.W.lookIn name o = some u ∧ RelO (gs.lookup name) u) := by
  obtain ⟨a, e1, _, dd, e2, xr⟩ := S.at e
  cases r with
  | ref e3 =>
    rw [e3] at e1
    cases e1
    obtain ⟨⟨oe, vs, q1, q2, q3⟩, _⟩ := (show ObjOk X.prog X.w H s.heap a (ExcO (.ref (n.ca c)) dd a) from I.hok a _ e2)
    have nc : PySem.W.notCls oe = true := by unfold PySem.W.notCls; rw [q3] <;> rfl
    cases dd with
    | none => exact ⟨a, oe, none, none, rfl, ⟨q1, q2.1, nc, by rw [q2.2]; trivial⟩, xr, fun d gs z => nomatch z⟩
    | some d =>
      obtain ⟨gs, q4, q5⟩ := xr
      obtain ⟨mA, hns, hr⟩ := (show ObjOk X.prog X.w H s.heap d (.xd gs) from I.hok d _ q4)
      obtain ⟨od, ho, hl⟩ := lookIn_ns hns
      refine ⟨a, oe, some od, some d, rfl, ⟨q1, q2.1, nc, by rw [q2.2]; exact ho⟩, ⟨gs, q4, q5⟩, fun d' gs' z1 z2 => ?_⟩
      cases z1
      rw [q4] at z2
      cases z2
      exact ⟨od, rfl, fun name => ⟨mA name, hl name, hr name⟩⟩
theorem xcls_some {h : MH} {d : D} {c : Nat} (e : xcls h d = some c) : ∃ m fs, d = .ref m ∧ h[m]? = some (.exc c fs) := by
  cases d with
  | ref m =>
    unfold xcls at e
    dsimp only at e
    split at e
    · rename_i c' fs q
      cases e
      exact ⟨m, fs, rfl, q⟩
    · cases e
  | _ => cases e
theorem kit_exc {m : Md} {C : Addr} {x : Addr} {ox : Obj} {od : Option Obj} (T : XI m.K C) : PySem.W.KitX m.K (.ref x) (.ref C) (fun h => PySem.W.InstAt h x ox C od) := PySem.W.kitx_exc T.cl T.ga T.gg T.sub T.ha T.hn T.ht T.hm
def rXI (T : Tb) (isx : Isx) (t : Tg) : List V → Hp → VK → Prop := fun vs H Q => ∃ pr F ρ h d v c b, vs = [v, t.v T.n] ∧ SR (T.at pr) F ρ H h ∧ Rep T.K F ρ d v ∧ xcls h d = some c ∧ isx c t = some b ∧ Q (.bl b) H
theorem isx_ok {isx : Isx} (hI : ISt (md X) n isx) (t : Tg) : CallR X (.builtin "isinstance") (rXI (tb X n) isx t) := by
  rintro pins s σ H xs us Q I r ⟨pr, F, ρ, h, d, v, c, b, rfl, S, rv, e, eb, q⟩
  obtain ⟨u1, u2, rfl, r1, r2⟩ := vals2 r
  obtain rfl : u2 = t.u n := Tg.eq r2
  obtain ⟨m, fs, rfl, em⟩ := xcls_some e
  obtain ⟨a, oe, od, dd, rfl, J, _⟩ := exc_at I S rv em
  obtain rfl : u1 = Value.ref a := r1
  exact PySem.W.kia_one (kit_exc (m := md X) (hI.xi c t b eb)) I.kIn J (hI.is c t b eb) (fun z => nomatch z) fun tk => ⟨.bl b, H, I.tok tk, rfl, q⟩
/-- the class's name as an expression -/
theorem pe_tg {t : Tg} {x : Str} {p : Pos} (hg : Gl X x) (hd : (x == ("__debug__" : Str)) = false) (h : match t with | .own j => XN (md X) n x j | .ty T => X.mg x = none ∧ bootBuiltins x = some (.type T) ∧ x ≠ "__name__") : PE X (.Name x p) (tC (t.v n)) := by
  cases t with
  | own j => exact pe_glob hg h rfl hd
  | ty T => exact pe_bltn hg h.1 h.2.1 rfl h.2.2 hd
def TgN (m : Md) (n : Nm) (x : Str) (t : Tg) : Prop := match t with | .own j => XN m n x j | .ty T => m.mg x = none ∧ bootBuiltins x = some (.type T) ∧ x ≠ "__name__"
theorem se_isX {isx : Isx} (hI : ISt (md X) n isx) {t : Tg} {e : Expr} {f : Ev} {x : Str} {p1 p2 : Pos} (he : SE X n W e f) (hg : Gl X "isinstance") (hm : X.mg "isinstance" = none) (hg2 : Gl X x) (hd : (x == ("__debug__" : Str)) = false) (ht : TgN (md X) n x t)
    (hs : starEach [e, .Name x p2] X.env = (false, eval e X.env) :: starEach [.Name x p2] X.env) (hpl : (backTo pos (starEach [.Name x p2] X.env)).any (·.1) = false) : SE X n W (.Call (.Name "isinstance" p1) [e, .Name x p2] [] pos) (eIsX isx t f) := by
  refine PE_imp (pe_callB (isx_ok hI t) hg hm PyProof.Rows.boot_isinstance (pa_cons he (pa_cons (pe_tg hg2 hd ht) pa_nil rfl) hs) (by decide) (by decide) hs hpl) fun τ H Q q => ?_
  obtain ⟨_, F, ρ, h, σ, s, l, p⟩ := q
  refine tM_bind s l p fun F1 ρ1 H1 d h1 v x1 s1 l1 r1 p1 => ?_
  cases e1 : xcls h1 d with
  | none => rw [e1] at p1; exact p1.elim
  | some c =>
    rw [e1] at p1
    dsimp only at p1
    cases e2 : isx c t with
    | none => rw [e2] at p1; exact p1.elim
    | some b =>
      rw [e2] at p1
      exact ⟨_, F1, ρ1, h1, d, v, c, b, rfl, s1, r1, e1, e2, p1 F1 ρ1 H1 _ (Ext.refl _ _) s1 (.bl _)⟩
/-! ### a tuple of classes -/
inductive TgL (X : Cx) (n : Nm) : List Expr → List Tg → Prop
  | nil : TgL X n [] []
  | cons {x : Str} {p : Pos} {t : Tg} {es : List Expr} {ts : List Tg} : Gl X x → (x == ("__debug__" : Str)) = false → TgN (md X) n x t → starEach (.Name x p :: es) X.env = (false, eval (.Name x p) X.env) :: starEach es X.env → TgL X n es ts → TgL X n (.Name x p :: es) (t :: ts)
theorem TgL.pa {es : List Expr} {ts : List Tg} (h : TgL X n es ts) : PA X es (fun _ H Q => Q (ts.map (Tg.v n)) H) := by
  induction h with
  | nil => exact pa_nil
  | cons hg hd ht hs r ih => exact PA_imp (pa_cons (pe_tg hg hd ht) ih hs) fun τ H Q q => q
def rXT (T : Tb) (isx : Isx) (ts : List Tg) : List V → Hp → VK → Prop := fun vs H Q => ∃ pr F ρ h d v c b tp, vs = [v, .ref tp] ∧ H tp = some (.tup (ts.map (Tg.v T.n))) ∧ SR (T.at pr) F ρ H h ∧ Rep T.K F ρ d v ∧ xcls h d = some c ∧ ts ≠ [] ∧ isxAny isx c ts = some b ∧ Q (.bl b) H
theorem tgs_eq : ∀ {ts : List Tg} {us : List Value}, Vals (ts.map (Tg.v n)) us → us = ts.map (Tg.u n)
  | [], _, .nil => rfl
  | t :: ts, _, .cons a b => by
    rw [Tg.eq a, tgs_eq b]
    rfl
theorem isxT_ok {isx : Isx} (hI : ISt (md X) n isx) (ts : List Tg) : CallR X (.builtin "isinstance") (rXT (tb X n) isx ts) := by
  rintro pins s σ H xs us Q I r ⟨pr, F, ρ, h, d, v, c, b, tp, rfl, hT, S, rv, e, ne, eb, q⟩
  obtain ⟨u1, u2, rfl, r1, r2⟩ := vals2 r
  obtain rfl : u2 = Value.ref tp := r2
  obtain ⟨m, fs, rfl, em⟩ := xcls_some e
  obtain ⟨a, oe, od, dd, rfl, J, _⟩ := exc_at I S rv em
  obtain rfl : u1 = Value.ref a := r1
  obtain ⟨its, rv', ⟨o, h1, h2, nn, h3⟩, _⟩ := I.tuple (.of hT)
  have e3 := tgs_eq rv'
  obtain ⟨oc, odc, dt, sl⟩ := o
  simp only at h2 h3
  subst h2 h3
  have xi : XI X.K (n.ca c) := by
    cases ts with
    | nil => exact absurd rfl ne
    | cons t ts =>
      unfold isxAny at eb
      cases z : isx c t with
      | none => rw [z] at eb; cases eb
      | some b' => exact hI.xi c t b' z
  exact PySem.W.kia_tup (kit_exc (m := md X) xi) I.kIn J h1 (by rw [e3]; exact isxAny_kit hI eb) (fun z => nomatch z) fun tk => ⟨.bl b, H, I.tok tk, rfl, q⟩
theorem se_isXT {isx : Isx} (hI : ISt (md X) n isx) {ts : List Tg} {e : Expr} {es : List Expr} {f : Ev} {j : Nat} {p1 p2 : Pos} (he : SE X n W e f) (hg : Gl X "isinstance") (hm : X.mg "isinstance" = none) (ht : TgL X n es ts) (hz : ts.length ≤ 1000)
    (hs : starEach [e, .Tuple es j p2] X.env = (false, eval e X.env) :: starEach [.Tuple es j p2] X.env) (hs2 : starEach [.Tuple es j p2] X.env = (false, eval (.Tuple es j p2) X.env) :: starEach [] X.env) (hpl : (backTo pos (starEach [.Tuple es j p2] X.env)).any (·.1) = false) :
    SE X n W (.Call (.Name "isinstance" p1) [e, .Tuple es j p2] [] pos) (eIsXT isx ts f) := by
  refine PE_imp (pe_callB (isxT_ok hI ts) hg hm PyProof.Rows.boot_isinstance (pa_cons he (pa_cons (pe_tup ht.pa) pa_nil hs2) hs) (by decide) (by decide) hs hpl) fun τ H Q q => ?_
  obtain ⟨_, F, ρ, h, σ, s, l, p⟩ := q
  refine tM_bind s l p fun F1 ρ1 H1 d h1 v x1 s1 l1 r1 p1 => ?_
  refine ⟨by rw [List.length_map, sizeLine_eq]; omega, fun tp np => ?_⟩
  cases e1 : xcls h1 d with
  | none => rw [e1] at p1; exact p1.elim
  | some c =>
    rw [e1] at p1
    dsimp only at p1
    cases ts with
    | nil => exact p1.elim
    | cons t ts =>
      cases e2 : isxAny isx c (t :: ts) with
      | none => rw [e2] at p1; exact p1.elim
      | some b =>
        rw [e2] at p1
        have s2 := s1.grow (H' := upd H1 tp (.tup ((t :: ts).map (Tg.v n)))) fun a u q => by rw [upd_ne (ne_of_none q np)]; exact q
        exact ⟨_, F1, ρ1, h1, d, v, c, b, tp, rfl, upd_same .., s2, r1, e1, List.cons_ne_nil _ _, e2, p1 F1 ρ1 _ _ (Ext.refl _ _) s2 (.bl _)⟩
/-! ### attributes: of kept exceptions, of objects -/
/-- of which classes which fields may be asked -/
structure ASt (m : Md) (n : Nm) (xa ia : Nat → Nat → Bool) : Prop where
  inj : AnI n
  xi : ∀ c i, xa c i = true → XI m.K (n.ca c)
  xn : ∀ c i, xa c i = true → PySem.W.findIn m.K (.ref (n.ca c)) (n.an i) = some none
  ii : ∀ c i, ia c i = true → Cls m.K (n.ca c)
  inn : ∀ c i, ia c i = true → NoAttr m.K (n.ca c) (n.an i)
def attO (xa ia : Nat → Nat → Bool) (i : Nat) (h : MH) : D → Option D
  | .ref m => match h[m]? with
    | some (.exc c fs) => if xa c i = true then fs.lookup i else none
    | some (.inst c fs) => if ia c i = true then fs.lookup i else none
    | _ => none
  | _ => none
def eAtt (xa ia : Nat → Nat → Bool) (i : Nat) (f : Ev) : Ev := fun σ h => (f σ h).bind fun d h1 => okE h1 (attO xa ia i h1 d)
theorem se_att {xa ia : Nat → Nat → Bool} (hA : ASt (md X) n xa ia) {e : Expr} {f : Ev} {i : Nat} {nm : Str} (hn : n.an i = nm) (he : SE X n W e f) (hb : attributeBase e nm X.env (eval e X.env) = eval e X.env) : SE X n W (.Attribute e nm pos) (eAtt xa ia i f) := by
  subst hn
  refine ⟨fun pins s τ H Q I q => ?_⟩
  obtain ⟨_, F, ρ, h, σ, sr, l, p⟩ := q
  refine attr_of hb (thn (he.run pins s τ H (fun v H1 => ∃ (pr : Addr → Option HO) (F1 : Hp) (ρ1 : List Addr) (h1 : MH) (d d' : D), SR ((tb X n).at pr) F1 ρ1 H1 h1 ∧ Rep X.K F1 ρ1 d v ∧ attO xa ia i h1 d = some d' ∧ ∀ v', Rep X.K F1 ρ1 d' v' → Q v' H1) I
    (tM_bind sr l p fun F1 ρ1 H1 d h1 v x1 s1 l1 r1 p1 => ?_)) fun u s1 hh => ?_)
  · obtain ⟨d', e1, kk⟩ := okE_post p1
    exact ⟨_, F1, ρ1, h1, d, d', s1, r1, e1, fun v' r' => kk F1 ρ1 H1 v' (Ext.refl _ _) s1 r'⟩
  · obtain ⟨v, H1, I1, rv, pr, F1, ρ1, h1, d, d', S1, rd, ea, kk⟩ := hh
    cases d with
    | ref m =>
      unfold attO at ea
      dsimp only at ea
      split at ea
      · rename_i c fs em
        split at ea
        · rename_i hx
          obtain ⟨a, oe, od, dd, rfl, J, xr, lk⟩ := exc_at I1 S1 rd em
          obtain rfl : u = Value.ref a := rv
          have T := hA.xi c i hx
          cases dd with
          | none =>
            have xr' : fs = [] := xr
            rw [xr'] at ea
            cases ea
          | some dx =>
            obtain ⟨gs, q1, q2⟩ := xr
            obtain ⟨v', e3, r3⟩ := FRel.look hA.inj q2 ea
            obtain ⟨o, rfl, hl⟩ := lk dx gs rfl q1
            obtain ⟨uo, e4, r4⟩ := hl (n.an i)
            rw [e3] at r4
            obtain ⟨u', e5, r5⟩ := RelO.some_of r4
            subst e5
            exact PySem.HandSPX.exc_get I1.kIn J T.ga T.gg T.sub (PySem.W.findObj_own T.dct (hA.xn c i hx) rfl e4) (handed_of r5) ⟨v', H1, I1.tok _, r5, kk v' r3⟩
        · cases ea
      · rename_i c fs em
        split at ea
        · rename_i hx
          obtain ⟨a, e2, _, dx, gs, e3, fr⟩ := S1.at em
          cases rd with
          | ref e4 =>
            rw [e4] at e2
            cases e2
            obtain rfl : u = Value.ref _ := rv
            obtain ⟨v', e5, r5⟩ := FRel.look hA.inj fr ea
            exact getattr_ok I1 e3 (hA.ii c i hx) (hA.inn c i hx) e5 fun u' s2 I2 ru => ⟨v', H1, I2, ru, kk v' r5⟩
        · cases ea
      · cases ea
    | _ => cases ea
end
end MI

/-! MI, part ZD: a op b op c op d; a tuple told again and again, also the empty one; module constants; calls by names. -/
namespace MI
open PySem PySem.Spec L2 PySem.Calls PyProof.Rows
/-! ### () * k -/
theorem tup_mul0 (l : Addr) (n : Nat) (dd : Option Addr) (sl : Array (Option Value)) (x : Int) (u : Tok) (c0 : (decide (x < -(2 ^ 63)) || decide (x ≥ 2 ^ 63)) = false) :
    Meets (Builtin.«tuple.__mul__» ⟨[.ref l, .int x u], []⟩) (fun _ R s => s.heap.get? l = some { cls := .type "tuple", dict := dd, data := .seq #[] n, slots := sl } ∧ R (.ok (.ret (Value.ref l))) s) :=
  .of_wp fun prog w A R s h => by
    obtain ⟨hp, g, d, tk, os⟩ := s
    obtain ⟨hl, h⟩ := h
    have f1 := AutoSeq1.idx_int
    wp_walk using wpAny_loadPart' hl
    repeat (first
      | (refine wpAny_ite_false (decide_eq_false (by rw [c0]; exact Bool.false_ne_true)) ?_; wp_walk using wpAny_loadPart' hl))
    exact ⟨_, rfl, h⟩
def rRep0 (K : PySem.W.Frag) : R2 := fun x y H Q => ∃ l k, x = .ref l ∧ y = .int k ∧ SqT K H l [] ∧ -1000 ≤ k ∧ k ≤ 1000 ∧ Q (.ref l) H
theorem op_rep0 {X : Cx} : OpR X (binaryOp .Mult) (rRep0 X.K) := by
  intro pins s σ H x y v u Q I rx ry h
  obtain ⟨l, k, rfl, rfl, hT, h1, h2, q⟩ := h
  cases rx
  obtain ⟨t, rfl⟩ := ry
  obtain ⟨its, r, ⟨⟨cls, dd, data, sl⟩, ho, hc, n, hd⟩, hs⟩ := I.tuple hT
  simp only at hc hd
  subst hc hd
  cases r
  have c0 : (decide (k < -(2 ^ 63)) || decide (k ≥ 2 ^ 63)) = false := by
    rw [decide_eq_false (by omega), decide_eq_false (by omega)]
    rfl
  exact wpAny_binaryOp_repeat_ref (T := "tuple") (U := "int") (by decide) ⟨_, ho, rfl⟩ (fun s' => typeIs_int s' k t) noFill_tuple_mul F.fills_int_mul F.slot_int_rmul repeat_tuple F.slot_int_index.lookup
    (call_meets F.slot_int_rmul (typeIs_int s k t) F.entry_int_rmul (F.args_int_rmul_2 _ _) (int_rmul_tuple k t l #[] n dd sl)
      ⟨ho, rfl, ⟨_, ho, rfl⟩, call_meets F.slot_tuple_mul ⟨_, ho, rfl⟩ F.entry_tuple_mul (F.args_tuple_mul_2 _ _) (tup_mul0 l n dd sl k t c0) ⟨ho, .ref l, H, I, rfl, q⟩⟩)
def mulA : Op2 := fun h x y => match x, y with
  | .tup [], .int k => if -1000 ≤ k ∧ k ≤ 1000 then some (.tup []) else none
  | x, y => mulO h x y
theorem mulA_ok {X : Cx} {n : Nm} : OpR X (binaryOp .Mult) (rO (tb X n) mulA) := by
  rintro pins s σ H x y v u Q I rx ry ⟨pr, F, ρ, h, dx, dy, d, S, r1, r2, e, k⟩
  unfold mulA at e
  split at e
  · rename_i j
    split at e
    · rename_i hj
      cases e
      cases r2
      cases r1 with
      | tup h1 h2 =>
        cases h2
        exact op_rep0 pins s σ H _ _ v u Q I rx ry ⟨_, j, rfl, rfl, sqT_le S.le h1, hj.1, hj.2, k F ρ H _ (Ext.refl _ _) S (.tup h1 .nil)⟩
    · cases e
  · exact mul_ok pins s σ H x y v u Q I rx ry ⟨pr, F, ρ, h, dx, dy, d, S, r1, r2, e, k⟩
/-! ### a op b op c op d -/
section
variable {X : Cx} {a b c d : Expr} {k1e k2e k3e k4e : TE} {pos : Pos}
def tChain3 (r r' r2 : R2) (k1e k2e k3e k4e : TE) : TE := fun σ H Q => k1e σ H fun x H1 => k2e σ H1 fun y H2 => r x y H2 fun z H3 => ∃ k, z = .bl k ∧
  (if k = true then k3e σ H3 fun u H4 => r' y u H4 fun z' H5 => ∃ k', z' = .bl k' ∧ (if k' = true then k4e σ H5 fun v H6 => r2 u v H6 Q else Q (.bl false) H5) else Q (.bl false) H3)
theorem pe_chain3 {op op' op2 : CmpOp} {r r' r2 : R2} (ho : OpR X (compareOp op) r) (ho' : OpR X (compareOp op') r') (ho2 : OpR X (compareOp op2) r2) (ha : PE X a k1e) (hb : PE X b k2e) (hc : PE X c k3e) (hd : PE X d k4e)
    (hm : lastMarks [op, op', op2] [b, c, d] = false) : PE X (.Compare a [op, op', op2] [b, c, d] pos) (tChain3 r r' r2 k1e k2e k3e k4e) := by
  refine ⟨fun pins s σ H Q I h => ?_⟩
  refine Compare_chain (thn (ha.run pins s σ H _ I h) fun v s1 ⟨x, H1, I1, r1, q1⟩ => chain_link (thn (hb.run pins s1 σ H1 _ I1 q1) fun u s2 ⟨y, H2, I2, r2', q2⟩ =>
    thn (ho pins s2 σ H2 x y v u _ I2 r1 r2' q2) fun d1 s3 ⟨z, H3, I3, r3, k, e, q3⟩ => ?_)) hm
  subst e
  cases r3
  refine wpAny_truthy_bool ?_
  cases k with
  | false => exact ite_ff ⟨.bl false, H3, I3, rfl, q3⟩
  | true =>
    refine ite_tt (chain_link (thn (hc.run pins s3 σ H3 _ I3 q3) fun w' s4 ⟨u1, H4, I4, r4, q4⟩ => thn (ho' pins s4 σ H4 y u1 u w' _ I4 r2' r4 q4) fun d2 s5 ⟨z2, H5, I5, r5, k2, e2, q5⟩ => ?_))
    subst e2
    cases r5
    refine wpAny_truthy_bool ?_
    cases k2 with
    | false => exact ite_ff ⟨.bl false, H5, I5, rfl, q5⟩
    | true => exact ite_tt (chain_last (thn (hd.run pins s5 σ H5 _ I5 q5) fun w2 s6 ⟨z3, H6, I6, r6, q6⟩ => ho2 pins s6 σ H6 u1 z3 w' w2 Q I6 r4 r6 q6))
def eChain3 (o o' o2 : Op2) (a b c d : Ev) : Ev := fun σ h => (a σ h).bind fun x h1 => (b σ h1).bind fun y h2 => match o h2 x y with
  | some (.bl true) => (c σ h2).bind fun z h3 => (match o' h3 y z with
    | some (.bl true) => (d σ h3).bind fun w h4 => okE h4 (o2 h4 z w)
    | some (.bl false) => .ok (.bl false) h3
    | _ => .bad)
  | some (.bl false) => .ok (.bl false) h2
  | _ => .bad
theorem se_chain3 {n : Nm} {W : WX} {op op' op2 : CmpOp} {o o' o2 : Op2} {f g k m : Ev} (ho : OpR X (compareOp op) (rO (tb X n) o)) (ho' : OpR X (compareOp op') (rO (tb X n) o')) (ho2 : OpR X (compareOp op2) (rO (tb X n) o2))
    (ha : SE X n W a f) (hb : SE X n W b g) (hc : SE X n W c k) (hd : SE X n W d m) (hm : lastMarks [op, op', op2] [b, c, d] = false) : SE X n W (.Compare a [op, op', op2] [b, c, d] pos) (eChain3 o o' o2 f g k m) := by
  refine PE_imp (pe_chain3 ho ho' ho2 ha hb hc hd hm) fun τ H Q q => ?_
  obtain ⟨_, F, ρ, h, σ, s, l, p⟩ := q
  refine tM_bind s l p fun F1 ρ1 H1 x h1 vx x1 s1 l1 r1 p1 => ?_
  refine tM_bind s1 l1 p1 fun F2 ρ2 H2 y h2 vy x2 s2 l2 r2 p2 => ?_
  cases e : o h2 x y with
  | none => rw [e] at p2; exact p2.elim
  | some d1 =>
    refine ⟨_, F2, ρ2, h2, x, y, d1, s2, r1.mono x2, r2, e, fun F3 ρ3 H3 v x3 s3 r3 => ?_⟩
    rw [e] at p2
    cases r3 with
    | bl b1 =>
      refine ⟨b1, rfl, ?_⟩
      cases b1 with
      | false =>
        rw [if_neg Bool.false_ne_true]
        exact p2 F3 ρ3 H3 _ x3 s3 (.bl false)
      | true =>
        rw [if_pos rfl]
        refine tM_bind s3 (l2.mono x3) (Post.mono x3 p2 fun _ _ z => z) fun F4 ρ4 H4 z h4 vz x4 s4 l4 r4 p4 => ?_
        cases e2 : o' h4 y z with
        | none => rw [e2] at p4; exact p4.elim
        | some d2 =>
          refine ⟨_, F4, ρ4, h4, y, z, d2, s4, (r2.mono x3).mono x4, r4, e2, fun F5 ρ5 H5 v5 x5 s5 r5 => ?_⟩
          rw [e2] at p4
          cases r5 with
          | bl b2 =>
            refine ⟨b2, rfl, ?_⟩
            cases b2 with
            | false =>
              rw [if_neg Bool.false_ne_true]
              exact p4 F5 ρ5 H5 _ x5 s5 (.bl false)
            | true =>
              rw [if_pos rfl]
              refine tM_bind s5 (l4.mono x5) (Post.mono x5 p4 fun _ _ z => z) fun F6 ρ6 H6 w h6 vw x6 s6 l6 r6 p6 => ?_
              obtain ⟨d', e', k'⟩ := okE_post p6
              exact ⟨_, F6, ρ6, h6, z, w, d', s6, (r4.mono x5).mono x6, r6, e', k'⟩
          | _ => exact p4.elim
    | _ => exact p2.elim
end
/-! ### a module's number -/
def CnI (m : Md) (x : Str) (i : Int) : Prop := ∃ t, m.mg x = some (.int i t)
theorem se_cn {n : Nm} {W : WX} {X : Cx} {x : Str} {i : Int} {pos : Pos} (h : CnI (md X) x i) (hg : Gl X x) (hd : (x == ("__debug__" : Str)) = false) : SE X n W (.Name x pos) (eC (.int i)) := by
  obtain ⟨t, e⟩ := h
  exact se_glob (v := .int i) hg e ⟨t, rfl⟩ (fun _ _ _ => .int i) hd
/-! ### calls by the arguments' names -/
def prm {α : Type} (z : α) (ord : List Nat) (l : List α) : List α := ord.map fun i => l.getD i z
theorem prm_len {α : Type} (z : α) (ord : List Nat) (l : List α) : (prm z ord l).length = ord.length := by unfold prm; rw [List.length_map]
theorem Reps.prm {K : PySem.W.Frag} {F : Hp} {ρ : List Addr} {ds : List D} {vs : List V} (r : Reps K F ρ ds vs) : ∀ {ord : List Nat}, (∀ i ∈ ord, i < ds.length) → Reps K F ρ (MI.prm .non ord ds) (MI.prm .non ord vs)
  | [], _ => .nil
  | i :: ord, h => by
    have hi := h i (List.mem_cons_self ..)
    obtain ⟨v, e, q⟩ := r.get (i := i) (d := ds[i]) (List.getElem?_eq_getElem hi)
    refine .cons ?_ (Reps.prm r fun j hj => h j (List.mem_cons_of_mem _ hj))
    show Rep K F ρ (ds.getD i .non) (vs.getD i .non)
    rw [List.getD_eq_getElem?_getD, List.getElem?_eq_getElem hi, List.getD_eq_getElem?_getD, e]
    exact q
theorem vals_prm {vs : List V} {us : List Value} (r : Vals vs us) : ∀ {ord : List Nat}, (∀ i ∈ ord, i < vs.length) → Vals (prm .non ord vs) (prm .none ord us)
  | [], _ => .nil
  | i :: ord, h => by
    refine .cons ?_ (vals_prm r fun j hj => h j (List.mem_cons_of_mem _ hj))
    have hi := h i (List.mem_cons_self ..)
    clear h
    induction r generalizing i with
    | nil => exact absurd hi (by simp)
    | @cons x u xs us a b ih =>
      cases i with
      | zero => exact a
      | succ i => exact ih (i := i) (by simpa using hi)
/-- a function, as it is called with np arguments by places and these names -/
structure GFK (m : Md) (n : Nm) (x : Str) (k np : Nat) (ks : List Str) (ord : List Nat) (g : Fn) : Prop where
  ex : ∃ (f : Addr) (fd : FuncData) (ps : List Str), m.mg x = some (.ref f) ∧ PySem.W.keepIn m.K (.ref f) = true ∧ ps.length = ord.length ∧ (∀ i ∈ ord, i < np + ks.length) ∧
    (∀ (s : Shared) (us ws : List Value), us.length = np → ws.length = ks.length → BindsTo s fd ⟨us, ks.zip ws⟩ (ps.zip (prm .none ord (us ++ ws)))) ∧ FnG m n k f fd ps g
theorem bindsK {K : PySem.W.Frag} {x qual : Str} {params : Arguments} {body : List Stmt} {scope : Scope} {kws : List (Str × V)} {f : Addr} {fd : FuncData} (F : FunD K x qual params body scope [] kws f fd) {us : List Value} {kw l : List (Str × Value)}
    (h : ∀ (kV doc pm : Value) (an : Option Addr) (cdv ct : Value), bindArgs (PySem.W.fnOf x qual params body scope .none kV doc pm an cdv ct) ⟨us, kw⟩ = pure l) (s : Shared) : BindsTo s fd ⟨us, kw⟩ l := by
  obtain ⟨oc, od, dV, kV, doc, pm, an, cdv, ct, osl, rfl, lk, hcd, hD, hK⟩ := F.ex
  rcases hD with ⟨_, rfl⟩ | ⟨e, _⟩
  · exact .of_eq (h kV doc pm an cdv ct)
  · exact absurd rfl e
abbrev SK (X : Cx) (n : Nm) (W : WX) (kws : List Keyword) (f : EvL) : Prop := PK X kws (tML (tb X n) W f)
section
variable {L : Md → Prop} {n : Nm} {k : Nat} {W : WX} {ow : Str → Bool} {N : List Str} {sc : Scope} {X : Cx} {pos : Pos}
theorem PK_imp {kws : List Keyword} {t t' : TA} (h : PK X kws t) (i : ∀ σ H Q, t' σ H Q → t σ H Q) : PK X kws t' := ⟨fun pos pins s σ H Q I q => h.run pos pins s σ H Q I (i σ H Q q)⟩
theorem sk_nil : SK X n W [] aNil := PK_imp pk_nil fun τ H Q q => by
  obtain ⟨_, F, ρ, h, σ, s, l, p⟩ := q
  exact p F ρ H _ (Ext.refl _ _) s .nil
theorem sk_cons {nm : Option Str} {e : Expr} {kp : Pos} {kws : List Keyword} {f : Ev} {r : EvL} (h1 : SE X n W e f) (h2 : SK X n W kws r) : SK X n W (⟨nm, e, kp⟩ :: kws) (aCons f r) := PK_imp (pk_cons h1 h2) fun τ H Q q => by
  obtain ⟨_, F, ρ, h, σ, s, l, p⟩ := q
  refine ⟨_, F, ρ, h, σ, s, l, ?_⟩
  unfold aCons at p
  cases e1 : f σ h with
  | exc x h' => rw [e1] at p; exact p
  | bad => rw [e1] at p; exact p
  | ok d h1 =>
    rw [e1] at p
    intro F1 ρ1 H1 v x1 s1 r1
    refine ⟨_, F1, ρ1, h1, σ, s1, l.mono x1, ?_⟩
    cases e2 : r σ h1 with
    | exc x h' =>
      simp only [Res.bind, e2] at p
      exact fun F' ρ' H' c d y s' xi => p F' ρ' H' c d (x1.trans y) s' xi
    | bad =>
      simp only [Res.bind, e2] at p
      exact p
    | ok ds h2 =>
      simp only [Res.bind, e2] at p
      exact fun F' ρ' H' vs y s' rs => p F' ρ' H' _ (x1.trans y) s' (.cons (r1.mono y) rs)
/-- arguments by places, then by names -/
def aApp (as bs : EvL) : EvL := fun σ h => (as σ h).bind fun ds h1 => (bs σ h1).bind fun es h2 => .ok (ds ++ es) h2
def eCallK (ord : List Nat) (g : Fn) (as : EvL) : Ev := fun σ h => (as σ h).bind fun ds h1 => if ∀ i ∈ ord, i < ds.length then g (prm .non ord ds) h1 else .bad
theorem run_gk (c : Cc L n k W ow N sc X) {f : Addr} {fd : FuncData} {ps : List Str} {g : Fn} {j : Nat} (FG : FnG (md X) n j f fd ps g) (hj : j ≤ k) {args : Args} {pins : List (Addr × Obj)} {τ : Tv} {H : Hp} {s : Shared} {Q : VK} {us : List Value} {vs : List V} (I : Inv X pins τ H s) (hbd : BindsTo s fd args (ps.zip us)) (r : Vals vs us)
    (h : spM (tb X n) ps.length g vs H Q fun c d H' => W c d τ H') : codeAny (model X.prog X.w) X.A (.call (.ref f) args) (callEnd (EP X pins τ Q) X.xe) s := run_g c FG hj I hbd r h
theorem se_callK (c : Cc L n k W ow N sc X) {x : Str} {j np : Nat} {ks : List Str} {ord : List Nat} {g : Fn} (G : GFK (md X) n x j np ks ord g) (hj : j ≤ k) (hg : gloB sc x = true) (hdb : (x == ("__debug__" : Str)) = false) {e : Expr} {es : List Expr} {kws : List Keyword} {as bs : EvL} {p1 : Pos} (ha : SA X n W (e :: es) as) (hk : SK X n W kws bs)
    (hl1 : ∀ σ h ds h', as σ h = .ok ds h' → ds.length = np) (hl2 : ∀ σ h ds h', bs σ h = .ok ds h' → ds.length = ks.length)
    (hall : (backToKw pos (keywordEach kws X.env)).all (·.1.isSome) = true) (hks : (backToKw pos (keywordEach kws X.env)).filterMap (·.1) = ks)
    (he : starEach (e :: es) X.env = (false, eval e X.env) :: starEach es X.env) (hpl : ((backTo pos (starEach (e :: es) X.env)).any (·.1) || (backToKw pos (keywordEach kws X.env)).any (·.1.isNone)) = false) :
    SE X n W (.Call (.Name x p1) (e :: es) kws pos) (eCallK ord g (aApp as bs)) := by
  obtain ⟨f, fd, ps, e1, e2, e3, e4, bd, FG⟩ := G.ex
  refine ⟨fun pins s τ H Q I q => ?_⟩
  refine wpAny_Call_Name_kw (ld_glob I (c.glo hg) e1 ?_ hdb)
  obtain ⟨pr, F, ρ, h, σ, sr, l, p⟩ := q
  refine PySem.W.callWith_KW (h₀ := X.base) I.ok.mod.kin e2 hall (thn (ha.run pos pins s τ H (fun vs H1 => ∃ F1 ρ1 h1 ds, SR ((tb X n).at pr) F1 ρ1 H1 h1 ∧ SLR X.K F1 ρ1 σ τ ∧ Reps X.K F1 ρ1 ds vs ∧ ds.length = np ∧
      Post ((tb X n).at pr) F1 ρ1 ((bs σ h1).bind fun es h2 => if ∀ i ∈ ord, i < (ds ++ es).length then g (prm .non ord (ds ++ es)) h2 else .bad) Q fun c d H' => W c d τ H') I ?_) fun us s1 ⟨vs, H1, I1, r1, F1, ρ1, h1, ds, S1, l1, rp1, n1, p1⟩ => ?_) hpl he
  · refine ⟨pr, F, ρ, h, σ, sr, l, ?_⟩
    unfold eCallK aApp at p
    cases ea : as σ h with
    | ok ds h1 =>
      simp only [ea, Res.bind] at p
      intro F1 ρ1 H1 vs x1 S1 r1
      refine ⟨F1, ρ1, h1, ds, S1, l.mono x1, r1, hl1 _ _ _ _ ea, Post.mono x1 ?_ fun _ _ q => q⟩
      cases eb : bs σ h1 with
      | ok es h2 => rw [eb] at p; exact p
      | exc y h2 => rw [eb] at p; exact p
      | bad => rw [eb] at p; exact p
    | exc y h1 =>
      simp only [ea, Res.bind] at p
      exact p
    | bad =>
      simp only [ea, Res.bind] at p
      exact p
  · refine thn (hk.run pos pins s1 τ H1 (fun ws H2 => ∃ F2 ρ2 h2 es, SR ((tb X n).at pr) F2 ρ2 H2 h2 ∧ Reps X.K F2 ρ2 (ds ++ es) (vs ++ ws) ∧ es.length = ks.length ∧
      Post ((tb X n).at pr) F2 ρ2 (if ∀ i ∈ ord, i < (ds ++ es).length then g (prm .non ord (ds ++ es)) h2 else .bad) Q fun c d H' => W c d τ H') I1 ?_) fun ws s2 ⟨zs, H2, I2, rz, F2, ρ2, h2, es2, S2, rp2, n2, p2⟩ => ⟨I2.kIn, ?_⟩
    · refine ⟨pr, F1, ρ1, h1, σ, S1, l1, ?_⟩
      cases eb : bs σ h1 with
      | ok es h2 =>
        rw [eb] at p1
        exact fun F2 ρ2 H2 ws x2 S2 r2 => ⟨F2, ρ2, h2, es, S2, (rp1.mono x2).append r2, hl2 _ _ _ _ eb, Post.mono x2 p1 fun _ _ q => q⟩
      | exc y h2 => rw [eb] at p1; exact p1
      | bad => rw [eb] at p1; exact p1
    · rw [hks]
      split at p2
      · rename_i hi
        have lu : us.length = np := by rw [← r1.length, ← rp1.length, n1]
        have lw : ws.length = ks.length := by rw [← rz.length, ← n2]; have := rp2.length; rw [List.length_append, List.length_append] at this; have := rp1.length; omega
        have rall : Vals (vs ++ zs) (us ++ ws) := r1.append rz
        refine wpAny_call (run_g c FG hj I2 (bd s2 us ws lu lw) (vals_prm rall fun i h => by rw [← rp2.length]; exact hi i h) ⟨by rw [prm_len, e3], pr, F2, ρ2, h2, _, S2, rp2.prm hi, p2⟩)
      · exact p2.elim
theorem se_callK0 (c : Cc L n k W ow N sc X) {x : Str} {j : Nat} {ks : List Str} {ord : List Nat} {g : Fn} (G : GFK (md X) n x j 0 ks ord g) (hj : j ≤ k) (hg : gloB sc x = true) (hdb : (x == ("__debug__" : Str)) = false) {kws : List Keyword} {bs : EvL} {p1 : Pos} (hk : SK X n W kws bs)
    (hl2 : ∀ σ h ds h', bs σ h = .ok ds h' → ds.length = ks.length)
    (hall : (backToKw pos (keywordEach kws X.env)).all (·.1.isSome) = true) (hks : (backToKw pos (keywordEach kws X.env)).filterMap (·.1) = ks)
    (hpl : ((backTo pos (starEach [] X.env)).any (·.1) || (backToKw pos (keywordEach kws X.env)).any (·.1.isNone)) = false) :
    SE X n W (.Call (.Name x p1) [] kws pos) (eCallK ord g bs) := by
  obtain ⟨f, fd, ps, e1, e2, e3, e4, bd, FG⟩ := G.ex
  refine ⟨fun pins s τ H Q I q => ?_⟩
  refine wpAny_Call_Name_kw (ld_glob I (c.glo hg) e1 ?_ hdb)
  obtain ⟨pr, F, ρ, h, σ, sr, l, p⟩ := q
  refine PySem.W.callWith_KW0 (h₀ := X.base) I.ok.mod.kin e2 hall (thn (hk.run pos pins s τ H (fun ws H2 => ∃ F2 ρ2 h2 es, SR ((tb X n).at pr) F2 ρ2 H2 h2 ∧ Reps X.K F2 ρ2 es ws ∧ es.length = ks.length ∧
      Post ((tb X n).at pr) F2 ρ2 (if ∀ i ∈ ord, i < es.length then g (prm .non ord es) h2 else .bad) Q fun c d H' => W c d τ H') I ?_) fun ws s2 ⟨zs, H2, I2, rz, F2, ρ2, h2, es2, S2, rp2, n2, p2⟩ => ⟨I2.kIn, ?_⟩) hpl
  · refine ⟨pr, F, ρ, h, σ, sr, l, ?_⟩
    unfold eCallK at p
    cases eb : bs σ h with
    | ok es h2 =>
      rw [eb] at p
      exact fun F2 ρ2 H2 ws x2 S2 r2 => ⟨F2, ρ2, h2, es, S2, r2, hl2 _ _ _ _ eb, Post.mono x2 p fun _ _ q => q⟩
    | exc y h2 => rw [eb] at p; exact p
    | bad => rw [eb] at p; exact p
  · rw [hks]
    split at p2
    · rename_i hi
      have lw : ws.length = ks.length := by rw [← rz.length, ← rp2.length, n2]
      exact wpAny_call (run_g c FG hj I2 (bd s2 [] ws rfl lw) (vals_prm rz fun i h => by rw [← rp2.length]; exact hi i h) ⟨by rw [prm_len, e3], pr, F2, ρ2, h2, _, S2, rp2.prm hi, p2⟩)
    · exact p2.elim
end
end MI

/-! MI, part ZE: what the head says of classes. -/
namespace MI
open PySem PySem.Spec L2
/-! ### the hook: facts of one's own beside the kit's -/
abbrev AlX : Type := Bool × He.AlD
def obsX (fb : List (PySem.W.Frag → Bool)) (fa : List He.Fa) (fn : List He.DefD) (K : PySem.W.Frag) : AlX := (fb.all fun f => f K, He.obsD fa fn K)
def valX (fn : List He.DefD) : AlX := (true, He.valD fn)
structure SaysX (fb : List (PySem.W.Frag → Bool)) (fa : List He.Fa) (fn : List He.DefD) (K : PySem.W.Frag) : Prop where
  own : ∀ f ∈ fb, f K = true
  kit : He.SaysD fa fn K
theorem says_of {fb : List (PySem.W.Frag → Bool)} {fa : List He.Fa} {fn : List He.DefD} {K : PySem.W.Frag} (h : obsX fb fa fn K = valX fn) : SaysX fb fa fn K :=
  ⟨fun f hf => List.all_eq_true.mp (congrArg (fun z : AlX => z.1) h) f hf, congrArg (fun z : AlX => z.2) h⟩
theorem SaysX.fact {fb : List (PySem.W.Frag → Bool)} {fa : List He.Fa} {fn : List He.DefD} {K : PySem.W.Frag} (c : SaysX fb fa fn K) (i : Nat) {f : PySem.W.Frag → Bool} (h : fb[i]? = some f) : f K = true := c.own f (List.mem_of_getElem? h)
def obsXG (n : Nat) (fb : List (PySem.W.Frag → Bool)) (fa : List He.Fa) (fn : List He.DefD) (g : Addr → Option Obj) : AlX := obsX fb fa fn (He.frG g (cStatics :: He.asD g n))
def hookX (n : Nat) (fb : List (PySem.W.Frag → Bool)) (fa : List He.Fa) (fn : List He.DefD) : PySem.W.Hook where
  α := AlX
  obs := fun s => obsXG n fb fa fn s.heap.get?
  val := fun _ => valX fn
  says := fun _ h => ∃ K : PySem.W.Frag, K.In h ∧ SaysX fb fa fn K
  of := fun _ _ e => ⟨_, He.frG_in, says_of e⟩
  keeps := fun _ _ _ ⟨K, hK, c⟩ k => ⟨K, PySem.W.Frag.In.keeps hK k, c⟩
theorem obsXG_eq {n : Nat} {fb : List (PySem.W.Frag → Bool)} {fa : List He.Fa} {fn : List He.DefD} {g : Addr → Option Obj} {s : Shared} (h : ∀ a, g a = s.heap.get? a) : obsXG n fb fa fn g = (hookX n fb fa fn).obs s := by
  have e : g = s.heap.get? := funext h
  rw [e]
  rfl
/-! ### the built-in exception classes below -/
inductive Bk where
  | ve | le | oe | re
def Bk.b : Bk → String
  | .ve => "ValueError"
  | .le => "LookupError"
  | .oe => "OverflowError"
  | .re => "RuntimeError"
def Bk.nw : Bk → String
  | .ve => "ValueError.__new__"
  | .le => "LookupError.__new__"
  | .oe => "OverflowError.__new__"
  | .re => "RuntimeError.__new__"
def Bk.ini : Bk → String
  | .ve => "ValueError.__init__"
  | .le => "LookupError.__init__"
  | .oe => "OverflowError.__init__"
  | .re => "RuntimeError.__init__"
def Bk.bm : Bk → List Value
  | .ve => [.type "ValueError", .type "Exception", .type "BaseException", .type "object"]
  | .le => [.type "LookupError", .type "Exception", .type "BaseException", .type "object"]
  | .oe => [.type "OverflowError", .type "ArithmeticError", .type "Exception", .type "BaseException", .type "object"]
  | .re => [.type "RuntimeError", .type "Exception", .type "BaseException", .type "object"]
theorem Bk.fb (k : Bk) : ExcBaseFacts k.b k.nw k.ini k.bm := by
  cases k
  · exact F.excBase_ValueError
  · exact F.excBase_LookupError
  · exact F.excBase_OverflowError
  · exact F.excBase_RuntimeError
theorem Bk.sf (k : Bk) : StoreFacts k.b k.bm "object.__setattr__" "object" := by
  cases k
  · exact F.store_ValueError
  · exact F.store_LookupError
  · exact F.store_OverflowError
  · exact F.store_RuntimeError
theorem Bk.hand (k : Bk) : PySem.W.handedIn (.builtin k.ini) = true := by cases k <;> decide +kernel
theorem Bk.boot (k : Bk) : bootBuiltins (Str.ofString k.b) = some (.type k.b) ∧ (Str.ofString k.b ≠ "__name__") ∧ typeOf (.type k.b) = pure (.type "type") ∧ Manifest.isStub k.b = false := by
  cases k <;> exact ⟨by decide +kernel, by decide +kernel, by kernel_rfl, by decide +kernel⟩
/-! ### facts of classes -/
def oB (a b : Option (Option Value)) : Bool := decide (a = b)
def xcB (k : Bk) (x : Str) (K : PySem.W.Frag) : Bool := PySem.W.excInitIn K (He.ga K x) k.bm k.nw && (PySem.W.hasDictIn K (He.ga K x) && (oB (PySem.W.findIn K (.ref (He.ga K x)) "__setattr__") (some (some (.builtin "object.__setattr__"))) &&
  (oB (PySem.W.findIn K (.ref (He.ga K x)) "__getattribute__") (some (some (.builtin "BaseException.__getattribute__"))) && (oB (PySem.W.findIn K (.ref (He.ga K x)) "__getattr__") (some none) && (decide (PySem.W.subIn K (.ref (He.ga K x)) (.type "BaseException") = some true) &&
  (decide (PySem.W.typeIn K (.ref (He.ga K x)) = some (.type "type")) && PySem.W.keepIn K (.ref (He.ga K x))))))))
theorem xcB_ok {k : Bk} {x : Str} {K : PySem.W.Frag} (h : xcB k x K = true) : XC K (He.ga K x) k.b k.nw k.ini k.bm := by
  unfold xcB oB at h
  simp only [Bool.and_eq_true, decide_eq_true_eq] at h
  obtain ⟨h1, h2, h3, h4, h5, h6, h7, h8⟩ := h
  exact ⟨k.fb, k.sf, h1, h2, h3, h4, h5, h6, h7, h8⟩
/-- an __init__ that is a def -/
def inB (x : Str) (K : PySem.W.Frag) : Bool := oB (PySem.W.findIn K (.ref (He.ga K x)) "__init__") (some (some (.ref (He.ma K (He.ga K x) "__init__")))) && decide (PySem.W.typeIn K (.ref (He.ma K (He.ga K x) "__init__")) = some (.type "function"))
theorem inB_ok {x : Str} {K : PySem.W.Frag} (h : inB x K = true) : PySem.W.findIn K (.ref (He.ga K x)) "__init__" = some (some (.ref (He.fAd K (x, some "__init__")))) ∧ PySem.W.typeIn K (.ref (He.fAd K (x, some "__init__"))) = some (.type "function") := by
  unfold inB oB at h
  simp only [Bool.and_eq_true, decide_eq_true_eq] at h
  exact h
def noB (x f : Str) (K : PySem.W.Frag) : Bool := oB (PySem.W.findIn K (.ref (He.ga K x)) f) (some none)
theorem noB_ok {x f : Str} {K : PySem.W.Frag} (h : noB x f K = true) : PySem.W.findIn K (.ref (He.ga K x)) f = some none := of_decide_eq_true h
/-- a base's __init__: of an own class | of a built-in one -/
def clsI (K : PySem.W.Frag) (c : Value) (i : String) : Bool := match PySem.W.findCls K c (.type "type") "__init__" with
  | some (.val (.builtin j)) => decide (j = i)
  | _ => false
theorem clsI_ok {K : PySem.W.Frag} {c : Value} {i : String} (h : clsI K c i = true) : PySem.W.findCls K c (.type "type") "__init__" = some (.val (.builtin i)) := by
  unfold clsI at h
  split at h
  · rename_i j e
    rw [e, of_decide_eq_true h]
  · cases h
def xbB (k : Bk) (b : Str) (K : PySem.W.Frag) : Bool := PySem.W.readsIn K (He.ga K b) (.type "type") && (oB (PySem.W.specialIn K (.ref (He.ga K b)) "__getattribute__") (some (some (.builtin "type.__getattribute__"))) && clsI K (.ref (He.ga K b)) k.ini)
theorem xbB_ok {k : Bk} {b : Str} {K : PySem.W.Frag} {mg : Str → Option Value} (h : xbB k b K = true) (hm : mg b = some (.ref (He.ga K b))) : XB K mg b k.ini := by
  unfold xbB oB at h
  simp only [Bool.and_eq_true, decide_eq_true_eq] at h
  exact .own _ hm h.1 h.2.1 (clsI_ok h.2.2)
def xtB (k : Bk) (K : PySem.W.Frag) : Bool := clsI K (.type k.b) k.ini
theorem xtB_ok {k : Bk} {K : PySem.W.Frag} {mg : Str → Option Value} (h : xtB k K = true) (hm : mg (Str.ofString k.b) = none) : XB K mg (Str.ofString k.b) k.ini := by
  obtain ⟨h1, h2, h3, h4⟩ := k.boot
  exact .blt k.b hm h1 h2 h3 h4 (clsI_ok h)
/-- an own exception class without __init__ -/
def x0B (k : Bk) (x : Str) (K : PySem.W.Frag) : Bool := PySem.W.excIn K (He.ga K x) k.bm k.nw && (PySem.W.keepIn K (.ref (He.ga K x)) && (decide (PySem.W.subIn K (.ref (He.ga K x)) (.type "BaseException") = some true) && decide (PySem.W.typeIn K (.ref (He.ga K x)) = some (.type "type"))))
theorem x0B_ok {k : Bk} {x : Str} {m : Md} {n : Nm} {c : Nat} (h : x0B k x m.K = true) (hn : n.ca c = He.ga m.K x) (hm : m.mg x = some (.ref (He.ga m.K x))) : XD0 m n x c := by
  unfold x0B at h
  simp only [Bool.and_eq_true, decide_eq_true_eq] at h
  rw [← hn] at h hm
  exact ⟨k.b, k.nw, k.ini, k.bm, hm, k.fb, h.1, h.2.1, h.2.2.1, h.2.2.2⟩
/-! ### tables -/
def lookT (tab : List (Nat × Tg × Bool)) (c : Nat) (t : Tg) : Option Bool := (tab.find? fun q => decide (q.1 = c) && decide (q.2.1 = t)).map (·.2.2)
def lookC (tab : List (Nat × Nat × Bool)) (c j : Nat) : Option Bool := (tab.find? fun q => decide (q.1 = c) && decide (q.2.1 = j)).map (·.2.2)
theorem lookT_mem {tab : List (Nat × Tg × Bool)} {c : Nat} {t : Tg} {b : Bool} (h : lookT tab c t = some b) : (c, t, b) ∈ tab := by
  unfold lookT at h
  cases e : tab.find? fun q => decide (q.1 = c) && decide (q.2.1 = t) with
  | none => rw [e] at h; cases h
  | some q =>
    rw [e] at h
    have m := List.mem_of_find?_eq_some e
    have p := List.find?_some e
    simp only [Bool.and_eq_true, decide_eq_true_eq] at p
    obtain ⟨q1, q2, q3⟩ := q
    obtain ⟨rfl, rfl⟩ := p
    cases h
    exact m
theorem lookC_mem {tab : List (Nat × Nat × Bool)} {c j : Nat} {b : Bool} (h : lookC tab c j = some b) : (c, j, b) ∈ tab := by
  unfold lookC at h
  cases e : tab.find? fun q => decide (q.1 = c) && decide (q.2.1 = j) with
  | none => rw [e] at h; cases h
  | some q =>
    rw [e] at h
    have m := List.mem_of_find?_eq_some e
    have p := List.find?_some e
    simp only [Bool.and_eq_true, decide_eq_true_eq] at p
    obtain ⟨q1, q2, q3⟩ := q
    obtain ⟨rfl, rfl⟩ := p
    cases h
    exact m
/-- the classes' names, the fields' names -/
def nmOf (cn an : List Str) (K : PySem.W.Frag) : Nm := ⟨fun i => He.ga K (cn.getD i ""), anOf an⟩
def tstB (cn : List Str) (tab : List (Nat × Nat × Bool)) (K : PySem.W.Frag) : Bool := tab.all fun q => decide (PySem.W.exmOne K (.ref (He.ga K (cn.getD q.1 ""))) (.ref (He.ga K (cn.getD q.2.1 ""))) = some q.2.2)
theorem tstB_ok {cn an : List Str} {tab : List (Nat × Nat × Bool)} {m : Md} (h : tstB cn tab m.K = true) : TSt m (nmOf cn an m.K) (lookC tab) := fun c j b e =>
  of_decide_eq_true (List.all_eq_true.mp h _ (lookC_mem e))
def xiB (x : Str) (K : PySem.W.Frag) : Bool := (PySem.W.clsIn K (He.ga K x)).isSome && (PySem.W.hasDictIn K (He.ga K x) && (oB (PySem.W.findIn K (.ref (He.ga K x)) "__getattribute__") (some (some (.builtin "BaseException.__getattribute__"))) && (oB (PySem.W.findIn K (.ref (He.ga K x)) "__getattr__") (some none) &&
  (decide (PySem.W.subIn K (.ref (He.ga K x)) (.type "BaseException") = some true) && (oB (PySem.W.findIn K (.ref (He.ga K x)) "__class__") (some (some (.builtin "object.__class__"))) && (oB (PySem.W.specialIn K (.builtin "object.__class__") "__get__") (some (some (.builtin "getset_descriptor.__get__"))) &&
  (decide (PySem.W.takesIn K (.builtin "object.__class__") = some true) && decide (PySem.W.mroIn K (He.ga K x) (.type "object") = some true))))))))
theorem xiB_ok {x : Str} {K : PySem.W.Frag} (h : xiB x K = true) : XI K (He.ga K x) := by
  unfold xiB oB at h
  simp only [Bool.and_eq_true, decide_eq_true_eq] at h
  obtain ⟨h1, h2, h3, h4, h5, h6, h7, h8, h9⟩ := h
  exact ⟨h1, h2, h3, h4, h5, h6, h7, h8, h9⟩
def tgU (cn : List Str) (K : PySem.W.Frag) : Tg → Value
  | .own j => .ref (He.ga K (cn.getD j ""))
  | .ty T => .type T
def isxB (cn : List Str) (tab : List (Nat × Tg × Bool)) (K : PySem.W.Frag) : Bool := tab.all fun q => xiB (cn.getD q.1 "") K && decide (PySem.W.kitOne K (.ref (He.ga K (cn.getD q.1 ""))) (tgU cn K q.2.1) = some q.2.2)
theorem isxB_ok {cn an : List Str} {tab : List (Nat × Tg × Bool)} {m : Md} (h : isxB cn tab m.K = true) : ISt m (nmOf cn an m.K) (lookT tab) := by
  have q : ∀ c t b, lookT tab c t = some b → _ := fun c t b e => Bool.and_eq_true_iff.mp (List.all_eq_true.mp h _ (lookT_mem e))
  refine ⟨fun c t b e => xiB_ok (q c t b e).1, fun c t b e => ?_⟩
  have := of_decide_eq_true (q c t b e).2
  cases t <;> exact this
def inT (tab : List (Nat × Nat)) (c i : Nat) : Bool := tab.any fun q => decide (q.1 = c) && decide (q.2 = i)
theorem inT_mem {tab : List (Nat × Nat)} {c i : Nat} (h : inT tab c i = true) : (c, i) ∈ tab := by
  obtain ⟨q, m, p⟩ := List.any_eq_true.mp h
  simp only [Bool.and_eq_true, decide_eq_true_eq] at p
  obtain ⟨q1, q2⟩ := q
  obtain ⟨rfl, rfl⟩ := p
  exact m
def axB (cn an : List Str) (tab : List (Nat × Nat)) (K : PySem.W.Frag) : Bool := tab.all fun q => xiB (cn.getD q.1 "") K && noB (cn.getD q.1 "") (anOf an q.2) K
def aiB (cn an : List Str) (tab : List (Nat × Nat)) (K : PySem.W.Frag) : Bool := tab.all fun q => (He.Fa.cls (cn.getD q.1 "")).ok K && (He.Fa.noat (cn.getD q.1 "") (anOf an q.2)).ok K
theorem aB_ok {cn an : List Str} {tx ti : List (Nat × Nat)} {m : Md} (nd : an.Nodup) (h0 : ∀ s ∈ an, s.cps[0]? ≠ some 0) (h : axB cn an tx m.K = true) (h2 : aiB cn an ti m.K = true) : ASt m (nmOf cn an m.K) (inT tx) (inT ti) := by
  have q : ∀ c i, inT tx c i = true → _ := fun c i e => Bool.and_eq_true_iff.mp (List.all_eq_true.mp h _ (inT_mem e))
  have q2 : ∀ c i, inT ti c i = true → _ := fun c i e => Bool.and_eq_true_iff.mp (List.all_eq_true.mp h2 _ (inT_mem e))
  exact ⟨an_inj nd h0, fun c i e => xiB_ok (q c i e).1, fun c i e => noB_ok (q c i e).2, fun c i e => He.cls_ok (q2 c i e).1, fun c i e => He.noat_ok (q2 c i e).2⟩
/-- an own exception class with fields, from all this -/
theorem xd_of {m : Md} {n : Nm} {x : Str} {c : Nat} {ix : List Nat} {k : Bk} {fd : FuncData} {ps : List Str} (hn : n.ca c = He.ga m.K x) (hm : m.mg x = some (.ref (He.ga m.K x))) (hx : xcB k x m.K = true) (hi : inB x m.K = true)
    (F1 : FnOk m.P m.w m.K m.mg m.base CX0 1 (He.fAd m.K (x, some "__init__")) fd ps (spX (He.ga m.K x) (ix.map n.an))) (hb : Binds m.K fd ps []) : XD m n x c ix := by
  obtain ⟨h1, h2⟩ := inB_ok hi
  have T := xcB_ok hx
  refine ⟨He.fAd m.K (x, some "__init__"), fd, ps, k.b, k.nw, k.ini, k.bm, ?_⟩
  rw [hn]
  exact ⟨hm, T, h1, h2, F1, hb⟩
end MI

/-! MI, part ZF: small helps for the printer. -/
namespace MI
open PySem PySem.Spec L2
def locL (sc : Scope) (y : Str) : Bool := match sc.names.lookup y with
  | some .local => true
  | _ => false
section
variable {L : Md → Prop} {n : Nm} {k : Nat} {W : WX} {ow : Str → Bool} {N : List Str} {sc : Scope} {X : Cx}
theorem Cc.kl (c : Cc L n k W ow N sc X) {y : Str} (h : locL sc y = true) : X.env.kindOf y = some .local := by
  show X.env.scope.names.lookup y = _
  rw [c.hs]
  unfold locL at h
  split at h
  · assumption
  · cases h
theorem Cw.glo (c : Cw L n ow N sc X) {x : Str} (h : gloB sc x = true) : Gl X x := by
  show X.env.scope.names.lookup x = _
  rw [c.hs]
  unfold gloB at h
  split at h
  · assumption
  · cases h
end
def clsBody (s : Stmt) : List Stmt := match s with
  | .ClassDef _ _ _ b _ _ _ _ _ _ _ => b
  | _ => []
def methOf (s : Stmt) (j : Nat) : Stmt := (clsBody s).getD j (.Pass ⟨0, 0, 0, 0⟩)
theorem cn_of {K : PySem.W.Frag} {h : Heap} {m : Md} (X : K.In h) (G : h.Ns mainGlobals m.mg) {x : Str} {i : Int} (c : (He.Fa.int x i).ok K = true) : CnI m x i := He.int_ok X G c
end MI
namespace MI
open PySem PySem.Spec L2
/-- a function, called by names, from what is known of its calls by places -/
theorem gfk_of {m : Md} {n : Nm} {k np : Nat} {ks : List Str} {ord : List Nat} {x qual : Str} {params : Arguments} {body : List Stmt} {sc : Scope} {f : Addr} {fd : FuncData} {ps : List Str} {g : Fn} (FD : FunD m.K x qual params body sc [] [] f fd) (hm : m.mg x = some (.ref f)) (G : FnG m n k f fd ps g)
    (hl : ps.length = ord.length) (ho : ∀ i ∈ ord, i < np + ks.length)
    (h : ∀ (kV doc pm : Value) (an : Option Addr) (cdv ct : Value) (us ws : List Value), us.length = np → ws.length = ks.length → bindArgs (PySem.W.fnOf x qual params body sc .none kV doc pm an cdv ct) ⟨us, ks.zip ws⟩ = pure (ps.zip (prm .none ord (us ++ ws)))) : GFK m n x k np ks ord g :=
  ⟨f, fd, ps, hm, FD.kp, hl, ho, fun s us ws h1 h2 => bindsK FD (fun kV doc pm an cdv ct => h kV doc pm an cdv ct us ws h1 h2) s, G⟩
end MI

/-! MI, part ZG: dict comprehensions (one clause), keys whole numbers, texts, tuples of these. -/
namespace MI
open PySem PySem.Spec L2 PyProof.Rows

/-! ### the new dict, not yet numbered -/
section
variable {X : Cx} {pins : List (Addr × Obj)} {σ : L2.St} {H : Hp} {s : Shared} {F : Hp} {ρ : List Addr}
theorem dictN_of (I : Inv X pins σ H s) (S : Le F H) {a : Addr} {kvs : DK} {xs : List (NestedKey × V × V)} (e3 : H a = some (DictO X.w a xs)) (e5 : DRel X.K F ρ kvs xs) (e6 : (xs.map (·.1)).Nodup) :
    ∃ ys : KVs Value, KRel X.K F ρ kvs ys ∧ DictN X.w s.heap a ys := by
  obtain ⟨⟨o, es, ep, g1, g2, g3, gz, g4⟩, _⟩ := (show ObjOk X.prog X.w H s.heap a (DictO X.w a xs) from I.hok a _ e3)
  obtain ⟨ys, k1, k2, k3⟩ := KRel.of e5 g4
  refine ⟨ys, k1, o, es, ep, g1, g2, g3, k2, ?_, (by rw [k3]; exact e6), (by have := congrArg List.length k3; rw [List.length_map, List.length_map] at this; omega)⟩
  have aux : ∀ {ds : DK} {ys : KVs Value}, KRel X.K F ρ ds ys → ∀ y ∈ ys, NestedIs s.heap y.1 y.2.1 ∧ y.1.depth ≤ 8 := by
    intro ds ys kr
    induction kr with
    | nil => intro y hy; simp at hy
    | cons a b c d e f g ih =>
      intro y hy
      rcases List.mem_cons.mp hy with z | z
      · subst z; exact ⟨rep_nested I S c d a, b⟩
      · exact ih y z
  exact aux k1
end
def rDSet (K : PySem.W.Frag) (w : World) (D : Addr) (y z : V) (H : Hp) (Nx : Hp → Prop) : Prop := ∃ (F : Hp) (ρ : List Addr) (kvs : DK) (dk dv : MI.D) (k : NestedKey) (xs : List (NestedKey × V × V)), Le F H ∧ Rep K F ρ dk y ∧ Rep K F ρ dv z ∧ dk.key = some k ∧ k.depth ≤ 8 ∧ H D = some (DictO w D xs) ∧ DRel K F ρ kvs xs ∧ (xs.map (·.1)).Nodup ∧ kvs.length < lim ∧
  ∀ xs', DRel K F ρ (setD kvs dk dv) xs' → (xs'.map (·.1)).Nodup → Nx (upd H D (DictO w D xs'))
theorem dset_ok {Y : Cx} {pins : List (Addr × Obj)} {σ : L2.St} {H : Hp} {s : Shared} {D : Addr} {y z : V} {u r : Value} {Nx : Hp → Prop} {Q : Unit → Shared → Prop} {E : Value → Shared → Prop} (hu : Y.A.units + 64 < cLine) (I : Inv Y pins σ H s) (ry : RelV y u) (rz : RelV z r) (h : rDSet Y.K Y.w D y z H Nx) (hQ : ∀ s' H', Inv Y pins σ H' s' → Nx H' → Q () s') :
    wpAny (model Y.prog Y.w) Y.A (dictSet D u r) Q E s := by
  obtain ⟨F, ρ, kvs, dk, dv, k, xs, S, r1, r2, hk, hd, hH, dr, nd, hl, nx⟩ := h
  obtain ⟨ys, kr, dn⟩ := dictN_of I S hH dr nd
  have hz : ys.length ≤ sizeLine := by rw [← kr.length]; exact lim_ok (Nat.le_of_lt hl)
  refine set_key (A := Y.A) (by omega) (rep_nested I S r1 ry hk) hd dn (fun h'' dn' sb => ?_) hz
  have kr' := kr.put hk hd r1 ry r2 rz
  obtain ⟨xs', d1, d2, d3⟩ := KRel.back (w := Y.w) kr'
  obtain ⟨o, es, ep, g1, g2, g3, g4, g5, g6, g7⟩ := dn'
  exact hQ _ _ (I.write (x := D) (e := D) (by rw [hH]; exact True.intro) (.inl rfl) (fun b v hb q => (sb.2 b hb).trans q) ⟨o, g1⟩ (dictO_ok g1 g2 g3 (by have := congrArg List.length d3; rw [List.length_map, List.length_map] at this; omega) (by rw [g4]; exact d2))) (nx xs' d1 (by rw [d3]; exact g6))

section
variable {X : Cx}
def tDcN (K : PySem.W.Frag) (w : World) (wi : TI) (g : TG) (tt : TT) (tk tv : TE) (vs : List Nat) : TE := fun σ H Q => wi σ H fun J H1 => ∀ D, H1 D = none → (D == sysModules) = false → ∃ W : Nat → Nat → Hp → Prop, (∃ m, W 0 m (upd H1 D (DictO w D []))) ∧ ∀ i m H, W i m H →
  (J.stop i H ∧ Q (.ref D) H) ∨ (J.go i H ∧ ∃ Nx : Hp → Prop, (∀ H', Nx H' → ∃ m', m' < m ∧ W (i + 1) m' H') ∧ ∀ x H', J.yld i H x H' → g x (L2.wipe σ vs) H' fun σ2 H2 => L2.wipe σ2 vs = L2.wipe σ vs ∧ tt σ2 H2 fun b H3 =>
    if b = true then tk σ2 H3 fun y H4 => tv σ2 H4 fun z H5 => rDSet K w D y z H5 Nx else Nx H3)
theorem dcN_core {pins : List (Addr × Obj)} {s : Shared} {σ : L2.St} {H : Hp} {Q : VK} {kx vx tg iter : Expr} {ifs : List Expr} {scope : Scope} {own : List (Str × Nat)} {pos pos' : Pos} {wi : TI} {g : TG} {tt : TT} {tk tv : TE} {use : Option (Value → Sem Unit)} {Qf : Value → Shared → Prop}
    (hu : X.A.units + 64 < cLine) (hc : X.calm = true) (hN : X.N.Nodup) (I : Inv X pins σ H s) (hi : PI X tg iter wi) (ok : BlkOk X.N X.env.scope scope own)
    (hg : ∀ (s : Shared) (H : Hp) (C : Addr) (cl : List (Str × Addr)) (fp : List Addr), PG (X.blk s H scope (compEnvC scope cl C X.env) fp) tg g) (ht : ∀ (s : Shared) (H : Hp) (C : Addr) (cl : List (Str × Addr)) (fp : List Addr), PTs (X.blk s H scope (compEnvC scope cl C X.env) fp) ifs tt)
    (hk : ∀ (s : Shared) (H : Hp) (C : Addr) (cl : List (Str × Addr)) (fp : List Addr), PE (X.blk s H scope (compEnvC scope cl C X.env) fp) kx tk)
    (he : ∀ (s : Shared) (H : Hp) (C : Addr) (cl : List (Str × Addr)) (fp : List Addr), PE (X.blk s H scope (compEnvC scope cl C X.env) fp) vx tv) (hs : ∀ x, foldedSetIterable iter X.env x = pure x)
    (h : tDcN X.K X.w wi g tt tk tv (own.map (·.2)) σ H Q)
    (hRR : ∀ D C s' m H', Inv X pins σ H' s' → Q (.ref D) H' → s'.heap.Ns C m → FpOk X pins H' C → compPost (model X.prog X.w) X.A X.xe use Qf (.ref D) C (.ok .next) s') :
    wpAny (model X.prog X.w) X.A (comprehension (.DictComp kx vx [⟨tg, iter, ifs, 0⟩] scope pos) scope X.env pos' newDict false (eval iter X.env) use) Qf X.xe s := by
  have hfree : ∀ y ∈ scope.names, y.2 = .free → ∃ c, X.env.cells.lookup y.1 = some c := fun y hy e => by
    rcases ok.free y hy e with k | k
    · exact I.ok.has _ (.inl k)
    · exact I.ok.has _ (.inr k)
  refine wpAny_comprehension_free (use := use) rfl hs (closure_ok hfree) ok.kind (fun y hy e => by rw [ok.uniq y hy, e])
    (thn (hi.run pins s σ H _ I h) fun xv s1 hx => thn hx fun itv s2 h2 => ?_)
  obtain ⟨it, fp, tn, J, H2, e, I2, T, st2, f2, q⟩ := h2
  subst e
  refine wpAny_newObj_type (newEnv_comp ?_)
  generalize hD : s2.heap.objs.size = D
  have hDn : H2 D = none := I2.hok.fresh (Nat.le_of_eq hD)
  have hDs : (D == sysModules) = false := beq_eq_false_iff_ne.mpr (Nat.ne_of_gt (Nat.lt_of_lt_of_le I2.big (Nat.le_of_eq hD)))
  obtain ⟨W, ⟨m0, w0⟩, turn⟩ := q D hDn hDs
  -- the new dict
  generalize hs3 : ({ s2 with heap := s2.heap.push { cls := .type "dict", data := .dict #[] } } : Shared) = s3
  have I3 : Inv X pins σ (upd H2 D (DictO X.w D [])) s3 := by
    rw [← hs3]
    refine I2.laid (t' := s2.toks) (fun b o e => Heap.get?_push_of_some _ e) (Nat.le_of_eq hD) ?_
    rw [← hD]
    exact dictO_ok (es := #[]) (Heap.get?_push_size _ rfl) ⟨rfl, rfl, rfl⟩ rfl rfl .nil
  have h3 : s3.heap = s2.heap.push { cls := .type "dict", data := .dict #[] } := by rw [← hs3]
  have sz : ∀ b ∈ fp, b < s2.heap.objs.size := fun b hb => by
    obtain ⟨o, e, _⟩ := T.obj _ _ st2 b hb
    exact Heap.lt_size e
  have f3 : ∀ b ∈ fp, FpOk X pins (upd H2 D (DictO X.w D [])) b ∧ b < s3.heap.objs.size := fun b hb => by
    have hlt := sz b hb
    refine ⟨⟨?_, (f2 b hb).2⟩, by rw [h3, Heap.size_push]; exact Nat.lt_succ_of_lt hlt⟩
    rw [upd_ne (by rw [← hD]; exact Nat.ne_of_lt hlt)]
    exact (f2 b hb).1
  have st3 : tn 0 s3.heap := T.keep _ _ _ st2 fun b _ o e => by rw [h3]; exact Heap.get?_push_of_some _ e
  have I4 := block_start I3 ok hN f3
  have pg := hg s3 (upd H2 D (DictO X.w D [])) s3.heap.objs.size (cellsFrom (s3.heap.objs.size + 1) scope.names (cloFrom X.env.cells scope.names [])) fp
  have pt := ht s3 (upd H2 D (DictO X.w D [])) s3.heap.objs.size (cellsFrom (s3.heap.objs.size + 1) scope.names (cloFrom X.env.cells scope.names [])) fp
  have pk := hk s3 (upd H2 D (DictO X.w D [])) s3.heap.objs.size (cellsFrom (s3.heap.objs.size + 1) scope.names (cloFrom X.env.cells scope.names [])) fp
  have pe := he s3 (upd H2 D (DictO X.w D [])) s3.heap.objs.size (cellsFrom (s3.heap.objs.size + 1) scope.names (cloFrom X.env.cells scope.names [])) fp
  show codeAny _ _ (.compStart (.DictComp kx vx [⟨tg, iter, ifs, 0⟩] scope pos) 0 (.ref it) (.ref D) (compEnvC scope (cellsFrom (s3.heap.objs.size + 1) scope.names (cloFrom X.env.cells scope.names [])) s3.heap.objs.size X.env)) (compPost (model X.prog X.w) X.A X.xe use Qf (.ref D) s3.heap.objs.size) { s3 with heap := pushCells (s3.heap.push { cls := .type "dict", data := .dict #[] }) scope.names }
  have nfp : ∀ b ∈ fp, (upd H2 D (DictO X.w D [])) b = none := fun b hb => (f3 b hb).1.1
  generalize hce : compEnvC scope (cellsFrom (s3.heap.objs.size + 1) scope.names (cloFrom X.env.cells scope.names [])) s3.heap.objs.size X.env = ce at I4 pg pt pk pe ⊢
  have cL : ce.locals = s3.heap.objs.size := by subst hce; rfl
  generalize hH3 : upd H2 D (DictO X.w D []) = H3 at I3 I4 pg pt pk pe w0 nfp f3
  generalize hs4 : ({ s3 with heap := pushCells (s3.heap.push { cls := .type "dict", data := .dict #[] }) scope.names } : Shared) = s4 at I4 ⊢
  have st4 : tn 0 s4.heap := T.keep _ _ _ st3 fun b _ o e => by rw [← hs4]; exact pushCells_keeps _ _ _ _ (Heap.get?_push_of_some _ e)
  have stat : ∀ {σ' : L2.St} {H' : Hp} {s' : Shared}, Inv (X.blk s3 H3 scope ce fp) [] σ' H' s' → (∀ b ∈ fp, H' b = none) → ∀ b ∈ fp, FpOk (X.blk s3 H3 scope ce fp) [] H' b := fun {σ' H' s'} I' hn b hb =>
    ⟨hn b hb, (I'.ok.exf b hb).1, I'.ok.exfs b hb, .inl hb, fun x c e => (I'.ok.exf b hb).2 x c e, fun p hp => absurd (show p ∈ ([] : List (Addr × Obj)) ++ [] from hp) (by simp)⟩
  have loop : codeAny (model X.prog X.w) X.A (.compLoop (.DictComp kx vx [⟨tg, iter, ifs, 0⟩] scope pos) 0 (.ref it) (.ref D) ce) (compPost (model X.prog X.w) X.A X.xe use Qf (.ref D) s3.heap.objs.size) s4 := by
    refine compLoop_anyD (fun n s' => ∃ i H', Inv (X.blk s3 H3 scope ce fp) [] (L2.wipe σ (own.map (·.2))) H' s' ∧ tn i s'.heap ∧ (∀ b ∈ fp, H' b = none) ∧ W i n H') ?_ m0 ⟨0, H3, I4, st4, nfp, w0⟩
    rintro n s5 ⟨i, H5, I5, st5, n5, w5⟩
    rcases turn i n H5 w5 with ⟨stop, qq⟩ | ⟨go, Nx, hNx, step⟩
    · have td := T.done (X.blk s3 H3 scope ce fp) rfl rfl rfl hc i [] s5 _ H5 (fun _ _ => False) I5 (stat I5 n5) st5 stop
      refine thnF td fun r s6 ⟨hr, I6⟩ => ?_
      subst hr
      have I7 : Inv X pins σ H5 s6 := I3.call' (ch := fp) I6.os I6.base I6.hok I6.bare fun b hb => ⟨(f3 b hb).1.2.2.2.1, (f3 b hb).1.2.1, (f3 b hb).1.2.2.2.2.1, (f3 b hb).1.2.2.2.2.2⟩
      have nC : H5 s3.heap.objs.size = none := by
        have z : H5 ce.locals = none := I6.free
        rw [cL] at z
        exact z
      obtain ⟨m, hn, _⟩ := I6.loc
      have hn : s6.heap.Ns ce.locals m := hn
      rw [cL] at hn
      exact hRR D s3.heap.objs.size s6 m H5 I7 qq hn (I3.fpOk (Nat.le_refl _) nC)
    · have ti := T.item (X.blk s3 H3 scope ce fp) rfl rfl rfl hc i [] s5 _ H5 (fun _ _ => False) I5 (stat I5 n5) st5 go
      refine thnF ti fun r s6 ⟨u, hr, h6⟩ => ?_
      subst hr
      refine thnF h6 fun _ s7 ⟨x, H7, I7, r7, y7, st7, n7⟩ => ?_
      have I7' := I7.pinned (stat I7 n7) (T.obj _ _ st7)
      refine thnF (pg.run _ s7 _ H7 x u _ I7' r7 (step x H7 y7)) fun _ s8 ⟨σ8, H8, I8, hw8, q8⟩ => ?_
      refine thnF (pt.run _ s8 σ8 H8 _ I8 q8) fun b s9 ⟨H9, I9, q9⟩ => ?_
      have fin : ∀ {s' : Shared} {H' : Hp}, Inv (X.blk s3 H3 scope ce fp) ([] ++ pinsAt fp s7.heap) σ8 H' s' → Nx H' → ∃ m, m < n ∧ ∃ i H', Inv (X.blk s3 H3 scope ce fp) [] (L2.wipe σ (own.map (·.2))) H' s' ∧ tn i s'.heap ∧ (∀ b ∈ fp, H' b = none) ∧ W i m H' := fun {s' H'} I' nx => by
        obtain ⟨m', hm, w'⟩ := hNx H' nx
        have pin' : ∀ b ∈ fp, ∀ o, s7.heap.get? b = some o → s'.heap.get? b = some o ∧ H' b = none := fun b hb o e =>
          let z := I'.pin (b, o) (List.mem_append_right _ (List.mem_append_right _ (mem_pinsAt hb e)))
          ⟨z.1, z.2.1⟩
        have hl : (L2.wipe σ (own.map (·.2))).length = σ8.length := by rw [← hw8, L2.wipe_length]
        refine ⟨m', hm, i + 1, H', (I'.unpinned (pins := [])).weak hl (fun j v e => ?_), T.keep _ _ _ st7 fun b hb o e => (pin' b hb o e).1, fun b hb => ?_, w'⟩
        · rw [← hw8] at e
          exact (L2.wipe_some e).1
        · obtain ⟨o, e, _⟩ := T.obj _ _ st7 b hb
          exact (pin' b hb o e).2
      cases b with
      | false =>
        simp only [Bool.false_eq_true, if_false] at q9 ⊢
        exact fin I9 q9
      | true =>
        simp only [if_true] at q9 ⊢
        refine thnF (pk.run _ s9 σ8 H9 _ I9 q9) fun z s10 ⟨yk, H10, I10, r10, q10⟩ => ?_
        refine thnF (pe.run _ s10 σ8 H10 _ I10 q10) fun z2 s11 ⟨yv, H11, I11, r11, rd⟩ => ?_
        exact dset_ok (Y := X.blk s3 H3 scope ce fp) hu I11 r10 r11 rd fun s12 H12 I12 nx => fin I12 nx
  exact codeAny_compStart_dict loop (T.self X.A 0 _ _ _ st4 loop)
theorem pe_dcN {kx vx tg iter : Expr} {ifs : List Expr} {scope : Scope} {own : List (Str × Nat)} {pos : Pos} {wi : TI} {g : TG} {tt : TT} {tk tv : TE} (hu : X.A.units + 64 < cLine) (hc : X.calm = true) (hN : X.N.Nodup) (hi : PI X tg iter wi) (ok : BlkOk X.N X.env.scope scope own)
    (hg : ∀ (s : Shared) (H : Hp) (C : Addr) (cl : List (Str × Addr)) (fp : List Addr), PG (X.blk s H scope (compEnvC scope cl C X.env) fp) tg g) (ht : ∀ (s : Shared) (H : Hp) (C : Addr) (cl : List (Str × Addr)) (fp : List Addr), PTs (X.blk s H scope (compEnvC scope cl C X.env) fp) ifs tt)
    (hk : ∀ (s : Shared) (H : Hp) (C : Addr) (cl : List (Str × Addr)) (fp : List Addr), PE (X.blk s H scope (compEnvC scope cl C X.env) fp) kx tk)
    (he : ∀ (s : Shared) (H : Hp) (C : Addr) (cl : List (Str × Addr)) (fp : List Addr), PE (X.blk s H scope (compEnvC scope cl C X.env) fp) vx tv) (hs : ∀ x, foldedSetIterable iter X.env x = pure x) :
    PE X (.DictComp kx vx [⟨tg, iter, ifs, 0⟩] scope pos) (tDcN X.K X.w wi g tt tk tv (own.map (·.2))) := by
  refine ⟨fun pins s σ H Q I h => ?_⟩
  rw [arm_eval_DictComp]
  refine dcN_core hu hc hN I hi ok hg ht hk he hs h fun D C s' m H' I' q hn f => ⟨m, hn, fun h'' sb => ?_⟩
  obtain ⟨f0, f1, f2, f3, f4, f5⟩ := f
  exact ⟨.ref D, H', I'.turned (t' := s'.toks) (fun b o hb e => (sb.2 b hb).trans e) f0 f1 f3 f4 f5, rfl, q⟩
end

/-! ### its reading -/
def compD (g : EvG) (t : EvB) (ek ev : Ev) (chk : MH → Bool) (σ0 : Sl) : List D → MH → DK → Res DK
  | [], h, acc => if chk h = true then .ok acc h else .bad
  | d :: ds, h, acc => if chk h = true then match g d σ0 h with
    | some (σ1, h1) => match t σ1 h1 with
      | .ok true h2 => match ek σ1 h2 with
        | .ok kd h3 => match ev σ1 h3 with
          | .ok vd h4 => if (kd.keyOk && decide (acc.length < lim)) = true then compD g t ek ev chk σ0 ds h4 (setD acc kd vd) else .bad
          | _ => .bad
        | _ => .bad
      | .ok false h2 => compD g t ek ev chk σ0 ds h2 acc
      | _ => .bad
    | none => .bad
    else .bad
def eDictComp (fi : EvI) (g : EvG) (t : EvB) (ek ev : Ev) (vs : List Nat) : Ev := fun σ h => (fi σ h).bind fun it h1 => (compD g t ek ev it.chk (wipeM σ vs) it.xs h1 []).bind fun acc h2 => .ok (.ref h2.length) (h2 ++ [.dict acc])
theorem compD_noexc {g : EvG} {t : EvB} {ek ev : Ev} {chk : MH → Bool} {σ0 : Sl} : ∀ (ds : List D) (h : MH) (acc : DK) y h2, compD g t ek ev chk σ0 ds h acc ≠ .exc y h2 := by
  intro ds
  induction ds with
  | nil => intro h acc y h2 q; unfold compD at q; split at q <;> cases q
  | cons d ds ih =>
    intro h acc y h2 q
    unfold compD at q
    repeat' split at q
    all_goals first
      | cases q
      | exact ih _ _ _ _ q
def PostD (T : Tb) (F : Hp) (ρ : List Addr) (a : Addr) (r : Res DK) (Q : Hp → Prop) : Prop :=
  match r with
  | .ok acc h => ∀ F' ρ' H' xs, Ext F ρ F' ρ' → SR T F' ρ' H' h → F' a = none → (∀ n : Nat, ρ'[n]? ≠ some a) → H' a = some (DictO T.w a xs) → DRel T.K F' ρ' acc xs → (xs.map (·.1)).Nodup → xs.length ≤ sizeLine → Q H'
  | _ => False
theorem PostD.mono {T : Tb} {F F' : Hp} {ρ ρ' : List Addr} {a : Addr} {r : Res DK} {Q : Hp → Prop} (x : Ext F ρ F' ρ') (p : PostD T F ρ a r Q) : PostD T F' ρ' a r Q := by
  cases r with
  | ok acc h => exact fun F2 ρ2 H2 vs y => p F2 ρ2 H2 vs (x.trans y)
  | exc y h => exact p
  | bad => exact p
theorem DRel.length {K : PySem.W.Frag} {F : Hp} {ρ : List Addr} : ∀ {ds : DK} {xs : List (NestedKey × V × V)}, DRel K F ρ ds xs → ds.length = xs.length
  | _, _, .nil => rfl
  | _, _, .cons _ _ _ _ g => by rw [List.length_cons, List.length_cons, DRel.length g]
theorem compD_walk {T : Tb} {fi : EvI} {g : EvG} {gs : List Nat} {t : EvB} {ek ev : Ev} {vs : List Nat} {τ : Tv} {H : Hp} {Qd : Addr → Hp → Prop} {W : WX} {pr : Addr → Option HO} {F : Hp} {ρ : List Addr} {h : MH} {σ : Sl} (og : ∀ i ∈ gs, i ∈ vs) (l : SLR T.K F ρ σ τ)
    (s : SR (T.at pr) F ρ H h) (p : match fi σ h with
      | .ok it h1 => ∀ a F' ρ' H', Ext F ρ F' ρ' → SR (T.at pr) F' ρ' H' h1 → H' a = none → (a == sysModules) = false → PostD (T.at pr) F' ρ' a (compD g t ek ev it.chk (wipeM σ vs) it.xs h1 []) (Qd a)
      | .exc x h1 => ∀ F' ρ' H' cls dd, Ext F ρ F' ρ' → SR (T.at pr) F' ρ' H' h1 → XIs (T.at pr) x F' ρ' H' cls dd → W cls dd τ H'
      | .bad => False) :
    tMI T W fi τ H fun J H1 => ∀ D, H1 D = none → (D == sysModules) = false → ∃ Wv : Nat → Nat → Hp → Prop, (∃ m, Wv 0 m (upd H1 D (DictO T.w D []))) ∧ ∀ i m H, Wv i m H →
      (J.stop i H ∧ Qd D H) ∨ (J.go i H ∧ ∃ Nx : Hp → Prop, (∀ H', Nx H' → ∃ m', m' < m ∧ Wv (i + 1) m' H') ∧ ∀ x H', J.yld i H x H' → tMG T gs g x (L2.wipe τ vs) H' fun σ2 H2 => L2.wipe σ2 vs = L2.wipe τ vs ∧ tMB T noW t σ2 H2 fun b H3 =>
        if b = true then tM T noW ek σ2 H3 fun y H4 => tM T noW ev σ2 H4 fun z H5 => rDSet T.K T.w D y z H5 Nx else Nx H3) := by
  refine ⟨pr, F, ρ, h, σ, s, l, ?_⟩
  cases ef : fi σ h with
  | bad => rw [ef] at p; exact p
  | exc x h1 => rw [ef] at p; exact p
  | ok it h1 =>
    rw [ef] at p
    intro F0 ρ0 H0 x0 s0 J jok a ha hsys
    have hpa := pr_none s0 ha
    have l0 := l.mono x0
    refine ⟨fun i m H' => m = it.xs.length - i ∧ i ≤ it.xs.length ∧ ∃ F2 ρ2 h2 acc ws, Ext F0 ρ0 F2 ρ2 ∧ SR (T.at pr) F2 ρ2 H' h2 ∧ F2 a = none ∧ (∀ n : Nat, ρ2[n]? ≠ some a) ∧ H' a = some (DictO T.w a ws) ∧ DRel T.K F2 ρ2 acc ws ∧ (ws.map (·.1)).Nodup ∧ acc.length ≤ lim ∧ PostD (T.at pr) F2 ρ2 a (compD g t ek ev it.chk (wipeM σ vs) (it.xs.drop i) h2 acc) (Qd a),
      ⟨it.xs.length, by simp, Nat.zero_le _, F0, ρ0, h1, [], [], Ext.refl _ _, s0.grow (fun c u q => by rw [upd_ne (ne_of_none q ha)]; exact q), s0.le.none ha, fun n q => s0.notin ha n a q rfl, upd_same .., .nil, List.nodup_nil, Nat.zero_le _, p a F0 ρ0 H0 x0 s0 ha hsys⟩, ?_⟩
    rintro i m H' ⟨rfl, hi, F2, ρ2, h2, acc, ws, x2, s2, f2, n2, e2, rs2, nd2, ln2, p2⟩
    by_cases hlt : i < it.xs.length
    · have hd : it.xs[i]? = some it.xs[i] := List.getElem?_eq_getElem hlt
      rw [List.drop_eq_getElem_cons hlt] at p2
      unfold compD at p2
      split at p2
      · rename_i hc
        obtain ⟨k1, _⟩ := jok i (seenP pr a (DictO T.w a ws)) F2 ρ2 H' h2 x2 (s2.seen f2 n2 e2) hc
        obtain ⟨go, yl⟩ := k1 _ hd
        refine .inr ⟨go, fun H3 => ∃ F3 ρ3 h3 acc3 ws3, Ext F0 ρ0 F3 ρ3 ∧ SR (T.at pr) F3 ρ3 H3 h3 ∧ F3 a = none ∧ (∀ n : Nat, ρ3[n]? ≠ some a) ∧ H3 a = some (DictO T.w a ws3) ∧ DRel T.K F3 ρ3 acc3 ws3 ∧ (ws3.map (·.1)).Nodup ∧ acc3.length ≤ lim ∧ PostD (T.at pr) F3 ρ3 a (compD g t ek ev it.chk (wipeM σ vs) (it.xs.drop (i + 1)) h3 acc3) (Qd a),
          fun H3 w3 => ⟨it.xs.length - (i + 1), by omega, rfl, hlt, w3⟩, fun v H3 y => ?_⟩
        obtain ⟨F3, ρ3, x3, s3, r3⟩ := yl v H3 y
        refine ⟨_, F3, ρ3, h2, wipeM σ vs, _, s3, ((l0.mono x2).mono x3).wipe vs, r3, ?_⟩
        cases eg : g it.xs[i] (wipeM σ vs) h2 with
        | none => rw [eg] at p2; exact p2
        | some y =>
          obtain ⟨σ4, h4⟩ := y
          rw [eg] at p2
          dsimp only at p2
          intro F4 ρ4 H4 τ4 x4 s4 l4 t4
          refine ⟨(t4.wipe og).trans (wipe_twice τ vs), _, F4, ρ4, h4, σ4, s4, l4, ?_⟩
          have x24 := x3.trans x4
          cases eb : t σ4 h4 with
          | bad => rw [eb] at p2; exact p2
          | exc y h5 => rw [eb] at p2; exact p2.elim
          | ok b h5 =>
            rw [eb] at p2
            intro F5 ρ5 H5 x5 s5
            have x25 := x24.trans x5
            cases b with
            | false =>
              rw [if_neg Bool.false_ne_true]
              obtain ⟨a1, a2, a3, a4⟩ := s5.unseen hpa
              exact ⟨F5, ρ5, h5, acc, ws, x2.trans x25, a4, a2, a3, a1, rs2.mono x25, nd2, ln2, PostD.mono x25 p2⟩
            | true =>
              rw [if_pos rfl]
              dsimp only at p2
              refine ⟨_, F5, ρ5, h5, σ4, s5, l4.mono x5, ?_⟩
              cases ee : ek σ4 h5 with
              | bad => rw [ee] at p2; exact p2
              | exc y h6 => rw [ee] at p2; exact p2.elim
              | ok v6 h6 =>
                rw [ee] at p2
                dsimp only at p2
                intro F6 ρ6 H6 vv x6 s6 r6
                have x26 := x25.trans x6
                refine ⟨_, F6, ρ6, h6, σ4, s6, (l4.mono x5).mono x6, ?_⟩
                cases ee2 : ev σ4 h6 with
                | bad => rw [ee2] at p2; exact p2
                | exc y h7 => rw [ee2] at p2; exact p2.elim
                | ok v7 h7 =>
                  rw [ee2] at p2
                  dsimp only at p2
                  intro F7 ρ7 H7 vw x7 s7 r7
                  have x27 := x26.trans x7
                  obtain ⟨a1, a2, a3, a4⟩ := s7.unseen hpa
                  split at p2
                  · rename_i hkl
                    rw [Bool.and_eq_true, decide_eq_true_eq] at hkl
                    obtain ⟨k, hk1, hk2⟩ := D.keyOk_iff.mp hkl.1
                    refine ⟨F7, ρ7, acc, v6, v7, k, ws, s7.le, r6.mono x7, r7, hk1, hk2, a1, rs2.mono x27, nd2, hkl.2, fun xs' dr' nd' => ?_⟩
                    exact ⟨F7, ρ7, h7, setD acc v6 v7, xs', x2.trans x27, a4.other a2 (fun n c q z => a3 n (by rw [← z]; exact q)) (fun gs q => by rw [a1] at q; cases q) hpa, a2, a3, upd_same .., dr', nd', (by have := setD_len acc v6 v7; omega), PostD.mono x27 p2⟩
                  · exact p2.elim
      · exact p2.elim
    · have hi' : i = it.xs.length := by omega
      subst hi'
      rw [List.drop_length] at p2
      unfold compD at p2
      split at p2
      · rename_i hc
        obtain ⟨_, k2⟩ := jok it.xs.length pr F2 ρ2 H' h2 x2 s2 hc
        exact .inl ⟨k2 (Nat.le_refl _), p2 F2 ρ2 H' ws (Ext.refl _ _) s2 f2 n2 e2 rs2 nd2 (by rw [← rs2.length]; exact lim_ok ln2)⟩
      · exact p2.elim
theorem compD_pre {T : Tb} {W : WX} {fi : EvI} {g : EvG} {t : EvB} {ek ev : Ev} {vs : List Nat} {τ : Tv} {Q : VK} {pr : Addr → Option HO} {F : Hp} {ρ : List Addr} {h : MH} {σ : Sl} (p : Post (T.at pr) F ρ (eDictComp fi g t ek ev vs σ h) Q fun c d H' => W c d τ H') :
    match fi σ h with
      | .ok it h1 => ∀ a F' ρ' H', Ext F ρ F' ρ' → SR (T.at pr) F' ρ' H' h1 → H' a = none → (a == sysModules) = false → PostD (T.at pr) F' ρ' a (compD g t ek ev it.chk (wipeM σ vs) it.xs h1 []) (fun H => Q (.ref a) H)
      | .exc x h1 => ∀ F' ρ' H' cls dd, Ext F ρ F' ρ' → SR (T.at pr) F' ρ' H' h1 → XIs (T.at pr) x F' ρ' H' cls dd → W cls dd τ H'
      | .bad => False := by
  unfold eDictComp at p
  cases ef : fi σ h with
  | bad => rw [ef] at p; exact p
  | exc x h1 => rw [ef] at p; exact p
  | ok it h1 =>
    rw [ef] at p
    dsimp only
    intro a F' ρ' H' x s ha hsys
    simp only [Res.bind] at p
    cases ec : compD g t ek ev it.chk (wipeM σ vs) it.xs h1 [] with
    | bad => rw [ec] at p; exact p
    | exc y h2 => exact (compD_noexc _ _ _ _ _ ec).elim
    | ok acc h2 =>
      rw [ec] at p
      have hpa := pr_none s ha
      intro F2 ρ2 H2 ws x2 s2 f2 n2 e2 rs nd ln
      obtain ⟨s3, ex, er⟩ := s2.adopt (o := .dict acc) f2 n2 hpa fun F' ρ' x => ⟨ws, e2, hsys, rs.mono x, nd, ln⟩
      exact p _ _ _ _ ((x.trans x2).trans ex) s3 (.ref er)
section
variable {L : Md → Prop} {n : Nm} {k : Nat} {W : WX} {ow : Str → Bool} {N : List Str} {sc : Scope} {X : Cx} {pos : Pos} {tg : Expr}
theorem se_dictComp (c : Cc L n k W ow N sc X) {kx vx iter : Expr} {ifs : List Expr} {scope : Scope} {own : List (Str × Nat)} {fi : EvI} {g : EvG} {gs : List Nat} {t : EvB} {ek ev : Ev} (hi : SI X n W tg iter fi) (hb : blkC N sc scope own = true) (og : ∀ i ∈ gs, i ∈ own.map (·.2))
    (hg : ∀ Y : Cx, CcB L n k N scope sc Y → md Y = md X → SG Y n tg gs g) (ht : ∀ Y : Cx, CcB L n k N scope sc Y → md Y = md X → STs Y n noW ifs t)
    (hk : ∀ Y : Cx, CcB L n k N scope sc Y → md Y = md X → SE Y n noW kx ek) (he : ∀ Y : Cx, CcB L n k N scope sc Y → md Y = md X → SE Y n noW vx ev) (hs : ∀ x, foldedSetIterable iter X.env x = pure x) : SE X n W (.DictComp kx vx [⟨tg, iter, ifs, 0⟩] scope pos) (eDictComp fi g t ek ev (own.map (·.2))) := by
  refine PE_imp (pe_dcN (tk := tM (tb X n) noW ek) (tv := tM (tb X n) noW ev) (tt := tMB (tb X n) noW t) (g := tMG (tb X n) gs g) c.room.units c.calm c.nd' hi (blkOk_by (by rw [c.hN, c.hs]; exact hb)) (fun s H C cl fp => hg _ (c.blk s H scope cl C fp (blkOk_by hb).kind) rfl) (fun s H C cl fp => ht _ (c.blk s H scope cl C fp (blkOk_by hb).kind) rfl) (fun s H C cl fp => hk _ (c.blk s H scope cl C fp (blkOk_by hb).kind) rfl) (fun s H C cl fp => he _ (c.blk s H scope cl C fp (blkOk_by hb).kind) rfl) hs) fun τ H Q q => ?_
  obtain ⟨pr, F, ρ, h, σ, s, l, p⟩ := q
  exact compD_walk (Qd := fun a H => Q (.ref a) H) og l s (compD_pre p)
end
end MI

/-! MI, part ZH: len({.. for .. in .. for .. in ..}), the members whole numbers. -/
namespace MI
open PySem PySem.Spec L2 PyProof.Rows

/-! ### the turns of a set comprehension of two clauses -/
theorem turnS_out (elt t0 i0 t1 i1 : Expr) (ifs0 ifs1 : List Expr) (scope : Scope) (pos : Pos) (it acc : Value) (env : Env) :
    compTurn (.SetComp elt [⟨t0, i0, ifs0, 0⟩, ⟨t1, i1, ifs1, 0⟩] scope pos) 0 it acc env = (do
      standAt i0.pos
      match ← pyNext it with
      | none => pure (.done .next)
      | some v =>
        letOwnedTupleGo t0 it v
        assign t0 env v
        let mut ok := true
        for c in ifs0 do
          if ok then ok ← isTrue c env (eval c env)
        if ok then
          let x ← eval i1 env
          standAt i1.pos
          let x ← foldedSetIterable i1 env x
          let _ ← runOwn (.compStart (.SetComp elt [⟨t0, i0, ifs0, 0⟩, ⟨t1, i1, ifs1, 0⟩] scope pos) 1 (← holding [x] (pyIter x)) acc env) env
        again (.compLoop (.SetComp elt [⟨t0, i0, ifs0, 0⟩, ⟨t1, i1, ifs1, 0⟩] scope pos) 0 it acc env)) := by rfl
theorem turnS_in (elt t0 i0 t1 i1 : Expr) (ifs0 ifs1 : List Expr) (scope : Scope) (pos : Pos) (it acc : Value) (env : Env) :
    compTurn (.SetComp elt [⟨t0, i0, ifs0, 0⟩, ⟨t1, i1, ifs1, 0⟩] scope pos) 1 it acc env = (do
      standAt i1.pos
      match ← pyNext it with
      | none => pure (.done .next)
      | some v =>
        letOwnedTupleGo t1 it v
        assign t1 env v
        let mut ok := true
        for c in ifs1 do
          if ok then ok ← isTrue c env (eval c env)
        if ok then
          (do let v ← eval elt env; standAt elt.pos; let _ ← call (.builtin "set.add") [acc, v])
        again (.compLoop (.SetComp elt [⟨t0, i0, ifs0, 0⟩, ⟨t1, i1, ifs1, 0⟩] scope pos) 1 it acc env)) := by rfl
section
variable {prog : Program} {w : World} {A : Around} {R : Result → Shared → Prop} {s : Shared} {elt t0 i0 t1 i1 : Expr} {ifs0 ifs1 : List Expr} {scope : Scope} {pos : Pos} {it acc : Value} {env : Env}
theorem loopS_out (hs : ∀ x, foldedSetIterable i1 env x = pure x) (I : Nat → Shared → Prop)
    (turn : ∀ n s, I n s → wpAny (model prog w) A (pyNext it) (fun r s₁ => match r with
      | none => R (.ok .next) s₁
      | some v => wpAny (model prog w) A (letOwnedTupleGo t0 it v) (fun _ s₁' => wpAny (model prog w) A (assign t0 env v) (fun _ s₂ =>
          wpAny (model prog w) A (forIn ifs0 true fun c r => if r = true then do let ok ← isTrue c env (eval c env); pure (ForInStep.yield ok) else pure (ForInStep.yield r)) (fun ok s₃ =>
            if ok = true then wpAny (model prog w) A (eval i1 env) (fun x s₄ => wpAny (model prog w) A (pyIter x) (fun it1 s₅ =>
              codeAny (model prog w) A (.compStart (.SetComp elt [⟨t0, i0, ifs0, 0⟩, ⟨t1, i1, ifs1, 0⟩] scope pos) 1 it1 acc env) (fun r s' => match r with
                | .ok _ => ∃ m, m < n ∧ I m s'
                | .error _ => False) s₅) (notedBy (model prog w) A env fun e s' => R (.error e) s') s₄) (notedBy (model prog w) A env fun e s' => R (.error e) s') s₃
            else ∃ m, m < n ∧ I m s₃) (notedBy (model prog w) A env fun e s' => R (.error e) s') s₂) (notedBy (model prog w) A env fun e s' => R (.error e) s') s₁') (notedBy (model prog w) A env fun e s' => R (.error e) s') s₁) (notedBy (model prog w) A env fun e s' => R (.error e) s') s)
    (n : Nat) (h : I n s) :
    codeAny (model prog w) A (.compLoop (.SetComp elt [⟨t0, i0, ifs0, 0⟩, ⟨t1, i1, ifs1, 0⟩] scope pos) 0 it acc env) R s := by
  refine codeAny_loop rfl I (fun n s hI => ?_) n h
  show wpAny _ A ((compTurn (.SetComp elt [⟨t0, i0, ifs0, 0⟩, ⟨t1, i1, ifs1, 0⟩] scope pos) 0 it acc env).onRaise (fun x => do noteFrame x env; theTreesLotGoes x)) _ _ s
  refine wpAny_noted ?_
  rw [turnS_out]
  refine wpAny_bind (wpAny_standAt (wpAny_bind (wpAny_mono (turn n s hI) (fun r s₁ h₁ => ?_) fun _ _ h' => h')))
  cases r with
  | none => exact wpAny_pure h₁
  | some v =>
    refine wpAny_bind (wpAny_mono h₁ (fun _ s₁' h₁' => ?_) fun _ _ h' => h')
    refine wpAny_bind (wpAny_mono h₁' (fun _ s₂ h₂ => wpAny_bind (wpAny_mono h₂ (fun ok s₃ h₃ => ?_) fun _ _ h' => h')) fun _ _ h' => h')
    cases ok with
    | false => exact wpAny_pure ⟨rfl, h₃⟩
    | true =>
      refine wpAny_bind (wpAny_mono h₃ (fun x s₄ h₄ => ?_) fun _ _ h' => h')
      refine wpAny_bind (wpAny_standAt (wpAny_bind (wpAny_of_eq (hs x) (wpAny_bind (wpAny_holding (wpAny_mono h₄ (fun it1 s₅ h₅ => ?_) fun _ _ h' => h'))))))
      refine wpAny_bind (wpAny_runOwn ?_)
      rw [Around.mark_none]
      refine codeAny_mono h₅ fun r s' hr => ?_
      cases r with
      | ok f =>
        first
          | exact wpAny_pure ⟨rfl, hr⟩
          | exact wpAny_bind (wpAny_pure (wpAny_pure ⟨rfl, hr⟩))
      | error e => exact hr.elim
theorem loopS_in (I : Nat → Shared → Prop)
    (turn : ∀ n s, I n s → wpAny (model prog w) A (pyNext it) (fun r s₁ => match r with
      | none => R (.ok .next) s₁
      | some v => wpAny (model prog w) A (letOwnedTupleGo t1 it v) (fun _ s₁' => wpAny (model prog w) A (assign t1 env v) (fun _ s₂ =>
          wpAny (model prog w) A (forIn ifs1 true fun c r => if r = true then do let ok ← isTrue c env (eval c env); pure (ForInStep.yield ok) else pure (ForInStep.yield r)) (fun ok s₃ =>
            if ok = true then wpAny (model prog w) A (eval elt env) (fun x s₄ =>
              wpAny (model prog w) A (call (.builtin "set.add") [acc, x]) (fun _ s₅ => ∃ m, m < n ∧ I m s₅) (notedBy (model prog w) A env fun e s' => R (.error e) s') s₄) (notedBy (model prog w) A env fun e s' => R (.error e) s') s₃
            else ∃ m, m < n ∧ I m s₃) (notedBy (model prog w) A env fun e s' => R (.error e) s') s₂) (notedBy (model prog w) A env fun e s' => R (.error e) s') s₁') (notedBy (model prog w) A env fun e s' => R (.error e) s') s₁) (notedBy (model prog w) A env fun e s' => R (.error e) s') s)
    (n : Nat) (h : I n s) :
    codeAny (model prog w) A (.compLoop (.SetComp elt [⟨t0, i0, ifs0, 0⟩, ⟨t1, i1, ifs1, 0⟩] scope pos) 1 it acc env) R s := by
  refine codeAny_loop rfl I (fun n s hI => ?_) n h
  show wpAny _ A ((compTurn (.SetComp elt [⟨t0, i0, ifs0, 0⟩, ⟨t1, i1, ifs1, 0⟩] scope pos) 1 it acc env).onRaise (fun x => do noteFrame x env; theTreesLotGoes x)) _ _ s
  refine wpAny_noted ?_
  rw [turnS_in]
  refine wpAny_bind (wpAny_standAt (wpAny_bind (wpAny_mono (turn n s hI) (fun r s₁ h₁ => ?_) fun _ _ h' => h')))
  cases r with
  | none => exact wpAny_pure h₁
  | some v =>
    refine wpAny_bind (wpAny_mono h₁ (fun _ s₁' h₁' => ?_) fun _ _ h' => h')
    refine wpAny_bind (wpAny_mono h₁' (fun _ s₂ h₂ => wpAny_bind (wpAny_mono h₂ (fun ok s₃ h₃ => ?_) fun _ _ h' => h')) fun _ _ h' => h')
    cases ok with
    | false => exact wpAny_pure ⟨rfl, h₃⟩
    | true =>
      exact wpAny_bind (wpAny_bind (wpAny_mono h₃ (fun x s₄ h₄ => wpAny_bind (wpAny_standAt (wpAny_bind (wpAny_mono h₄ (fun _ s₅ h₅ => wpAny_pure (wpAny_pure ⟨rfl, h₅⟩)) fun _ _ h' => h')))) fun _ _ h' => h'))
theorem startS_ok (h0 : codeAny (model prog w) A (.compLoop (.SetComp elt [⟨t0, i0, ifs0, 0⟩, ⟨t1, i1, ifs1, 0⟩] scope pos) 1 it acc env) R s)
    (h : wpAny (model prog w) A (pyIter it) (fun it' s' => codeAny (model prog w) A (.compLoop (.SetComp elt [⟨t0, i0, ifs0, 0⟩, ⟨t1, i1, ifs1, 0⟩] scope pos) 1 it' acc env) R s')
      (notedBy (model prog w) A env fun x s' => R (.error x) s') s) :
    codeAny (model prog w) A (.compStart (.SetComp elt [⟨t0, i0, ifs0, 0⟩, ⟨t1, i1, ifs1, 0⟩] scope pos) 1 it acc env) R s := by
  refine codeAny_of_tree ?_
  show wpAny _ _ ((compStart (.SetComp elt [⟨t0, i0, ifs0, 0⟩, ⟨t1, i1, ifs1, 0⟩] scope pos) 1 it acc env).onRaise (fun x => do noteFrame x env; standAt theWindowsPlace)) _ _ s
  refine wpAny_notedAt ?_
  unfold compStart
  show wpAny _ _ (ask >>= _) _ _ s
  refine wpAny_bind (wpAny_askSetting (wpAny_ite ?_))
  split
  · first
      | exact wpAny_bind (wpAny_pure (wpAny_pure (And.intro rfl h0)))
      | exact wpAny_pure (And.intro rfl h0)
  · first
      | exact wpAny_bind (wpAny_rule (wpAny_bind (wpAny_standAt (wpAny_bind (wpAny_mono h (fun it' s' h' => wpAny_pure (And.intro rfl h')) fun _ _ x => x)))))
      | (refine wpAny_bind (wpAny_rule ?_); show wpAny _ _ (standAt i1.pos >>= _) _ _ s; exact wpAny_bind (wpAny_standAt (wpAny_bind (wpAny_mono h (fun it' s' h' => wpAny_pure (And.intro rfl h')) fun _ _ x => x))))
end
section
variable {X : Cx}
/-- set.add of a whole number -/
theorem addI_ok {pins : List (Addr × Obj)} {σ : L2.St} {H : Hp} {s : Shared} {E : Value → Shared → Prop} {D : Addr} {S : Int → Bool} {n : Nat} {y : Int} {t : Tok} {Q : Value → Shared → Prop} (I : Inv X pins σ H s) (hD : H D = some (SetO X.w D S n)) (room : n + 1 < scanBound)
    (h : ∀ s', Inv X pins σ (upd H D (SetO X.w D (fun j => S j || decide (j = y)) (if S y = true then n else n + 1))) s' → Q .none s') : wpAny (model X.prog X.w) X.A (call (.builtin "set.add") [.ref D, .int y t]) Q E s := by
  have R := setO_get I hD
  refine setR_add R room fun h' sb new => ?_
  have he : ∃ u, h'.get? D = some u := by
    have ⟨o, _, _, _, ho, _⟩ := new
    exact ⟨o, ho⟩
  exact h _ (I.write (e := D) (t' := s.toks + 1) (by rw [hD]; trivial) (.inl rfl) (fun b u hb hu => (sb.2 b hb).trans hu) he (setO_new new))
def tSc2 (w : World) (wi : TI) (g : TG) (tt : TT) (wi1 : TI) (g1 : TG) (tt1 : TT) (te : TE) (vs vs1 : List Nat) : TE := fun σ H Q => wi σ H fun J H1 => ∀ D, H1 D = none → ∃ W : Nat → Nat → Hp → Prop, (∃ m, W 0 m (upd H1 D (SetO w D (fun _ => false) 0))) ∧ ∀ i m H, W i m H →
  (J.stop i H ∧ Q (.ref D) H) ∨ (J.go i H ∧ ∃ Nx : Hp → Prop, (∀ H', Nx H' → ∃ m', m' < m ∧ W (i + 1) m' H') ∧ ∀ x H', J.yld i H x H' → g x (L2.wipe σ vs) H' fun σ2 H2 => L2.wipe σ2 vs = L2.wipe σ vs ∧ tt σ2 H2 fun b H3 =>
    if b = true then wi1 σ2 H3 fun J1 H4 => ∃ W1 : Nat → Nat → Hp → Prop, (∃ m, W1 0 m H4) ∧ ∀ j k H, W1 j k H →
      (J1.stop j H ∧ Nx H) ∨ (J1.go j H ∧ ∃ Nx1 : Hp → Prop, (∀ H', Nx1 H' → ∃ k', k' < k ∧ W1 (j + 1) k' H') ∧ ∀ x H', J1.yld j H x H' → g1 x (L2.wipe σ2 vs1) H' fun σ3 H5 => L2.wipe σ3 vs1 = L2.wipe σ2 vs1 ∧ tt1 σ3 H5 fun b H6 =>
        if b = true then te σ3 H6 fun y H7 => ∃ (c : Int) (S : Int → Bool) (n : Nat), y = .int c ∧ H7 D = some (SetO w D S n) ∧ n + 1 < scanBound ∧ Nx1 (upd H7 D (SetO w D (fun j => S j || decide (j = c)) (if S c = true then n else n + 1))) else Nx1 H6)
    else Nx H3)
theorem sc2_core {pins : List (Addr × Obj)} {s : Shared} {σ : L2.St} {H : Hp} {Q : VK} {elt tg iter tg1 iter1 : Expr} {ifs ifs1 : List Expr} {scope : Scope} {own : List (Str × Nat)} {vs1 : List Nat} {pos pos' : Pos} {wi wi1 : TI} {g g1 : TG} {tt tt1 : TT} {te : TE} {use : Option (Value → Sem Unit)} {Qf : Value → Shared → Prop}
    (hc : X.calm = true) (hN : X.N.Nodup) (I : Inv X pins σ H s) (hi : PI X tg iter wi) (ok : BlkOk X.N X.env.scope scope own) (hv : ∀ i ∈ vs1, i ∈ own.map (·.2))
    (hg : ∀ (s : Shared) (H : Hp) (C : Addr) (cl : List (Str × Addr)) (fp : List Addr), PG (X.blk s H scope (compEnvC scope cl C X.env) fp) tg g) (ht : ∀ (s : Shared) (H : Hp) (C : Addr) (cl : List (Str × Addr)) (fp : List Addr), PTs (X.blk s H scope (compEnvC scope cl C X.env) fp) ifs tt)
    (he : ∀ (s : Shared) (H : Hp) (C : Addr) (cl : List (Str × Addr)) (fp : List Addr), PE (X.blk s H scope (compEnvC scope cl C X.env) fp) elt te) (hs : ∀ x, foldedSetIterable iter X.env x = pure x)
    (hi1 : ∀ (s : Shared) (H : Hp) (C : Addr) (cl : List (Str × Addr)) (fp : List Addr), PI (X.blk s H scope (compEnvC scope cl C X.env) fp) tg1 iter1 wi1)
    (hg1 : ∀ (s : Shared) (H : Hp) (C : Addr) (cl : List (Str × Addr)) (fp : List Addr), PG (X.blk s H scope (compEnvC scope cl C X.env) fp) tg1 g1)
    (ht1 : ∀ (s : Shared) (H : Hp) (C : Addr) (cl : List (Str × Addr)) (fp : List Addr), PTs (X.blk s H scope (compEnvC scope cl C X.env) fp) ifs1 tt1)
    (hs1 : ∀ env x, foldedSetIterable iter1 env x = pure x)
    (h : tSc2 X.w wi g tt wi1 g1 tt1 te (own.map (·.2)) vs1 σ H Q)
    (hRR : ∀ D C s' m H', Inv X pins σ H' s' → Q (.ref D) H' → s'.heap.Ns C m → FpOk X pins H' C → compPost (model X.prog X.w) X.A X.xe use Qf (.ref D) C (.ok .next) s') :
    wpAny (model X.prog X.w) X.A (comprehension (.SetComp elt [⟨tg, iter, ifs, 0⟩, ⟨tg1, iter1, ifs1, 0⟩] scope pos) scope X.env pos' (newSet (.type "set")) false (eval iter X.env) use) Qf X.xe s := by
  have hfree : ∀ y ∈ scope.names, y.2 = .free → ∃ c, X.env.cells.lookup y.1 = some c := fun y hy e => by
    rcases ok.free y hy e with k | k
    · exact I.ok.has _ (.inl k)
    · exact I.ok.has _ (.inr k)
  refine wpAny_comprehension_free (use := use) rfl hs (closure_ok hfree) ok.kind (fun y hy e => by rw [ok.uniq y hy, e])
    (thn (hi.run pins s σ H _ I h) fun xv s1 hx => thn hx fun itv s2 h2 => ?_)
  obtain ⟨it, fp, tn, J, H2, e, I2, T, st2, f2, q⟩ := h2
  subst e
  refine PpSet.newSet_ok (newEnv_comp ?_)
  generalize hD : s2.heap.objs.size = D
  have hDn : H2 D = none := I2.hok.fresh (Nat.le_of_eq hD)
  obtain ⟨W, ⟨m0, w0⟩, turn⟩ := q D hDn
  -- the new set
  generalize hs3 : ({ s2 with heap := s2.heap.push { cls := .type "set", dict := none, data := .set #[] 0 (.fresh 0 0 (!X.w.params.followText "set-order")) } } : Shared) = s3
  have I3 : Inv X pins σ (upd H2 D (SetO X.w D (fun _ => false) 0)) s3 := by
    rw [← hs3]
    refine I2.laid (t' := s2.toks) (fun b o e => Heap.get?_push_of_some _ e) (Nat.le_of_eq hD) ?_
    rw [← hD]
    exact setO_new (setR_fresh X.w)
  have h3 : s3.heap = s2.heap.push { cls := .type "set", dict := none, data := .set #[] 0 (.fresh 0 0 (!X.w.params.followText "set-order")) } := by rw [← hs3]
  have sz : ∀ b ∈ fp, b < s2.heap.objs.size := fun b hb => by
    obtain ⟨o, e, _⟩ := T.obj _ _ st2 b hb
    exact Heap.lt_size e
  have f3 : ∀ b ∈ fp, FpOk X pins (upd H2 D (SetO X.w D (fun _ => false) 0)) b ∧ b < s3.heap.objs.size := fun b hb => by
    have hlt := sz b hb
    refine ⟨⟨?_, (f2 b hb).2⟩, by rw [h3, Heap.size_push]; exact Nat.lt_succ_of_lt hlt⟩
    rw [upd_ne (by rw [← hD]; exact Nat.ne_of_lt hlt)]
    exact (f2 b hb).1
  have st3 : tn 0 s3.heap := T.keep _ _ _ st2 fun b _ o e => by rw [h3]; exact Heap.get?_push_of_some _ e
  have I4 := block_start I3 ok hN f3
  have pg := hg s3 (upd H2 D (SetO X.w D (fun _ => false) 0)) s3.heap.objs.size (cellsFrom (s3.heap.objs.size + 1) scope.names (cloFrom X.env.cells scope.names [])) fp
  have pt := ht s3 (upd H2 D (SetO X.w D (fun _ => false) 0)) s3.heap.objs.size (cellsFrom (s3.heap.objs.size + 1) scope.names (cloFrom X.env.cells scope.names [])) fp
  have pe := he s3 (upd H2 D (SetO X.w D (fun _ => false) 0)) s3.heap.objs.size (cellsFrom (s3.heap.objs.size + 1) scope.names (cloFrom X.env.cells scope.names [])) fp
  have pi1 := hi1 s3 (upd H2 D (SetO X.w D (fun _ => false) 0)) s3.heap.objs.size (cellsFrom (s3.heap.objs.size + 1) scope.names (cloFrom X.env.cells scope.names [])) fp
  have pg1 := hg1 s3 (upd H2 D (SetO X.w D (fun _ => false) 0)) s3.heap.objs.size (cellsFrom (s3.heap.objs.size + 1) scope.names (cloFrom X.env.cells scope.names [])) fp
  have pt1 := ht1 s3 (upd H2 D (SetO X.w D (fun _ => false) 0)) s3.heap.objs.size (cellsFrom (s3.heap.objs.size + 1) scope.names (cloFrom X.env.cells scope.names [])) fp
  show codeAny _ _ (.compStart (.SetComp elt [⟨tg, iter, ifs, 0⟩, ⟨tg1, iter1, ifs1, 0⟩] scope pos) 0 (.ref it) (.ref D) (compEnvC scope (cellsFrom (s3.heap.objs.size + 1) scope.names (cloFrom X.env.cells scope.names [])) s3.heap.objs.size X.env)) (compPost (model X.prog X.w) X.A X.xe use Qf (.ref D) s3.heap.objs.size) { s3 with heap := pushCells (s3.heap.push { cls := .type "dict", data := .dict #[] }) scope.names }
  have nfp : ∀ b ∈ fp, (upd H2 D (SetO X.w D (fun _ => false) 0)) b = none := fun b hb => (f3 b hb).1.1
  generalize hce : compEnvC scope (cellsFrom (s3.heap.objs.size + 1) scope.names (cloFrom X.env.cells scope.names [])) s3.heap.objs.size X.env = ce at I4 pg pt pe pi1 pg1 pt1 ⊢
  have cL : ce.locals = s3.heap.objs.size := by subst hce; rfl
  generalize hH3 : upd H2 D (SetO X.w D (fun _ => false) 0) = H3 at I3 I4 pg pt pe pi1 pg1 pt1 w0 nfp f3
  generalize hs4 : ({ s3 with heap := pushCells (s3.heap.push { cls := .type "dict", data := .dict #[] }) scope.names } : Shared) = s4 at I4 ⊢
  have st4 : tn 0 s4.heap := T.keep _ _ _ st3 fun b _ o e => by rw [← hs4]; exact pushCells_keeps _ _ _ _ (Heap.get?_push_of_some _ e)
  have stat : ∀ {σ' : L2.St} {H' : Hp} {s' : Shared}, Inv (X.blk s3 H3 scope ce fp) [] σ' H' s' → (∀ b ∈ fp, H' b = none) → ∀ b ∈ fp, FpOk (X.blk s3 H3 scope ce fp) [] H' b := fun {σ' H' s'} I' hn b hb =>
    ⟨hn b hb, (I'.ok.exf b hb).1, I'.ok.exfs b hb, .inl hb, fun x c e => (I'.ok.exf b hb).2 x c e, fun p hp => absurd (show p ∈ ([] : List (Addr × Obj)) ++ [] from hp) (by simp)⟩
  have loop : codeAny (model X.prog X.w) X.A (.compLoop (.SetComp elt [⟨tg, iter, ifs, 0⟩, ⟨tg1, iter1, ifs1, 0⟩] scope pos) 0 (.ref it) (.ref D) ce) (compPost (model X.prog X.w) X.A X.xe use Qf (.ref D) s3.heap.objs.size) s4 := by
    refine loopS_out (hs1 ce) (fun n s' => ∃ i H', Inv (X.blk s3 H3 scope ce fp) [] (L2.wipe σ (own.map (·.2))) H' s' ∧ tn i s'.heap ∧ (∀ b ∈ fp, H' b = none) ∧ W i n H') ?_ m0 ⟨0, H3, I4, st4, nfp, w0⟩
    rintro n s5 ⟨i, H5, I5, st5, n5, w5⟩
    rcases turn i n H5 w5 with ⟨stop, qq⟩ | ⟨go, Nx, hNx, step⟩
    · have td := T.done (X.blk s3 H3 scope ce fp) rfl rfl rfl hc i [] s5 _ H5 (fun _ _ => False) I5 (stat I5 n5) st5 stop
      refine thnF td fun r s6 ⟨hr, I6⟩ => ?_
      subst hr
      have I7 : Inv X pins σ H5 s6 := I3.call' (ch := fp) I6.os I6.base I6.hok I6.bare fun b hb => ⟨(f3 b hb).1.2.2.2.1, (f3 b hb).1.2.1, (f3 b hb).1.2.2.2.2.1, (f3 b hb).1.2.2.2.2.2⟩
      have nC : H5 s3.heap.objs.size = none := by
        have z : H5 ce.locals = none := I6.free
        rw [cL] at z
        exact z
      obtain ⟨m, hn, _⟩ := I6.loc
      have hn : s6.heap.Ns ce.locals m := hn
      rw [cL] at hn
      exact hRR D s3.heap.objs.size s6 m H5 I7 qq hn (I3.fpOk (Nat.le_refl _) nC)
    · have ti := T.item (X.blk s3 H3 scope ce fp) rfl rfl rfl hc i [] s5 _ H5 (fun _ _ => False) I5 (stat I5 n5) st5 go
      refine thnF ti fun r s6 ⟨u, hr, h6⟩ => ?_
      subst hr
      refine thnF h6 fun _ s7 ⟨x, H7, I7, r7, y7, st7, n7⟩ => ?_
      have I7' := I7.pinned (stat I7 n7) (T.obj _ _ st7)
      refine thnF (pg.run _ s7 _ H7 x u _ I7' r7 (step x H7 y7)) fun _ s8 ⟨σ8, H8, I8, hw8, q8⟩ => ?_
      refine thnF (pt.run _ s8 σ8 H8 _ I8 q8) fun b s9 ⟨H9, I9, q9⟩ => ?_
      have fin : ∀ {σ9 : L2.St} {s' : Shared} {H' : Hp}, Inv (X.blk s3 H3 scope ce fp) ([] ++ pinsAt fp s7.heap) σ9 H' s' → (L2.wipe σ (own.map (·.2))).length = σ9.length → (∀ (j : Nat) v, (L2.wipe σ (own.map (·.2)))[j]? = some (some v) → σ9[j]? = some (some v)) → Nx H' →
          ∃ m, m < n ∧ ∃ i H', Inv (X.blk s3 H3 scope ce fp) [] (L2.wipe σ (own.map (·.2))) H' s' ∧ tn i s'.heap ∧ (∀ b ∈ fp, H' b = none) ∧ W i m H' := fun {σ9 s' H'} I' hl hk nx => by
        obtain ⟨m', hm, w'⟩ := hNx H' nx
        have pin' : ∀ b ∈ fp, ∀ o, s7.heap.get? b = some o → s'.heap.get? b = some o ∧ H' b = none := fun b hb o e =>
          let z := I'.pin (b, o) (List.mem_append_right _ (List.mem_append_right _ (mem_pinsAt hb e)))
          ⟨z.1, z.2.1⟩
        refine ⟨m', hm, i + 1, H', (I'.unpinned (pins := [])).weak hl hk, T.keep _ _ _ st7 fun b hb o e => (pin' b hb o e).1, fun b hb => ?_, w'⟩
        obtain ⟨o, e, _⟩ := T.obj _ _ st7 b hb
        exact (pin' b hb o e).2
      have hl8 : (L2.wipe σ (own.map (·.2))).length = σ8.length := by rw [← hw8, L2.wipe_length]
      have hk8 : ∀ (j : Nat) v, (L2.wipe σ (own.map (·.2)))[j]? = some (some v) → σ8[j]? = some (some v) := fun j v e => by
        rw [← hw8] at e
        exact (L2.wipe_some e).1
      have hk9 : ∀ (j : Nat) v, (L2.wipe σ (own.map (·.2)))[j]? = some (some v) → (L2.wipe σ8 vs1)[j]? = some (some v) := fun j v e => by
        rw [← hw8] at e
        obtain ⟨e1, e2⟩ := L2.wipe_some e
        rw [L2.wipe_out fun z => e2 (hv j z)]
        exact e1
      cases b with
      | false =>
        simp only [Bool.false_eq_true, if_false] at q9 ⊢
        exact fin I9 hl8 hk8 q9
      | true =>
        simp only [if_true] at q9 ⊢
        refine thnF (pi1.run _ s9 σ8 H9 _ I9 q9) fun xv s10 hx => thnF hx fun itv s11 h11 => ?_
        obtain ⟨it1, fp1, tn1, J1, H11, e1, I11, T1, st11, f11, W1, ⟨m1, w1⟩, turn1⟩ := h11
        subst e1
        have stat1 : ∀ {H' : Hp}, (∀ b ∈ fp1, H' b = none) → ∀ b ∈ fp1, FpOk (X.blk s3 H3 scope ce fp) ([] ++ pinsAt fp s7.heap) H' b := fun hn b hb => ⟨hn b hb, (f11 b hb).2⟩
        have loop1 : codeAny (model X.prog X.w) X.A (.compLoop (.SetComp elt [⟨tg, iter, ifs, 0⟩, ⟨tg1, iter1, ifs1, 0⟩] scope pos) 1 (.ref it1) (.ref D) ce)
            (fun r s' => match r with
              | .ok _ => ∃ m, m < n ∧ ∃ i H', Inv (X.blk s3 H3 scope ce fp) [] (L2.wipe σ (own.map (·.2))) H' s' ∧ tn i s'.heap ∧ (∀ b ∈ fp, H' b = none) ∧ W i m H'
              | .error _ => False) s11 := by
          refine loopS_in (fun k s' => ∃ j H', Inv (X.blk s3 H3 scope ce fp) ([] ++ pinsAt fp s7.heap) (L2.wipe σ8 vs1) H' s' ∧ tn1 j s'.heap ∧ (∀ b ∈ fp1, H' b = none) ∧ W1 j k H') ?_ m1 ⟨0, H11, I11.weak (L2.wipe_length _ _) (fun j v e => (L2.wipe_some e).1), st11, fun b hb => (f11 b hb).1, w1⟩
          rintro k s12 ⟨j, H12, I12, st12, n12, w12⟩
          rcases turn1 j k H12 w12 with ⟨stop1, nx1⟩ | ⟨go1, Nx1, hNx1, step1⟩
          · refine thnF (T1.done (X.blk s3 H3 scope ce fp) rfl rfl rfl hc j _ s12 (L2.wipe σ8 vs1) H12 (fun _ _ => False) I12 (stat1 n12) st12 stop1) fun r s13 ⟨hr, I13⟩ => ?_
            subst hr
            exact fin I13 (hl8.trans (L2.wipe_length σ8 vs1).symm) hk9 nx1
          · refine thnF (T1.item (X.blk s3 H3 scope ce fp) rfl rfl rfl hc j _ s12 (L2.wipe σ8 vs1) H12 (fun _ _ => False) I12 (stat1 n12) st12 go1) fun r s13 ⟨u1, hr, h13⟩ => ?_
            subst hr
            refine thnF h13 fun _ s14 ⟨x1, H14, I14, r14, y14, st14, n14⟩ => ?_
            have I14' := I14.pinned (stat1 n14) (T1.obj _ _ st14)
            refine thnF (pg1.run _ s14 (L2.wipe σ8 vs1) H14 x1 u1 _ I14' r14 (step1 x1 H14 y14)) fun _ s15 ⟨σ15, H15, I15, hw15, q15⟩ => ?_
            refine thnF (pt1.run _ s15 σ15 H15 _ I15 q15) fun b1 s16 ⟨H16, I16, q16⟩ => ?_
            have fin1 : ∀ {s' : Shared} {H' : Hp}, Inv (X.blk s3 H3 scope ce fp) (([] ++ pinsAt fp s7.heap) ++ pinsAt fp1 s14.heap) σ15 H' s' → Nx1 H' → ∃ m, m < k ∧ ∃ j H', Inv (X.blk s3 H3 scope ce fp) ([] ++ pinsAt fp s7.heap) (L2.wipe σ8 vs1) H' s' ∧ tn1 j s'.heap ∧ (∀ b ∈ fp1, H' b = none) ∧ W1 j m H' := fun {s' H'} I' nx => by
              obtain ⟨m', hm, w'⟩ := hNx1 H' nx
              have pin' : ∀ b ∈ fp1, ∀ o, s14.heap.get? b = some o → s'.heap.get? b = some o ∧ H' b = none := fun b hb o e =>
                let z := I'.pin (b, o) (List.mem_append_right _ (List.mem_append_right _ (mem_pinsAt hb e)))
                ⟨z.1, z.2.1⟩
              refine ⟨m', hm, j + 1, H', I'.unpinned.weak (by rw [← hw15, L2.wipe_length]) (fun j v e => by rw [← hw15] at e; exact (L2.wipe_some e).1), T1.keep _ _ _ st14 fun b hb o e => (pin' b hb o e).1, fun b hb => ?_, w'⟩
              obtain ⟨o, e, _⟩ := T1.obj _ _ st14 b hb
              exact (pin' b hb o e).2
            cases b1 with
            | false =>
              simp only [Bool.false_eq_true, if_false] at q16 ⊢
              exact fin1 I16 q16
            | true =>
              simp only [if_true] at q16 ⊢
              refine thnF (pe.run _ s16 σ15 H16 _ I16 q16) fun z s17 ⟨yv, H17, I17, r17, cb, S0, n0, ey, hD17, hz17, nx⟩ => ?_
              subst ey
              obtain ⟨tk, rfl⟩ := (show ∃ t, z = Value.int cb t from r17)
              exact addI_ok (X := X.blk s3 H3 scope ce fp) I17 hD17 hz17 fun s18 I18 => fin1 I18 nx
        exact startS_ok loop1 (T1.self X.A 0 _ _ _ st11 loop1)
  exact PpSet.codeAny_compStart_set loop (T.self X.A 0 _ _ _ st4 loop)
theorem pe_sc2 {elt tg iter tg1 iter1 : Expr} {ifs ifs1 : List Expr} {scope : Scope} {own : List (Str × Nat)} {vs1 : List Nat} {pos : Pos} {wi wi1 : TI} {g g1 : TG} {tt tt1 : TT} {te : TE} (hc : X.calm = true) (hN : X.N.Nodup) (hi : PI X tg iter wi) (ok : BlkOk X.N X.env.scope scope own) (hv : ∀ i ∈ vs1, i ∈ own.map (·.2))
    (hg : ∀ (s : Shared) (H : Hp) (C : Addr) (cl : List (Str × Addr)) (fp : List Addr), PG (X.blk s H scope (compEnvC scope cl C X.env) fp) tg g) (ht : ∀ (s : Shared) (H : Hp) (C : Addr) (cl : List (Str × Addr)) (fp : List Addr), PTs (X.blk s H scope (compEnvC scope cl C X.env) fp) ifs tt)
    (hi1 : ∀ (s : Shared) (H : Hp) (C : Addr) (cl : List (Str × Addr)) (fp : List Addr), PI (X.blk s H scope (compEnvC scope cl C X.env) fp) tg1 iter1 wi1)
    (hg1 : ∀ (s : Shared) (H : Hp) (C : Addr) (cl : List (Str × Addr)) (fp : List Addr), PG (X.blk s H scope (compEnvC scope cl C X.env) fp) tg1 g1) (ht1 : ∀ (s : Shared) (H : Hp) (C : Addr) (cl : List (Str × Addr)) (fp : List Addr), PTs (X.blk s H scope (compEnvC scope cl C X.env) fp) ifs1 tt1)
    (he : ∀ (s : Shared) (H : Hp) (C : Addr) (cl : List (Str × Addr)) (fp : List Addr), PE (X.blk s H scope (compEnvC scope cl C X.env) fp) elt te) (hs : ∀ x, foldedSetIterable iter X.env x = pure x) (hs1 : ∀ env x, foldedSetIterable iter1 env x = pure x) :
    PE X (.SetComp elt [⟨tg, iter, ifs, 0⟩, ⟨tg1, iter1, ifs1, 0⟩] scope pos) (tSc2 X.w wi g tt wi1 g1 tt1 te (own.map (·.2)) vs1) := by
  refine ⟨fun pins s σ H Q I h => ?_⟩
  rw [PpSet.eval_SetComp]
  refine sc2_core hc hN I hi ok hv hg ht he hs hi1 hg1 ht1 hs1 h fun D C s' m H' I' q hn f => ⟨m, hn, fun h'' sb => ?_⟩
  obtain ⟨f0, f1, f2, f3, f4, f5⟩ := f
  exact ⟨.ref D, H', I'.turned (t' := s'.toks) (fun b o hb e => (sb.2 b hb).trans e) f0 f1 f3 f4 f5, rfl, q⟩
/-- len of a new set -/
def tLenNew (w : World) (ta : TE) : TE := fun σ H Q => ta σ H fun x H1 => ∃ (a : Addr) (S : Int → Bool) (n : Nat), x = .ref a ∧ H1 a = some (SetO w a S n) ∧ n < scanBound ∧ Q (.int (n : Nat)) H1
theorem pe_lenNew {a : Expr} {ta : TE} {p pos : Pos} (hg : Gl X "len") (hm : X.mg "len" = none) (ha : PE X a ta) (na : starEach [a] X.env = (false, eval a X.env) :: starEach [] X.env) : PE X (.Call (.Name "len" p) [a] [] pos) (tLenNew X.w ta) := by
  refine ⟨fun pins s σ H Q I h => ?_⟩
  refine PyProof.Rows.Call_ (ld_blt I hg hm boot_len ?_)
  refine PyProof.Rows.callWith_builtin1 (PyProof.Rows.args_cons (thn (ha.run pins s σ H _ I h) fun v s1 ⟨x, H1, I1, r1, q1⟩ => PyProof.Rows.args_nil ?_) na) na rfl
  obtain ⟨l, S, n, rfl, hq, hl, q1⟩ := q1
  cases r1
  obtain ⟨o, es, ep, t, ho, hex, hd, _, _, _, _, hf, hn, _⟩ := setO_get I1 hq
  exact call_len_set ho hex hd hf (by rw [hn]; unfold scanBound at hl; omega) ⟨.int n, H1, I1.tok _, ⟨_, by rw [hn]⟩, q1⟩
end
end MI

/-! MI, part ZI: the reading of len({.. for .. for ..}). -/
namespace MI
open PySem PySem.Spec L2

/-- the value must be a whole number -/
def eInt (e : Ev) : Ev := fun σ h => (e σ h).bind fun d h1 => match d with
  | .int i => .ok (.int i) h1
  | _ => .bad
theorem asInts_snoc : ∀ {ds : List D} {ns : List Int} {i : Int}, asInts ds = some ns → asInts (ds ++ [.int i]) = some (ns ++ [i])
  | [], ns, i, h => by cases h; rfl
  | d :: ds, ns, i, h => by
    cases d with
    | int j =>
      unfold asInts at h ⊢
      cases e : asInts ds with
      | none => rw [e] at h; cases h
      | some ms =>
        rw [e] at h; cases h
        show (asInts (ds ++ [.int i])).map (j :: ·) = _
        rw [asInts_snoc e]; rfl
    | _ => cases h
theorem asInts_len {ds : List D} {ns : List Int} (h : asInts ds = some ns) : ns.length = ds.length := by rw [asInts_eq h, List.length_map]
theorem setL_mem (ns : List Int) (k : Int) : k ∈ setL ns ↔ k ∈ ns := by
  have : ∀ (ns acc : List Int), k ∈ ns.foldl PyProof.Rows.step_dedup acc ↔ k ∈ acc ∨ k ∈ ns := by
    intro ns
    induction ns with
    | nil => intro acc; simp
    | cons n ns ih =>
      intro acc
      rw [List.foldl_cons, ih, List.mem_cons]
      unfold PyProof.Rows.step_dedup
      by_cases q : (acc.any (· == n)) = true
      · rw [if_pos q]
        obtain ⟨x, hx, e⟩ := List.any_eq_true.mp q
        have e := eq_of_beq e
        subst e
        constructor
        · rintro (h | h)
          · exact .inl h
          · exact .inr (.inr h)
        · rintro (h | h | h)
          · exact .inl h
          · subst h; exact .inl hx
          · exact .inr h
      · rw [if_neg q, List.mem_append, List.mem_singleton, or_assoc]
  have := this ns []
  simpa [setL] using this
theorem setL_snoc (ns : List Int) (k : Int) : (setL (ns ++ [k])).length = if decide (k ∈ ns) = true then (setL ns).length else (setL ns).length + 1 := by
  unfold setL
  rw [List.foldl_append]
  show (PyProof.Rows.step_dedup (setL ns) k).length = _
  unfold PyProof.Rows.step_dedup
  have e : ((setL ns).any (· == k)) = true ↔ k ∈ ns := by
    rw [List.any_eq_true, ← setL_mem]
    constructor
    · rintro ⟨x, hx, q⟩
      have q := eq_of_beq q
      subst q; exact hx
    · exact fun h => ⟨k, h, beq_self_eq_true k⟩
  by_cases q : k ∈ ns
  · rw [if_pos (e.mpr q), if_pos (decide_eq_true q)]; rfl
  · rw [if_neg (fun z => q (e.mp z)), if_neg (by simpa using q), List.length_append]; rfl

def eLenSetC2 (fi : EvI) (g : EvG) (t : EvB) (f1 : EvI) (g1 : EvG) (t1 : EvB) (e : Ev) (vs vs1 : List Nat) : Ev := fun σ h => (fi σ h).bind fun it h1 => (compM2 g t f1 g1 t1 (eInt e) vs1 it.chk (wipeM σ vs) it.xs h1 []).bind fun acc h2 => match asInts acc with
  | some ns => if ns.length ≤ 4000 then .ok (.int ((setL ns).length : Nat)) h2 else .bad
  | none => .bad
theorem compM_pre {g : EvG} {t : EvB} {e : Ev} {chk : MH → Bool} {σ0 : Sl} : ∀ (ds : List D) (h : MH) (acc : List D) acc' h', compM g t e chk σ0 ds h acc = .ok acc' h' → acc <+: acc' := by
  intro ds
  induction ds with
  | nil => intro h acc acc' h' q; unfold compM at q; split at q <;> cases q; exact List.prefix_refl _
  | cons d ds ih =>
    intro h acc acc' h' q
    unfold compM at q
    repeat' split at q
    all_goals first
      | cases q; done
      | exact ih _ _ _ _ q
      | exact (List.prefix_append _ _).trans (ih _ _ _ _ q)
theorem compM2_pre {g : EvG} {t : EvB} {f1 : EvI} {g1 : EvG} {t1 : EvB} {e : Ev} {vs1 : List Nat} {chk : MH → Bool} {σ0 : Sl} : ∀ (ds : List D) (h : MH) (acc : List D) acc' h', compM2 g t f1 g1 t1 e vs1 chk σ0 ds h acc = .ok acc' h' → acc <+: acc' := by
  intro ds
  induction ds with
  | nil => intro h acc acc' h' q; unfold compM2 at q; split at q <;> cases q; exact List.prefix_refl _
  | cons d ds ih =>
    intro h acc acc' h' q
    unfold compM2 at q
    repeat' split at q
    all_goals first
      | cases q; done
      | exact ih _ _ _ _ q
      | (rename_i it h3 _
         cases ec : compM g1 t1 e it.chk (wipeM _ vs1) it.xs h3 acc with
         | bad => rw [ec] at q; cases q
         | exc z h5 => rw [ec] at q; cases q
         | ok a5 h5 => rw [ec] at q; exact (compM_pre _ _ _ _ _ ec).trans (ih _ _ _ _ q))
/-- what is wanted behind the loop -/
def PostN (T : Tb) (F : Hp) (ρ : List Addr) (a : Addr) (r : Res (List D)) (Q : Nat → Hp → Prop) : Prop :=
  match r with
  | .ok acc h => ∃ ns, asInts acc = some ns ∧ ns.length ≤ 4000 ∧ ∀ F' ρ' H', Ext F ρ F' ρ' → SR T F' ρ' H' h → F' a = none → (∀ n : Nat, ρ'[n]? ≠ some a) → H' a = some (SetO T.w a (fun j => decide (j ∈ ns)) (setL ns).length) → Q (setL ns).length H'
  | _ => False
theorem PostN.mono {T : Tb} {F F' : Hp} {ρ ρ' : List Addr} {a : Addr} {r : Res (List D)} {Q : Nat → Hp → Prop} (x : Ext F ρ F' ρ') (p : PostN T F ρ a r Q) : PostN T F' ρ' a r Q := by
  cases r with
  | ok acc h =>
    obtain ⟨ns, e1, e2, k⟩ := p
    exact ⟨ns, e1, e2, fun F2 ρ2 H2 y => k F2 ρ2 H2 (x.trans y)⟩
  | exc y h => exact p
  | bad => exact p
/-- so many members at most, so far -/
theorem PostN.room {T : Tb} {F : Hp} {ρ : List Addr} {a : Addr} {r : Res (List D)} {Q : Nat → Hp → Prop} {acc : List D} (hp : ∀ acc' h', r = .ok acc' h' → acc <+: acc') (p : PostN T F ρ a r Q) : acc.length ≤ 4000 := by
  cases r with
  | ok acc' h =>
    obtain ⟨ns, e1, e2, k⟩ := p
    have := (hp _ _ rfl).length_le
    rw [asInts_len e1] at e2
    omega
  | exc y h => exact p.elim
  | bad => exact p.elim
theorem compS2_walk {T : Tb} {fi f1 : EvI} {g g1 : EvG} {gs gs1 : List Nat} {t t1 : EvB} {e : Ev} {vs vs1 : List Nat} {τ : Tv} {H : Hp} {Qd : Addr → Hp → Prop} {Qn : Nat → Hp → Prop} (hQ : ∀ a n H, n ≤ 4000 → (∃ S, H a = some (SetO T.w a S n)) → Qn n H → Qd a H) {W : WX} {pr : Addr → Option HO} {F : Hp} {ρ : List Addr} {h : MH} {σ : Sl} (og : ∀ i ∈ gs, i ∈ vs) (og1 : ∀ i ∈ gs1, i ∈ vs1) (l : SLR T.K F ρ σ τ)
    (s : SR (T.at pr) F ρ H h) (p : match fi σ h with
      | .ok it h1 => ∀ a F' ρ' H', Ext F ρ F' ρ' → SR (T.at pr) F' ρ' H' h1 → H' a = none → PostN (T.at pr) F' ρ' a (compM2 g t f1 g1 t1 (eInt e) vs1 it.chk (wipeM σ vs) it.xs h1 []) Qn
      | .exc x h1 => ∀ F' ρ' H' cls dd, Ext F ρ F' ρ' → SR (T.at pr) F' ρ' H' h1 → XIs (T.at pr) x F' ρ' H' cls dd → W cls dd τ H'
      | .bad => False) :
    tMI T W fi τ H fun J H1 => ∀ D, H1 D = none → ∃ Wv : Nat → Nat → Hp → Prop, (∃ m, Wv 0 m (upd H1 D (SetO T.w D (fun _ => false) 0))) ∧ ∀ i m H, Wv i m H →
      (J.stop i H ∧ Qd D H) ∨ (J.go i H ∧ ∃ Nx : Hp → Prop, (∀ H', Nx H' → ∃ m', m' < m ∧ Wv (i + 1) m' H') ∧ ∀ x H', J.yld i H x H' → tMG T gs g x (L2.wipe τ vs) H' fun σ2 H2 => L2.wipe σ2 vs = L2.wipe τ vs ∧ tMB T noW t σ2 H2 fun b H3 =>
        if b = true then tMI T noW f1 σ2 H3 fun J1 H4 => ∃ W1 : Nat → Nat → Hp → Prop, (∃ m, W1 0 m H4) ∧ ∀ j k H, W1 j k H →
          (J1.stop j H ∧ Nx H) ∨ (J1.go j H ∧ ∃ Nx1 : Hp → Prop, (∀ H', Nx1 H' → ∃ k', k' < k ∧ W1 (j + 1) k' H') ∧ ∀ x H', J1.yld j H x H' → tMG T gs1 g1 x (L2.wipe σ2 vs1) H' fun σ3 H5 => L2.wipe σ3 vs1 = L2.wipe σ2 vs1 ∧ tMB T noW t1 σ3 H5 fun b H6 =>
            if b = true then tM T noW e σ3 H6 fun y H7 => ∃ (c : Int) (S : Int → Bool) (n : Nat), y = .int c ∧ H7 D = some (SetO T.w D S n) ∧ n + 1 < scanBound ∧ Nx1 (upd H7 D (SetO T.w D (fun j => S j || decide (j = c)) (if S c = true then n else n + 1))) else Nx1 H6)
        else Nx H3) := by
  refine ⟨pr, F, ρ, h, σ, s, l, ?_⟩
  cases ef : fi σ h with
  | bad => rw [ef] at p; exact p
  | exc x h1 => rw [ef] at p; exact p
  | ok it h1 =>
    rw [ef] at p
    intro F0 ρ0 H0 x0 s0 J jok a ha
    have hpa := pr_none s0 ha
    have l0 := l.mono x0
    have emp : (fun j : Int => decide (j ∈ ([] : List Int))) = fun _ => false := by funext j; simp
    refine ⟨fun i m H' => m = it.xs.length - i ∧ i ≤ it.xs.length ∧ ∃ F2 ρ2 h2 acc ns, Ext F0 ρ0 F2 ρ2 ∧ SR (T.at pr) F2 ρ2 H' h2 ∧ F2 a = none ∧ (∀ n : Nat, ρ2[n]? ≠ some a) ∧ H' a = some (SetO T.w a (fun j => decide (j ∈ ns)) (setL ns).length) ∧ asInts acc = some ns ∧ PostN (T.at pr) F2 ρ2 a (compM2 g t f1 g1 t1 (eInt e) vs1 it.chk (wipeM σ vs) (it.xs.drop i) h2 acc) Qn,
      ⟨it.xs.length, by simp, Nat.zero_le _, F0, ρ0, h1, [], [], Ext.refl _ _, s0.grow (fun c u q => by rw [upd_ne (ne_of_none q ha)]; exact q), s0.le.none ha, fun n q => s0.notin ha n a q rfl, by rw [emp]; exact upd_same .., rfl, p a F0 ρ0 H0 x0 s0 ha⟩, ?_⟩
    rintro i m H' ⟨rfl, hi, F2, ρ2, h2, acc, ns, x2, s2, f2, n2, e2, rs2, p2⟩
    by_cases hlt : i < it.xs.length
    · have hd : it.xs[i]? = some it.xs[i] := List.getElem?_eq_getElem hlt
      rw [List.drop_eq_getElem_cons hlt] at p2
      unfold compM2 at p2
      split at p2
      · rename_i hc
        obtain ⟨k1, _⟩ := jok i (seenP pr a (SetO T.w a (fun j => decide (j ∈ ns)) (setL ns).length)) F2 ρ2 H' h2 x2 (s2.seen f2 n2 e2) hc
        obtain ⟨go, yl⟩ := k1 _ hd
        obtain ⟨NX, hNX⟩ : ∃ NX : Hp → Prop, NX = fun H3 => ∃ F3 ρ3 h3 acc3 ns3, Ext F0 ρ0 F3 ρ3 ∧ SR (T.at pr) F3 ρ3 H3 h3 ∧ F3 a = none ∧ (∀ n : Nat, ρ3[n]? ≠ some a) ∧ H3 a = some (SetO T.w a (fun j => decide (j ∈ ns3)) (setL ns3).length) ∧ asInts acc3 = some ns3 ∧ PostN (T.at pr) F3 ρ3 a (compM2 g t f1 g1 t1 (eInt e) vs1 it.chk (wipeM σ vs) (it.xs.drop (i + 1)) h3 acc3) Qn := ⟨_, rfl⟩
        refine .inr ⟨go, NX, fun H3 w3 => ⟨it.xs.length - (i + 1), by omega, rfl, hlt, by rw [hNX] at w3; exact w3⟩, fun v H3 y => ?_⟩
        obtain ⟨F3, ρ3, x3, s3, r3⟩ := yl v H3 y
        refine ⟨_, F3, ρ3, h2, wipeM σ vs, _, s3, ((l0.mono x2).mono x3).wipe vs, r3, ?_⟩
        cases eg : g it.xs[i] (wipeM σ vs) h2 with
        | none => rw [eg] at p2; exact p2
        | some y =>
          obtain ⟨σ4, h4⟩ := y
          rw [eg] at p2
          dsimp only at p2
          intro F4 ρ4 H4 τ4 x4 s4 l4 t4
          refine ⟨(t4.wipe og).trans (wipe_twice τ vs), _, F4, ρ4, h4, σ4, s4, l4, ?_⟩
          have x24 := x3.trans x4
          cases eb : t σ4 h4 with
          | bad => rw [eb] at p2; exact p2
          | exc y h5 => rw [eb] at p2; exact p2.elim
          | ok b h5 =>
            rw [eb] at p2
            intro F5 ρ5 H5 x5 s5
            have x25 := x24.trans x5
            cases b with
            | false =>
              rw [if_neg Bool.false_ne_true]
              obtain ⟨a1, a2, a3, a4⟩ := s5.unseen hpa
              rw [hNX]
              exact ⟨F5, ρ5, h5, acc, ns, x2.trans x25, a4, a2, a3, a1, rs2, PostN.mono x25 p2⟩
            | true =>
              rw [if_pos rfl]
              dsimp only at p2
              have l5 := l4.mono x5
              refine ⟨_, F5, ρ5, h5, σ4, s5, l5, ?_⟩
              cases e1 : f1 σ4 h5 with
              | bad => rw [e1] at p2; exact p2
              | exc y h6 => rw [e1] at p2; exact p2.elim
              | ok it1 h6 =>
                rw [e1] at p2
                dsimp only at p2
                intro F6 ρ6 H6 x6 s6 J1 jok1
                have x26 := x25.trans x6
                obtain ⟨b1, b2, b3, b4⟩ := s6.unseen hpa
                refine ⟨fun j m H' => m = it1.xs.length - j ∧ j ≤ it1.xs.length ∧ ∃ F7 ρ7 h7 ac7 ns7, Ext F6 ρ6 F7 ρ7 ∧ SR (T.at pr) F7 ρ7 H' h7 ∧ F7 a = none ∧ (∀ n : Nat, ρ7[n]? ≠ some a) ∧ H' a = some (SetO T.w a (fun j => decide (j ∈ ns7)) (setL ns7).length) ∧ asInts ac7 = some ns7 ∧
                    PostN (T.at pr) F7 ρ7 a ((compM g1 t1 (eInt e) it1.chk (wipeM σ4 vs1) (it1.xs.drop j) h7 ac7).bind fun acc' h4 => compM2 g t f1 g1 t1 (eInt e) vs1 it.chk (wipeM σ vs) (it.xs.drop (i + 1)) h4 acc') Qn,
                  ⟨it1.xs.length, by simp, Nat.zero_le _, F6, ρ6, h6, acc, ns, Ext.refl _ _, b4, b2, b3, b1, rs2, PostN.mono x26 p2⟩, ?_⟩
                rintro j m H' ⟨rfl, hj, F7, ρ7, h7, ac7, ns7, x7, s7, f7, n7, e7, rs7, p7⟩
                have room : ac7.length ≤ 4000 := p7.room fun acc' h' q => by
                  cases ec : compM g1 t1 (eInt e) it1.chk (wipeM σ4 vs1) (it1.xs.drop j) h7 ac7 with
                  | bad => rw [ec] at q; cases q
                  | exc z h5 => rw [ec] at q; cases q
                  | ok a5 h5 => rw [ec] at q; exact (compM_pre _ _ _ _ _ ec).trans (compM2_pre _ _ _ _ _ q)
                by_cases hlt1 : j < it1.xs.length
                · have hd1 : it1.xs[j]? = some it1.xs[j] := List.getElem?_eq_getElem hlt1
                  rw [List.drop_eq_getElem_cons hlt1] at p7
                  unfold compM at p7
                  split at p7
                  · rename_i hc1
                    obtain ⟨k1, _⟩ := jok1 j (seenP pr a (SetO T.w a (fun j => decide (j ∈ ns7)) (setL ns7).length)) F7 ρ7 H' h7 x7 (s7.seen f7 n7 e7) hc1
                    obtain ⟨go1, yl1⟩ := k1 _ hd1
                    refine .inr ⟨go1, fun H3 => ∃ F3 ρ3 h3 acc3 ns3, Ext F6 ρ6 F3 ρ3 ∧ SR (T.at pr) F3 ρ3 H3 h3 ∧ F3 a = none ∧ (∀ n : Nat, ρ3[n]? ≠ some a) ∧ H3 a = some (SetO T.w a (fun j => decide (j ∈ ns3)) (setL ns3).length) ∧ asInts acc3 = some ns3 ∧
                        PostN (T.at pr) F3 ρ3 a ((compM g1 t1 (eInt e) it1.chk (wipeM σ4 vs1) (it1.xs.drop (j + 1)) h3 acc3).bind fun acc' h4 => compM2 g t f1 g1 t1 (eInt e) vs1 it.chk (wipeM σ vs) (it.xs.drop (i + 1)) h4 acc') Qn,
                      fun H3 w3 => ⟨it1.xs.length - (j + 1), by omega, rfl, hlt1, w3⟩, fun v H8 y => ?_⟩
                    obtain ⟨F8, ρ8, x8, s8, r8⟩ := yl1 v H8 y
                    have l8 := ((l5.mono x6).mono x7).mono x8
                    refine ⟨_, F8, ρ8, h7, wipeM σ4 vs1, _, s8, l8.wipe vs1, r8, ?_⟩
                    cases eg1 : g1 it1.xs[j] (wipeM σ4 vs1) h7 with
                    | none => rw [eg1] at p7; exact p7
                    | some y =>
                      obtain ⟨σ9, h9⟩ := y
                      rw [eg1] at p7
                      dsimp only at p7
                      intro F9 ρ9 H9 τ9 x9 s9 l9 t9
                      refine ⟨(t9.wipe og1).trans (wipe_twice _ vs1), _, F9, ρ9, h9, σ9, s9, l9, ?_⟩
                      have x79 := x8.trans x9
                      cases eb1 : t1 σ9 h9 with
                      | bad => rw [eb1] at p7; exact p7
                      | exc y h5 => rw [eb1] at p7; exact p7.elim
                      | ok bb hA =>
                        rw [eb1] at p7
                        intro FA ρA HA xA sA
                        have x7A := x79.trans xA
                        cases bb with
                        | false =>
                          rw [if_neg Bool.false_ne_true]
                          obtain ⟨a1, a2, a3, a4⟩ := sA.unseen hpa
                          exact ⟨FA, ρA, hA, ac7, ns7, x7.trans x7A, a4, a2, a3, a1, rs7, PostN.mono x7A p7⟩
                        | true =>
                          rw [if_pos rfl]
                          dsimp only at p7
                          refine ⟨_, FA, ρA, hA, σ9, sA, l9.mono xA, ?_⟩
                          have ei : ∀ r, e σ9 hA = r → eInt e σ9 hA = r.bind fun d h1 => match d with
                            | .int i => .ok (.int i) h1
                            | _ => .bad := fun r q => by rw [← q]; rfl
                          cases ee : e σ9 hA with
                          | bad => rw [ei _ ee] at p7; exact p7
                          | exc y h6 => rw [ei _ ee] at p7; exact p7.elim
                          | ok vB hB =>
                            intro FB ρB HB vv xB sB rB
                            have x7B := x7A.trans xB
                            obtain ⟨a1, a2, a3, a4⟩ := sB.unseen hpa
                            cases vB with
                            | int c =>
                              rw [show eInt e σ9 hA = .ok (.int c) hB from ei _ ee] at p7
                              dsimp only at p7
                              cases rB
                              by_cases hlen : ac7.length < lim
                              · rw [if_pos hlen] at p7
                                have hl0 := setL_len ns7
                                have hl1 := asInts_len rs7
                                refine ⟨c, _, _, rfl, a1, by unfold scanBound; omega, FB, ρB, hB, ac7 ++ [.int c], ns7 ++ [c], x7.trans x7B, a4.other a2 (fun n c q z => a3 n (by rw [← z]; exact q)) (fun gs q => by rw [a1] at q; cases q) hpa, a2, a3, ?_, asInts_snoc rs7, PostN.mono x7B p7⟩
                                rw [upd_same, setL_snoc]
                                congr 2
                                funext j
                                rw [Bool.eq_iff_iff]
                                simp [List.mem_append]
                              · rw [if_neg hlen] at p7; exact p7.elim
                            | _ => rw [show eInt e σ9 hA = .bad from ei _ ee] at p7; exact p7.elim
                  · exact p7.elim
                · have hj' : j = it1.xs.length := by omega
                  subst hj'
                  rw [List.drop_length] at p7
                  unfold compM at p7
                  split at p7
                  · rename_i hc1
                    obtain ⟨_, k2⟩ := jok1 it1.xs.length pr F7 ρ7 H' h7 x7 s7 hc1
                    refine .inl ⟨k2 (Nat.le_refl _), ?_⟩
                    rw [hNX]
                    exact ⟨F7, ρ7, h7, ac7, ns7, x2.trans (x26.trans x7), s7, f7, n7, e7, rs7, p7⟩
                  · exact p7.elim
      · exact p2.elim
    · have hi' : i = it.xs.length := by omega
      subst hi'
      rw [List.drop_length] at p2
      unfold compM2 at p2
      split at p2
      · rename_i hc
        obtain ⟨_, k2⟩ := jok it.xs.length pr F2 ρ2 H' h2 x2 s2 hc
        obtain ⟨ns', e1', l1', kk⟩ := p2
        rw [rs2] at e1'
        cases e1'
        exact .inl ⟨k2 (Nat.le_refl _), hQ a _ _ (Nat.le_trans (setL_len ns) l1') ⟨_, e2⟩ (kk F2 ρ2 H' (Ext.refl _ _) s2 f2 n2 e2)⟩
      · exact p2.elim
section
variable {L : Md → Prop} {n : Nm} {k : Nat} {W : WX} {ow : Str → Bool} {N : List Str} {sc : Scope} {X : Cx} {pos : Pos} {tg tg1 : Expr}
theorem se_lenSetC2 (c : Cc L n k W ow N sc X) {elt iter iter1 : Expr} {ifs ifs1 : List Expr} {scope : Scope} {own : List (Str × Nat)} {fi f1 : EvI} {g g1 : EvG} {gs gs1 vs1 : List Nat} {t t1 : EvB} {e : Ev} {p1 p2 : Pos} (hgl : gloB sc "len" = true) (hm : X.mg "len" = none) (hi : SI X n W tg iter fi) (hb : blkC N sc scope own = true) (og : ∀ i ∈ gs, i ∈ own.map (·.2)) (og1 : ∀ i ∈ gs1, i ∈ vs1) (hv : ∀ i ∈ vs1, i ∈ own.map (·.2))
    (hg : ∀ Y : Cx, CcB L n k N scope sc Y → md Y = md X → SG Y n tg gs g) (ht : ∀ Y : Cx, CcB L n k N scope sc Y → md Y = md X → STs Y n noW ifs t) (hi1 : ∀ Y : Cx, CcB L n k N scope sc Y → md Y = md X → SI Y n noW tg1 iter1 f1)
    (hg1 : ∀ Y : Cx, CcB L n k N scope sc Y → md Y = md X → SG Y n tg1 gs1 g1) (ht1 : ∀ Y : Cx, CcB L n k N scope sc Y → md Y = md X → STs Y n noW ifs1 t1)
    (he : ∀ Y : Cx, CcB L n k N scope sc Y → md Y = md X → SE Y n noW elt e) (hs : ∀ x, foldedSetIterable iter X.env x = pure x) (hs1 : ∀ env x, foldedSetIterable iter1 env x = pure x)
    (na : starEach [.SetComp elt [⟨tg, iter, ifs, 0⟩, ⟨tg1, iter1, ifs1, 0⟩] scope p2] X.env = (false, eval (.SetComp elt [⟨tg, iter, ifs, 0⟩, ⟨tg1, iter1, ifs1, 0⟩] scope p2) X.env) :: starEach [] X.env) :
    SE X n W (.Call (.Name "len" p1) [.SetComp elt [⟨tg, iter, ifs, 0⟩, ⟨tg1, iter1, ifs1, 0⟩] scope p2] [] pos) (eLenSetC2 fi g t f1 g1 t1 e (own.map (·.2)) vs1) := by
  refine PE_imp (pe_lenNew (c.glo hgl) hm (pe_sc2 (te := tM (tb X n) noW e) (tt := tMB (tb X n) noW t) (g := tMG (tb X n) gs g) (wi1 := tMI (tb X n) noW f1) (g1 := tMG (tb X n) gs1 g1) (tt1 := tMB (tb X n) noW t1) c.calm c.nd' hi (blkOk_by (by rw [c.hN, c.hs]; exact hb)) hv (fun s H C cl fp => hg _ (c.blk s H scope cl C fp (blkOk_by hb).kind) rfl) (fun s H C cl fp => ht _ (c.blk s H scope cl C fp (blkOk_by hb).kind) rfl)
    (fun s H C cl fp => hi1 _ (c.blk s H scope cl C fp (blkOk_by hb).kind) rfl) (fun s H C cl fp => hg1 _ (c.blk s H scope cl C fp (blkOk_by hb).kind) rfl) (fun s H C cl fp => ht1 _ (c.blk s H scope cl C fp (blkOk_by hb).kind) rfl) (fun s H C cl fp => he _ (c.blk s H scope cl C fp (blkOk_by hb).kind) rfl) hs hs1) na) fun τ H Q q => ?_
  obtain ⟨pr, F, ρ, h, σ, s, l, p⟩ := q
  refine compS2_walk (T := tb X n) (Qn := fun m H => Q (.int (m : Nat)) H) (fun a m H hm hS q => ?_) og og1 l s ?_
  · obtain ⟨S, hS⟩ := hS
    exact ⟨a, S, m, rfl, hS, by unfold scanBound; omega, q⟩
  · unfold eLenSetC2 at p
    cases ef : fi σ h with
    | bad => rw [ef] at p; exact p
    | exc x h1 => rw [ef] at p; exact p
    | ok it h1 =>
      rw [ef] at p
      dsimp only
      intro a F' ρ' H' x s ha
      simp only [Res.bind] at p
      cases ec : compM2 g t f1 g1 t1 (eInt e) vs1 it.chk (wipeM σ (own.map (·.2))) it.xs h1 [] with
      | bad => rw [ec] at p; exact p
      | exc y h2 => exact (compM2_noexc _ _ _ _ _ ec).elim
      | ok acc h2 =>
        rw [ec] at p
        dsimp only at p
        split at p
        · rename_i ns hns
          split at p
          · rename_i hl
            exact ⟨ns, hns, hl, fun F2 ρ2 H2 x2 s2 f2 n2 e2 => p _ _ _ _ (x.trans x2) s2 (.int _)⟩
          · exact p.elim
        · exact p.elim
end
end MI

/-! MI, part ZJ: sum(lists, []); d.get, d.pop, d.setdefault. -/
namespace MI
open PySem PySem.Spec L2

section
variable {prog : Program} {w : World} {A : Around} {E : Value → Shared → Prop}
theorem cat_raw {s : Shared} {l b : Addr} {vs ws : List Value} {Q : Value → Shared → Prop} (hl : s.heap.IsList l vs.toArray) (hb : s.heap.IsList b ws.toArray) (hsz : vs.length + ws.length ≤ sizeLine)
    (h : Q (.ref s.heap.objs.size) { s with heap := s.heap.push { cls := .type "list", data := .seq (vs ++ ws).toArray } }) : wpAny (model prog w) A (binaryOp .Add (.ref l) (.ref b)) Q E s := by
  obtain ⟨⟨cls, dd, data, sl⟩, ho, hc, n, hd⟩ := id hl
  obtain ⟨⟨cls2, dd2, data2, sl2⟩, ho2, hc2, n2, hd2⟩ := id hb
  simp only at hc hd hc2 hd2
  subst hc hd hc2 hd2
  have e : vs.toArray ++ ws.toArray = (vs ++ ws).toArray := by simp
  refine concat_meets ⟨_, ho, rfl⟩ ⟨_, ho2, rfl⟩ noFill_list_add seq_list_add PySem.F.slot_list_add PySem.F.entry_list_add (PySem.F.args_list_add_2 _ _) (PyProof.Rows.list_addW l b vs.toArray ws.toArray n n2 dd dd2 sl sl2 (by simpa using hsz)) ⟨ho, ho2, ?_⟩
  rw [e]
  exact h
theorem sum_loopL {R : Result → Shared → Prop} {S I l : Addr} {items : Array Value} (hh : A.handled = none) (hlI : l ≠ I) (hSI : S ≠ I) (hSl : S ≠ l) (g0 : Heap) :
    ∀ (rest : List (List Value)) (i : Nat) (acc : List Value) (cur : Addr) (c : Nat) (s : Shared), items.size = i + rest.length → acc.length + (rest.map List.length).sum ≤ sizeLine → g0.objs.size ≤ s.heap.objs.size →
      (∀ (j : Nat) (ws : List Value), rest[j]? = some ws → ∃ b : Addr, items[i + j]? = some (.ref b) ∧ b ≠ S ∧ b ≠ I ∧ s.heap.IsList b ws.toArray) →
      s.heap.IsListIter I l i → s.heap.IsList l items → s.heap.IsList cur acc.toArray → cur ≠ S → cur ≠ I → s.heap.get? S = some { cls := .type "list", dict := none, data := .seq #[.ref cur] c, slots := #[] } →
      (∀ h' tk r, h'.IsList r (acc ++ rest.flatten).toArray → (rest = [] ∧ r = cur ∨ g0.objs.size ≤ r ∧ ∃ n, h'.get? r = some { cls := .type "list", dict := none, data := .seq (acc ++ rest.flatten).toArray n, slots := #[] }) → (∀ b o, b ≠ S → b ≠ I → s.heap.get? b = some o → h'.get? b = some o) → R (.ok (.ret (.ref r))) { s with heap := h', toks := tk }) →
      codeAny (model prog w) A (.builtin "sum.loop" ⟨[.ref I, .ref S, rawInt 2, rawInt 0], []⟩) R s
  | [], i, acc, cur, c, s, hsz, hln, hg, ht, hit, hl, hcur, hcS, hcI, hS, hR => by
    refine codeAny_builtin F.entry_sum_loop ?_
    rw [Around.under_plainId F.plain_sum_loop _]
    show wpAny _ A.in1 (seqItems? (.ref S) >>= _) _ _ s
    refine wpAny_bind (wpAny_seqItems hS rfl ?_)
    show wpAny _ A.in1 (tryCatch (pyNext (.ref I)) _ >>= _) _ _ s
    refine wpAny_bind (wpAny_tryCatch (wpAny_pyNext_list_end (A := A.in1) hh hit hl (Array.getElem?_eq_none (Nat.le_of_eq hsz)) fun h' he => ?_))
    refine wpAny_pure (hR h' s.toks cur ?_ (.inl ⟨rfl, rfl⟩) fun b o _ hb e => he b o hb e)
    rw [List.flatten_nil, List.append_nil]
    exact hcur.at fun o e => he cur o hcI e
  | ws :: rest, i, acc, cur, c, s, hsz, hln, hg, ht, hit, hl, hcur, hcS, hcI, hS, hR => by
    obtain ⟨b, hb, hbS, hbI, hbl⟩ := ht 0 ws rfl
    rw [List.length_cons] at hsz
    rw [List.map_cons, List.sum_cons] at hln
    refine codeAny_builtin F.entry_sum_loop ?_
    rw [Around.under_plainId F.plain_sum_loop _]
    show wpAny _ A.in1 (seqItems? (.ref S) >>= _) _ _ s
    refine wpAny_bind (wpAny_seqItems hS rfl ?_)
    show wpAny _ A.in1 (tryCatch (pyNext (.ref I)) _ >>= _) _ _ s
    refine wpAny_bind (wpAny_tryCatch (wpAny_pyNext_list_item (x := .ref b) hit hl (by simpa using hb) fun h1 hit1 hs1 => ?_))
    have k1 : ∀ c o, c ≠ I → s.heap.get? c = some o → h1.get? c = some o := fun c o hc e => (hs1.2 c hc).trans e
    have sz1 : h1.objs.size = s.heap.objs.size := hs1.1
    show wpAny _ A.in1 ((holding [Value.ref b] (binaryOp .Add (.ref cur) (.ref b))).attempt >>= _) _ _ _
    refine wpAny_bind (wpAny_attempt (wpAny_holding (cat_raw (vs := acc) (ws := ws) (hcur.at fun o e => k1 cur o hcI e) (hbl.at fun o e => k1 b o hbI e) (by omega) ?_)))
    have hS1 : (h1.push { cls := .type "list", data := .seq (acc ++ ws).toArray }).get? S = some { cls := .type "list", dict := none, data := .seq #[.ref cur] c, slots := #[] } := Heap.get?_push_of_some _ (k1 S _ hSI hS)
    show wpAny _ A.in1 (updateSeq S (fun _ => #[.ref h1.objs.size]) >>= _) _ _ _
    refine wpAny_bind (wpAny_updateSeq hS1 rfl ?_)
    have hS2 := Heap.get?_update_self (Obj.mapSeq fun _ => #[Value.ref h1.objs.size]) hS1 rfl
    refine wpAny_bind (wpAny_letGo ?_)
    have k2 : ∀ c o, c ≠ S → c ≠ I → s.heap.get? c = some o → (((h1.push { cls := .type "list", data := .seq (acc ++ ws).toArray }).update S (Obj.mapSeq fun _ => #[Value.ref h1.objs.size])).update S (Obj.mapSeq fun _ => #[Value.ref h1.objs.size])).get? c = some o := fun c o h1' h2' e =>
      (Heap.get?_update_other _ _ (Ne.symm h1')).trans ((Heap.get?_update_other _ _ (Ne.symm h1')).trans (Heap.get?_push_of_some _ (k1 c o h2' e)))
    have hIlt : I < h1.objs.size := by obtain ⟨o, e, _⟩ := hit1; exact Heap.lt_size e
    have hSlt : S < h1.objs.size := Heap.lt_size (k1 S _ hSI hS)
    refine wpAny_bind (wpAny_updateSeq hS2 rfl (wpAny_pure ⟨plainId_quiet F.plain_sum_loop _, sum_loopL (items := items) hh hlI hSI hSl g0 rest (i + 1) (acc ++ ws) h1.objs.size _ _ (by omega) (by rw [List.length_append]; omega) ?_ (fun j ws' e => ?_) ?_ ?_ ?_ (Nat.ne_of_gt hSlt) (Nat.ne_of_gt hIlt) (Heap.get?_update_self _ hS2 rfl) fun h' tk r hr hor kk => ?_⟩))
    · show _ ≤ (((h1.push _).update S _).update S _).objs.size
      simp only [Heap.size_update, Heap.size_push]
      omega
    · obtain ⟨b', hb', hbS', hbI', hbl'⟩ := ht (j + 1) ws' (by simpa using e)
      refine ⟨b', by rw [show i + 1 + j = i + (j + 1) by omega]; exact hb', hbS', hbI', hbl'.at fun o e => k2 b' o hbS' hbI' e⟩
    · obtain ⟨o, e, r⟩ := hit1
      exact ⟨o, (Heap.get?_update_other _ _ hSI).trans ((Heap.get?_update_other _ _ hSI).trans (Heap.get?_push_of_some _ e)), r⟩
    · exact hl.at fun o e => k2 l o (Ne.symm hSl) hlI e
    · refine ⟨_, (Heap.get?_update_other _ _ (Nat.ne_of_lt hSlt)).trans ((Heap.get?_update_other _ _ (Nat.ne_of_lt hSlt)).trans (Heap.get?_push_size _ rfl)), rfl, _, rfl⟩
    · refine hR h' tk r (by rw [List.flatten_cons, ← List.append_assoc]; exact hr) (.inr ?_) fun c o h3 h4 e => kk c o h3 h4 (k2 c o h3 h4 e)
      rcases hor with ⟨e0, e⟩ | ⟨e, n, en⟩
      · subst e
        refine ⟨by rw [sz1]; exact hg, 0, ?_⟩
        rw [e0, List.flatten_cons, List.flatten_nil, List.append_nil]
        exact kk _ _ (Nat.ne_of_gt hSlt) (Nat.ne_of_gt hIlt) ((Heap.get?_update_other _ _ (Nat.ne_of_lt hSlt)).trans ((Heap.get?_update_other _ _ (Nat.ne_of_lt hSlt)).trans (Heap.get?_push_size _ rfl)))
      · exact ⟨e, n, by rw [List.flatten_cons, ← List.append_assoc]; exact en⟩
theorem args_sum2 (a b : Value) : argsOk "sum" ⟨[a, b], []⟩ := by unfold argsOk; kernel_rfl
theorem sum_lists {s : Shared} {l b0 : Addr} {its : List Value} {wss : List (List Value)} {Q : Value → Shared → Prop} (hh : A.handled = none) (hl : s.heap.IsList l its.toArray) (h0 : s.heap.IsList b0 #[]) (hn : its.length = wss.length) (hz : (wss.map List.length).sum ≤ sizeLine)
    (ht : ∀ (j : Nat) (ws : List Value), wss[j]? = some ws → ∃ b : Addr, its[j]? = some (.ref b) ∧ s.heap.IsList b ws.toArray)
    (h : ∀ h' tk r, h'.IsList r wss.flatten.toArray → (wss = [] ∧ r = b0 ∨ s.heap.objs.size ≤ r ∧ ∃ n, h'.get? r = some { cls := .type "list", dict := none, data := .seq wss.flatten.toArray n, slots := #[] }) → (∀ b o, s.heap.get? b = some o → h'.get? b = some o) → Q (.ref r) { s with heap := h', toks := tk }) :
    wpAny (model prog w) A (call (.builtin "sum") [.ref l, .ref b0]) Q E s := by
  refine call_function_tree F.kind_sum F.plain_sum F.entry_sum (args_sum2 _ _) ?_
  unfold Builtin.«sum»
  simp only [List.length_cons, List.length_nil]
  rw [if_neg (by decide)]
  refine wpAny_bind (wpAny_of_eq (show Builtin.Builtins.bindParams "sum" ["start"] 0 ⟨[.ref b0], []⟩ = pure [some (.ref b0)] from rfl) ?_)
  refine wpAny_bind (wpAny_pyIter_list hl ?_)
  have ty : ({ s with heap := s.heap.push { cls := .type "list_iterator", data := .fields #[.ref l, .int 0 0] } } : Shared).TypeIs (.ref b0) "list" := by
    obtain ⟨o, e, c, _⟩ := h0
    exact ⟨o, Heap.get?_push_of_some _ e, c⟩
  refine wpAny_bind (wpAny_pure ?_)
  simp only [List.forIn_cons, List.forIn_nil]
  refine wpAny_bind (wpAny_bind (wpAny_bind (wpAny_isInstance (b := false) ty F.sub_list_str ?_)))
  simp only [Bool.false_eq_true, if_false]
  refine wpAny_pure (wpAny_bind (wpAny_bind (wpAny_isInstance (b := false) ty F.sub_list_bytes ?_)))
  simp only [Bool.false_eq_true, if_false]
  refine wpAny_pure (wpAny_bind (wpAny_bind (wpAny_isInstance (b := false) ty F.sub_list_bytearray ?_)))
  simp only [Bool.false_eq_true, if_false]
  refine wpAny_pure (wpAny_pure ?_)
  refine wpAny_bind (wpAny_newObj_type ?_)
  have hlt : ∀ {b : Addr} {vs : Array Value}, s.heap.IsList b vs → b < s.heap.objs.size := fun q => by obtain ⟨o, e, _⟩ := q; exact Heap.lt_size e
  have szI : (s.heap.push { cls := .type "list_iterator", data := .fields #[.ref l, .int 0 0] }).objs.size = s.heap.objs.size + 1 := Heap.size_push _ _
  have kI : ∀ b o, s.heap.get? b = some o → ((s.heap.push { cls := .type "list_iterator", data := .fields #[.ref l, .int 0 0] }).push { cls := .type "list", data := .seq #[.ref b0] }).get? b = some o := fun b o e => Heap.get?_push_of_some _ (Heap.get?_push_of_some _ e)
  have key := sum_loopL (prog := prog) (w := w) (A := A) (R := fun r s' => match r with | .ok (.ret v) => Q v s' | .ok _ => False | .error e => E e s') (S := (s.heap.push { cls := .type "list_iterator", data := .fields #[.ref l, .int 0 0] }).objs.size) (I := s.heap.objs.size) (l := l) (items := its.toArray) hh
    (Nat.ne_of_lt (hlt hl)) (Nat.ne_of_gt (by rw [szI]; exact Nat.lt_succ_self _)) (Nat.ne_of_gt (by rw [szI]; exact Nat.lt_succ_of_lt (hlt hl))) s.heap wss 0 [] b0 0
    { s with heap := (s.heap.push { cls := .type "list_iterator", data := .fields #[.ref l, .int 0 0] }).push { cls := .type "list", data := .seq #[.ref b0] } }
    (by rw [List.size_toArray, hn, Nat.zero_add]) (by rw [List.length_nil, Nat.zero_add]; exact hz) (by simp only [Heap.size_push]; omega)
    (fun j ws e => by
      obtain ⟨b, e1, e2⟩ := ht j ws e
      have hb := hlt e2
      exact ⟨b, by rw [Nat.zero_add]; simpa using e1, Nat.ne_of_lt (by rw [szI]; exact Nat.lt_succ_of_lt hb), Nat.ne_of_lt hb, e2.at fun o e => kI b o e⟩)
    ⟨_, Heap.get?_push_of_some _ (Heap.get?_push_size _ rfl), rfl, rfl⟩ (hl.at fun o e => kI l o e) (h0.at fun o e => kI b0 o e) (Nat.ne_of_lt (by rw [szI]; exact Nat.lt_succ_of_lt (hlt h0))) (Nat.ne_of_lt (hlt h0)) (Heap.get?_push_size _ rfl)
    (fun h' tk r hr hor kk => h h' tk r (by simpa using hr) (by simpa using hor) fun b o e => kk b o (Nat.ne_of_lt (by rw [szI]; exact Nat.lt_succ_of_lt (Heap.lt_size e))) (Nat.ne_of_lt (Heap.lt_size e)) (kI b o e))
  exact wpAny_pure ⟨plainId_quiet F.plain_sum_loop _, key⟩
end

/-! ### sum(lists, []) -/
def allLsts (h : MH) : List D → Option (List (List D))
  | [] => some []
  | d :: ds => match lstOf h d, allLsts h ds with
    | some xs, some r => some (xs :: r)
    | _, _ => none
def sumLF : Fn := fun ds h => match ds with
  | [d, .lst []] => match isTupB d, itemsOf h d with
    | false, some it => match allLsts h it.xs with
      | some xss => if (xss.map List.length).sum ≤ lim then .ok (.lst xss.flatten) h else .bad
      | none => .bad
    | _, _ => .bad
  | _ => .bad
theorem sumL_noexc : NoExc sumLF := fun ds h x h' e => by
  unfold sumLF at e
  repeat' split at e
  all_goals cases e
section
variable {n : Nm} {X : Cx} {pins : List (Addr × Obj)} {σ : L2.St} {H : Hp} {s : Shared} {pr : Addr → Option HO} {F : Hp} {ρ : List Addr} {h : MH}
theorem lsts_at (I : Inv X pins σ H s) (S : SR ((tb X n).at pr) F ρ H h) : ∀ {ds : List D} {xss : List (List D)} {vs : List V} {us : List Value}, Reps X.K F ρ ds vs → Vals vs us → allLsts h ds = some xss →
    ∃ (ys : List V) (wss : List (List Value)), Reps X.K F ρ xss.flatten ys ∧ Vals ys wss.flatten ∧ us.length = wss.length ∧ xss.map List.length = wss.map List.length ∧ ∀ (j : Nat) (ws : List Value), wss[j]? = some ws → ∃ b : Addr, us[j]? = some (.ref b) ∧ s.heap.IsList b ws.toArray
  | [], xss, _, _, .nil, .nil, e => by cases e; exact ⟨[], [], .nil, .nil, rfl, rfl, fun j ws q => by simp at q⟩
  | d :: ds, xss, _, _, .cons r1 r2, .cons v1 v2, e => by
    unfold allLsts at e
    split at e
    · rename_i xs r e1 e2
      cases e
      obtain ⟨yss, wss, a1, a2, a3, a5, a4⟩ := lsts_at I S r2 v2 e2
      obtain ⟨b, ys, rfl, lt, rs⟩ := lstOf_rep S r1 e1
      obtain ⟨its, rv, pl, hz⟩ := I.list (.of lt)
      cases v1
      refine ⟨ys ++ yss, its :: wss, by rw [List.flatten_cons]; exact rs.append a1, by rw [List.flatten_cons]; exact rv.append a2, by rw [List.length_cons, List.length_cons, a3], by rw [List.map_cons, List.map_cons, a5, rs.length, rv.length], fun j ws q => ?_⟩
      cases j with
      | zero =>
        simp at q; subst q
        exact ⟨b, rfl, pl.isList⟩
      | succ j => exact a4 j ws (by simpa using q)
    · cases e
theorem sumL_ok (hc : X.calm = true) : CallR X (.builtin "sum") (rF (tb X n) sumLF) := by
  rintro pins s σ H vs us Q I r ⟨pr, F, ρ, h, ds, S, rs, p⟩
  unfold sumLF at p
  split at p
  · rename_i d
    split at p
    · rename_i it hb hi
      split at p
      · rename_i xss hx
        split at p
        · rename_i hl
          cases rs with
          | cons r1 r2 =>
            cases r2 with
            | cons r2 r3 =>
              cases r3
              obtain ⟨l, rfl, ⟨ws, lt, rws⟩, _⟩ := isTupB_of S r1 hi
              rw [hb] at lt
              cases r2 with
              | @lst _ a0 vs0 h1 h2 =>
                cases h2
                cases r with
                | cons v1 r =>
                  cases r with
                  | cons v2 r =>
                    cases r
                    cases v1; cases v2
                    obtain ⟨its, rv, pl, hz⟩ := I.list lt
                    obtain ⟨its0, rv0, pl0, hz0⟩ := I.list (SqL.of (S.le _ _ h1))
                    cases rv0
                    obtain ⟨ys, wss, q1, q2, q3, q5, q4⟩ := lsts_at I S rws rv hx
                    have hz1 : (wss.map List.length).sum ≤ sizeLine := by rw [← q5]; exact lim_ok hl
                    refine sum_lists (its := its) (wss := wss) (I.ok.hd hc) pl.isList pl0.isList q3 hz1 q4 fun h' tk r hr hor kp => ?_
                    rcases hor with ⟨e1, e2⟩ | ⟨hge, n0, eo⟩
                    · subst e2
                      have e3 : xss = [] := by rw [e1] at q5; simpa using q5
                      rw [e3] at p
                      exact ⟨.ref r, H, I.kept (t' := tk) kp, rfl, p F ρ H _ (Ext.refl _ _) S (.lst h1 .nil)⟩
                    · have hn : H r = none := I.hok.fresh hge
                      have hlen : ys.length ≤ sizeLine := by
                        rw [← q1.length, List.length_flatten]
                        exact lim_ok hl
                      have I2 : Inv X pins σ (upd H r (.lst ys)) { s with heap := h', toks := tk } := by
                        exact I.laid (t' := tk) kp hge ⟨hlen, _, n0, q2, eo⟩
                      have S2 : SR ((tb X n).at pr) F ρ (upd H r (.lst ys)) h := S.grow fun a u e => by rw [upd_ne (ne_of_none e hn)]; exact e
                      exact ⟨.ref r, _, I2, rfl, mkL_at (b := false) p S2 (S.le.none hn) (fun n e => S.notin hn n r e rfl) (upd_same ..) (pr_none S hn) q1⟩
        · exact p.elim
      · exact p.elim
    · exact p.elim
  · exact p.elim
end
end MI

/-! MI, part ZK: d.get, d.pop, d.setdefault. -/
namespace MI
open PySem PySem.Spec L2

def dgetF : Fn := fun ds h => match ds with
  | [.ref m, k, d] => match boxD h m with
    | some kvs => if k.keyOk = true then .ok ((getD kvs k).getD d) h else .bad
    | none => .bad
  | _ => .bad
def dget1F : Fn := fun ds h => match ds with
  | [.ref m, k] => match boxD h m with
    | some kvs => if k.keyOk = true then .ok ((getD kvs k).getD .non) h else .bad
    | none => .bad
  | _ => .bad
def dpopF : Fn := fun ds h => match ds with
  | [.ref m, k] => match boxD h m with
    | some kvs => if k.keyOk = true then match getD kvs k with
      | some d => .ok d (h.set m (.dict (delD kvs k)))
      | none => .bad
      else .bad
    | none => .bad
  | _ => .bad
def dpop2F : Fn := fun ds h => match ds with
  | [.ref m, k, e] => match boxD h m with
    | some kvs => if k.keyOk = true then match getD kvs k with
      | some d => .ok d (h.set m (.dict (delD kvs k)))
      | none => .ok e h
      else .bad
    | none => .bad
  | _ => .bad
def dsetdF : Fn := fun ds h => match ds with
  | [.ref m, k, e] => match boxD h m with
    | some kvs => if (k.keyOk && decide (kvs.length < lim)) = true then match getD kvs k with
      | some d => .ok d h
      | none => .ok e (h.set m (.dict (setD kvs k e)))
      else .bad
    | none => .bad
  | _ => .bad
theorem dget_noexc : NoExc dgetF := fun ds h x h' e => by
  unfold dgetF at e
  repeat' split at e
  all_goals cases e
theorem dget1_noexc : NoExc dget1F := fun ds h x h' e => by
  unfold dget1F at e
  repeat' split at e
  all_goals cases e
theorem dpop_noexc : NoExc dpopF := fun ds h x h' e => by
  unfold dpopF at e
  repeat' split at e
  all_goals cases e
theorem dpop2_noexc : NoExc dpop2F := fun ds h x h' e => by
  unfold dpop2F at e
  repeat' split at e
  all_goals cases e
theorem dsetd_noexc : NoExc dsetdF := fun ds h x h' e => by
  unfold dsetdF at e
  repeat' split at e
  all_goals cases e
section
variable {n : Nm} {X : Cx}
theorem dget_ok (hu : X.A.units + 64 < cLine) : MtR X "dict.get" (rM (tb X n) dgetF) := by
  rintro pins s σ H x vs u us Q I rx r ⟨pr, F, ρ, h, ds, S, rs, p⟩
  unfold dgetF at p
  split at p
  · rename_i m k d
    split at p
    · rename_i kvs hx
      split at p
      · rename_i hk
        obtain ⟨k1, hk1, hk2⟩ := D.keyOk_iff.mp hk
        cases rs with
        | cons r1 r2 =>
          cases r2 with
          | cons r2 r3 =>
            cases r3 with
            | cons r3 r4 =>
              cases r4
              cases r1 with
              | @ref m a h1 =>
                obtain rfl : u = .ref a := rx
                cases r with
                | cons v1 r =>
                  cases r with
                  | cons v2 r =>
                    cases r
                    obtain ⟨ys, kr, dn, hs, hz, xs, hH⟩ := dict_at I S h1 (boxD_at hx)
                    refine wpAny_call_entry PySem.F.slot_dict_get dn.typeIs PySem.F.entry_dict_get ?_ (PySem.F.args_dict_get_3 _ _ _)
                    show wpAny _ _ (dictGet a _ >>= _) _ _ s
                    refine wpAny_bind (get_key (A := X.A.in1) (by show X.A.units + 1 + 8 < _; omega) (rep_nested I S.le r2 v1 hk1) hk2 dn ?_)
                    rcases kr.look hk1 with ⟨q1, q2⟩ | ⟨e2, uu, ev, q1, q2, q3, q4⟩
                    · rw [q2]
                      rw [q1] at p
                      show wpAny _ _ (Builtin.Dict.missed a _ >>= _) _ _ _
                      exact wpAny_bind (wpAny_missed_other hs (wpAny_pure ⟨_, rfl, ⟨_, H, I.tok _, v2, p F ρ H _ (Ext.refl _ _) S r3⟩⟩))
                    · rw [q2]
                      rw [q1] at p
                      exact wpAny_pure ⟨_, rfl, ⟨uu, H, I.tok _, q4, p F ρ H _ (Ext.refl _ _) S q3⟩⟩
      · exact p.elim
    · exact p.elim
  · exact p.elim
theorem dget1_ok (hu : X.A.units + 64 < cLine) : MtR X "dict.get" (rM (tb X n) dget1F) := by
  rintro pins s σ H x vs u us Q I rx r ⟨pr, F, ρ, h, ds, S, rs, p⟩
  unfold dget1F at p
  split at p
  · rename_i m k
    split at p
    · rename_i kvs hx
      split at p
      · rename_i hk
        obtain ⟨k1, hk1, hk2⟩ := D.keyOk_iff.mp hk
        cases rs with
        | cons r1 r2 =>
          cases r2 with
          | cons r2 r4 =>
            cases r4
            cases r1 with
            | @ref m a h1 =>
              obtain rfl : u = .ref a := rx
              cases r with
              | cons v1 r =>
                cases r
                obtain ⟨ys, kr, dn, hs, hz, xs, hH⟩ := dict_at I S h1 (boxD_at hx)
                refine wpAny_call_entry PySem.F.slot_dict_get dn.typeIs PySem.F.entry_dict_get ?_ (PySem.F.args_dict_get_2 _ _)
                show wpAny _ _ (dictGet a _ >>= _) _ _ s
                refine wpAny_bind (get_key (A := X.A.in1) (by show X.A.units + 1 + 8 < _; omega) (rep_nested I S.le r2 v1 hk1) hk2 dn ?_)
                rcases kr.look hk1 with ⟨q1, q2⟩ | ⟨e2, uu, ev, q1, q2, q3, q4⟩
                · rw [q2]
                  rw [q1] at p
                  show wpAny _ _ (Builtin.Dict.missed a _ >>= _) _ _ _
                  exact wpAny_bind (wpAny_missed_other hs (wpAny_pure ⟨_, rfl, ⟨.non, H, I.tok _, rfl, p F ρ H _ (Ext.refl _ _) S .non⟩⟩))
                · rw [q2]
                  rw [q1] at p
                  exact wpAny_pure ⟨_, rfl, ⟨uu, H, I.tok _, q4, p F ρ H _ (Ext.refl _ _) S q3⟩⟩
      · exact p.elim
    · exact p.elim
  · exact p.elim
theorem look_some {K : PySem.W.Frag} {F : Hp} {ρ : List Addr} {kvs : DK} {ys : KVs Value} {d e : D} {k : NestedKey} (kr : KRel K F ρ kvs ys) (hk : d.key = some k) (e1 : getD kvs d = some e) : ys ≠ [] ∧ ∃ u ev, lookN ys k = some ev ∧ Rep K F ρ e u ∧ RelV u ev := by
  rcases kr.look hk with ⟨q1, _⟩ | ⟨e2, uu, ev, q1, q2, q3, q4⟩
  · rw [e1] at q1; cases q1
  · rw [e1] at q1; cases q1
    exact ⟨fun z => (by rw [z] at q2; cases q2), uu, ev, q2, q3, q4⟩
theorem keyPart_none {h : Heap} {k : NestedKey} {v : Value} : True := trivial
/-- d.pop(k), there -/
theorem pop_there {prog : Program} {w : World} {A : Around} {E : Value → Shared → Prop} {s : Shared} {d : Addr} {ys : KVs Value} {k : NestedKey} {key v : Value} {more : List Value} {Q : Value → Shared → Prop} (hm : more = [] ∨ ∃ x, more = [x]) (hargs : argsOk "dict.pop" ⟨.ref d :: key :: more, []⟩) (hu : A.units + 16 < cLine) (hs : (d == sysModules) = false)
    (hkey : NestedIs s.heap k key) (dk : k.depth ≤ 8) (dn : DictN w s.heap d ys) (hsz : ys.length ≤ sizeLine) (e : lookN ys k = some v) (hQ : ∀ h' tk, DictNU w h' d (delN ys k) → Heap.SameBut d s.heap h' → Q v { s with heap := h', toks := tk }) :
    wpAny (model prog w) A (call (.builtin "dict.pop") (.ref d :: key :: more)) Q E s := by
  have hne : ys ≠ [] := fun z => by rw [z] at e; cases e
  obtain ⟨o, es, ep, ho, hc, hd, he, hk, nd⟩ := id dn
  have hemp : es.isEmpty = false := by
    cases q : es.isEmpty with
    | false => rfl
    | true =>
      exfalso
      have z : es.size = 0 := by simpa using q
      have z2 : es.toList = [] := List.length_eq_zero_iff.mp (by rw [Array.length_toList]; exact z)
      rw [he] at z2
      exact hne (List.map_eq_nil_iff.mp z2)
  refine wpAny_call_entry PySem.F.slot_dict_pop dn.typeIs PySem.F.entry_dict_pop ?_ hargs
  have fin : ∀ (A : Around) (hu : A.units + 12 < cLine) (R : Option DictEntry → Shared → Prop), (∀ en : DictEntry, en.val = v → ∀ h' tk, DictNU w h' d (delN ys k) → Heap.SameBut d s.heap h' → R (some en) { s with heap := h', toks := tk }) → wpAny (model prog w) A (Builtin.Dict.takeOut d key) R E s := fun A hu R hR =>
    take_key (by omega) hkey dk dn (fun z => by rw [z] at e; cases e) (fun en v' e1 e2 h' dn' sb => by rw [e] at e1; cases e1; exact hR en e2 h' _ dn' sb) hsz
  unfold Builtin.«dict.pop»
  refine wpAny_bind ?_
  unfold Builtin.Dict.keyAndDefault
  refine wpAny_bind (wpAny_notOrdered_dict dn.typeIs ?_)
  have both : ∀ dflt : Option Value, wpAny (model prog w) A.in1 (do
        let empty ← if (keyPart key).isSome then pure false else do pure (← dictEntries d).isEmpty
        let old ← if empty then rule "dict.pop.empty"; pure none else Builtin.Dict.takeOut d key
        if old.isNone then Builtin.Dict.missedRemoval d key
        match old, dflt with
        | some e, _ => letGo [e.key] [e.val]; ret e.val
        | none, some x => rule "dict.pop.default"; ret x
        | none, none => rule "dict.pop.keyerror"; raiseNew (← newExc (.type "KeyError") [key])) (fun f s' => ∃ v', f = .done (.ret v') ∧ Q v' s') E s := fun dflt => by
    have tl : wpAny (model prog w) A.in1 (Builtin.Dict.takeOut d key >>= fun old => do
        if old.isNone then Builtin.Dict.missedRemoval d key
        match old, dflt with
        | some e, _ => letGo [e.key] [e.val]; ret e.val
        | none, some x => rule "dict.pop.default"; ret x
        | none, none => rule "dict.pop.keyerror"; raiseNew (← newExc (.type "KeyError") [key])) (fun f s' => ∃ v', f = .done (.ret v') ∧ Q v' s') E s := by
      refine wpAny_bind (fin A.in1 (by show A.units + 1 + 12 < _; omega) _ fun en hen h' tk dn' sb => ?_)
      simp only [Option.isNone_some, Bool.false_eq_true, if_false]
      exact wpAny_bind (wpAny_letGo (wpAny_pure ⟨en.val, rfl, by rw [hen]; exact hQ h' tk dn' sb⟩))
    cases hpart : (keyPart key).isSome with
    | true =>
      simp only [if_true]
      refine wpAny_bind (wpAny_pure ?_)
      simp only [Bool.false_eq_true, if_false]
      exact tl
    | false =>
      simp only [Bool.false_eq_true, if_false]
      refine wpAny_bind (wpAny_dictEntries ho hd (wpAny_bind (wpAny_pure ?_)))
      simp only [hemp, Bool.false_eq_true, if_false]
      exact tl
  rcases hm with rfl | ⟨x, rfl⟩
  · show wpAny _ _ (pure (d, key, none)) _ _ s
    refine wpAny_pure ?_
    exact both none
  · show wpAny _ _ (pure (d, key, some x)) _ _ s
    refine wpAny_pure ?_
    exact both (some x)
theorem dsetd_ok (hu : X.A.units + 64 < cLine) : MtR X "dict.setdefault" (rM (tb X n) dsetdF) := by
  rintro pins s σ H x vs u us Q I rx r ⟨pr, F, ρ, h, ds, S, rs, p⟩
  unfold dsetdF at p
  split at p
  · rename_i m k e
    split at p
    · rename_i kvs hx
      split at p
      · rename_i hk
        rw [Bool.and_eq_true, decide_eq_true_eq] at hk
        obtain ⟨k1, hk1, hk2⟩ := D.keyOk_iff.mp hk.1
        cases rs with
        | cons r1 r2 =>
          cases r2 with
          | cons r2 r3 =>
            cases r3 with
            | cons r3 r4 =>
              cases r4
              cases r1 with
              | @ref m a h1 =>
                obtain rfl : u = .ref a := rx
                cases r with
                | cons v1 r =>
                  cases r with
                  | cons v2 r =>
                    cases r
                    obtain ⟨ys, kr, dn, hs, hz, xs, hH⟩ := dict_at I S h1 (boxD_at hx)
                    refine wpAny_call_entry PySem.F.slot_dict_setdefault dn.typeIs PySem.F.entry_dict_setdefault ?_ (PySem.F.args_dict_setdefault_3 _ _ _)
                    unfold Builtin.«dict.setdefault»
                    refine wpAny_bind ?_
                    unfold Builtin.Dict.keyAndDefault
                    refine wpAny_bind (wpAny_notOrdered_dict dn.typeIs ?_)
                    show wpAny _ _ (pure (a, _, some _)) _ _ s
                    refine wpAny_pure ?_
                    simp only [hs, Bool.false_eq_true, if_false]
                    refine wpAny_bind (dflt_key (A := X.A.in1) (by show X.A.units + 1 + 8 < _; omega) (rep_nested I S.le r2 v1 hk1) hk2 dn (fun v hv => ?_) (fun hv h' dn' sb => ?_) hz)
                    · rcases kr.look hk1 with ⟨q1, q2⟩ | ⟨e2, uu, ev, q1, q2, q3, q4⟩
                      · rw [hv] at q2; cases q2
                      · rw [hv] at q2; cases q2
                        rw [q1] at p
                        exact wpAny_pure ⟨_, rfl, ⟨uu, H, I.tok _, q4, p F ρ H _ (Ext.refl _ _) S q3⟩⟩
                    · rcases kr.look hk1 with ⟨q1, q2⟩ | ⟨e2, uu, ev, q1, q2, q3, q4⟩
                      · rw [q1] at p
                        have kr' := kr.put hk1 hk2 r2 v1 r3 v2
                        obtain ⟨xs', fin⟩ := dict_put I S h1 hH hs kr' dn' sb (by have := setD_len kvs k e; have := lim_ok (Nat.le_refl lim); omega)
                        obtain ⟨I', S'⟩ := fin (s.toks + k1.draws)
                        exact wpAny_pure ⟨_, rfl, ⟨_, _, I', v2, p F ρ _ _ (Ext.refl _ _) S' r3⟩⟩
                      · rw [hv] at q2; cases q2
      · exact p.elim
    · exact p.elim
  · exact p.elim
end
end MI

/-! MI, part ZL: sorted of tuples, the first of them empty. -/
namespace MI
open PySem PySem.Spec L2
open PySem.W (EachIs AllAlike Sortable dataLe dataKind SortsAt sortVals alike sortingHeap)

section
open PySem.W PySem.SeqAt PyProof.Rows
theorem call_tuple_lt {A : Around} {s : Shared} {prog : Program} {w : World} {E : Value → Shared → Prop} {Q : Value → Shared → Prop} {l b : Addr} {items items2 : Array Value} {e r : Nat → Bool} (hl : s.heap.IsTuple l items) (hb : s.heap.IsTuple b items2)
    (he : ∀ j (h1 : j < items.size) (h2 : j < items2.size), EqAt A.in1 s items[j] items2[j] (e j)) (hr : ∀ j (h1 : j < items.size) (h2 : j < items2.size), e j = false → RcLt A.in1 s items[j] items2[j] (r j))
    (h : Q (.bool (firstLt e r (decide (items.size < items2.size)) (List.range (min items.size items2.size)))) s) : wpAny (model prog w) A (call (.builtin "tuple.__lt__") [.ref l, .ref b]) Q E s := by
  obtain ⟨⟨cls, dd, data, sl⟩, ho, hc, n, hd⟩ := id hl
  obtain ⟨⟨cls2, dd2, data2, sl2⟩, ho2, hc2, n2, hd2⟩ := id hb
  simp only at hc hd hc2 hd2
  subst hc hd hc2 hd2
  exact call_meets F.slot_tuple_lt ⟨_, ho, rfl⟩ F.entry_tuple_lt (F.args_tuple_lt_2 _ _) (tuple_ltAt l b items items2 n n2 dd dd2 sl sl2 e r) ⟨ho, ho2, he, hr, h⟩
theorem oneLt_tup {prog : Program} {w : World} {A : Around} {s : Shared} {E : Value → Shared → Prop} {xs ys : List PyData} {a b : Value} {as bs : List Addr} {Q : Bool → Shared → Prop} (ra : Reads s.heap a (.tuple xs) as) (rb : Reads s.heap b (.tuple ys) bs) (h : alike (.tuple xs) (.tuple ys) = true)
    (hu : A.units + min (PyData.tuple xs).depth (PyData.tuple ys).depth < cLine) (hq : Q (dataLt (.tuple xs) (.tuple ys)) s) : wpAny (model prog w) A (oneLt' true a b) Q E s := by
  have hal : alikeAll xs ys = true := by simpa [alike] using h
  cases ra with
  | @tuple l o vs n _ as₁ h1 h2 h3 h4 =>
    cases rb with
    | @tuple l' o' vs' n' _ bs₁ k1 k2 k3 k4 =>
      have n1 : vs.size = xs.length := by simpa using ReadsAll.length _ _ _ h4
      have n2 : vs'.size = ys.length := by simpa using ReadsAll.length _ _ _ k4
      rw [dataLt_tuple, ← firstLt_toks xs ys hal, ← n1, ← n2] at hq
      rw [oneLt'_eq]
      simp only [if_true]
      refine wpAny_bind (wpAny_cRoomFor (room_here hu) ?_)
      refine wpAny_bind (wpAny_callSpecialIfBound?_slot (T := "tuple") ⟨_, h1, h2⟩ F.slot_tuple_lt (call_tuple_lt (e := pairEq xs ys) (r := fun j => dataLt (xs.getD j .none) (ys.getD j .none)) ⟨_, h1, h2, _, h3⟩ ⟨_, k1, k2, _, k3⟩ (fun j j1 j2 => ?_) (fun j j1 j2 hj => ?_) ?_))
      · have := eqAt_alikeAll xs ys A.in1 s vs.toList vs'.toList _ _ h4 k4 hal (room_in hu) j (by simpa using j1) (by simpa using j2)
        simpa using this
      · have := rcLt_alikeAll xs ys A.in1 s vs.toList vs'.toList _ _ h4 k4 hal (room_in hu) j (by simpa using j1) (by simpa using j2) hj
        simpa using this
      · exact wpAny_truthy_bool hq
/-- the firsts of tuples -/
theorem tup_firsts {M : Model} {A : Around} {E : Value → Shared → Prop} {s : Shared} : ∀ (vs : List Value) {Q : List (Option Value) → Shared → Prop}, (∀ v ∈ vs, ∃ xs as, Reads s.heap v (.tuple xs) as) → (∀ fs : List (Option Value), fs.length = vs.length → (∀ (f : Option Value) (v : Value) , fs.head? = some f → vs.head? = some v → (∃ as, Reads s.heap v (.tuple []) as) → f = none) → Q fs s) → wpAny M A (vs.mapM firstOfTuple') Q E s
  | [], _, _, h => by rw [List.mapM_nil]; exact wpAny_pure (h [] rfl fun f v e => by simp at e)
  | v :: vs, Q, t, h => by
    obtain ⟨xs, as, r⟩ := t v (List.mem_cons_self ..)
    rw [List.mapM_cons]
    refine wpAny_bind ?_
    rw [kas_first_eq]
    cases r with
    | @tuple l o its n _ as₁ h1 h2 h3 h4 =>
      refine wpAny_bind (Looks.here (show Looks M s.heap (typeOf (.ref l)) o.cls from (Looks.ld h1).andThen .now) ?_)
      rw [h2, if_neg (by first | decide | simp)]
      refine wpAny_bind (listItems_at h1 h3 (wpAny_pure ?_))
      refine wpAny_bind (tup_firsts vs (Q := fun bs s' => wpAny M A (pure (its[0]? :: bs)) Q E s') (fun v hv => t v (List.mem_cons_of_mem _ hv)) fun fs hl _ => wpAny_pure (h _ (by rw [List.length_cons, List.length_cons, hl]) fun f v e1 e2 e3 => ?_))
      simp at e1 e2
      subst e1; subst e2
      obtain ⟨as2, r2⟩ := e3
      cases r2 with
      | @tuple l o' its' n' _ _ k1 k2 k3 k4 =>
        rw [h1] at k1; cases k1
        rw [h3] at k3; cases k3
        have z := ReadsAll.length _ _ _ k4
        have z2 : its.size = 0 := by simpa using z
        simp [z2]
theorem tup_kind {M : Model} {A : Around} {E : Value → Shared → Prop} {s : Shared} {vs : List Value} {Q : SortKind → Shared → Prop} {v0 : Value} (h0 : vs.head? = some v0) (hr0 : ∃ as, Reads s.heap v0 (.tuple []) as) (t : ∀ v ∈ vs, ∃ xs as, Reads s.heap v (.tuple xs) as) (h : Q oneType' s) :
    wpAny M A (keyKind' vs.toArray) Q E s := by
  obtain ⟨rest, rfl⟩ : ∃ rest, vs = v0 :: rest := by
    cases vs with
    | nil => simp at h0
    | cons v r => simp at h0; subst h0; exact ⟨r, rfl⟩
  rw [keyKind'_eq, List.mapM_toArray, map_eq_pure_bind]
  refine wpAny_bind (wpAny_bind (tup_firsts _ t fun fs hl hf => wpAny_pure ?_))
  obtain ⟨fr, rfl⟩ : ∃ fr, fs = none :: fr := by
    cases fs with
    | nil => simp at hl
    | cons f r => exact ⟨r, by rw [hf f v0 rfl rfl hr0]⟩
  rw [if_neg (by simp), if_neg (by simp)]
  rw [oneTypeOnly'_eq, List.mapM_toArray, map_eq_pure_bind]
  refine wpAny_bind (wpAny_bind (wpAny_bind (kas_mapM (r := Value.type "tuple") _ (fun v hv Q' hq => ?_) (wpAny_pure ?_))))
  · obtain ⟨xs, as, r⟩ := t v hv
    exact (looks_reads r).here hq
  · have hall : ((List.map (fun _ => Value.type "tuple") (v0 :: rest)).toArray.all fun x => x == Value.type "tuple") = true := by
      simp only [List.all_toArray, List.all_map, List.all_eq_true]
      intro _ _
      rfl
    have h0' : (List.map (fun _ => Value.type "tuple") (v0 :: rest)).toArray[0]? = some (Value.type "tuple") := by simp
    rw [h0']
    simp only [hall, if_true]
    exact wpAny_pure (wpAny_pure h)
theorem sortsAt_empty {prog : Program} {w : World} {A : Around} {s : Shared} {vs : List Value} {ds : List PyData} (e : EachIs (fun v d => ∃ as, Reads s.heap v d as) vs ds) (hal : AllAlike ds) (ht : ∀ d ∈ ds, ∃ xs, d = .tuple xs) (h0 : ds.head? = some (.tuple [])) (hu : ∀ d, d ∈ ds → A.units + d.depth < cLine) : SortsAt prog w A s (dataKind s.heap ds) vs := by
  refine ⟨fun v hv => ?_, oneType', ?_, fun h2 E Q hq => ?_⟩
  · obtain ⟨d, hd, as, r⟩ := e.left v hv
    exact ⟨_, dataKind_some hal hd r⟩
  · intro E x y a b Q ha hb hq
    obtain ⟨d, as, hd, ra, rfl⟩ := dataKind_inv ha
    obtain ⟨d', as', hd', rb, rfl⟩ := dataKind_inv hb
    obtain ⟨xs, rfl⟩ := ht d hd
    obtain ⟨ys, rfl⟩ := ht d' hd'
    rw [keyLt'_oneType]
    exact oneLt_tup ra rb (hal _ hd _ hd') (Nat.lt_of_le_of_lt (Nat.add_le_add_left (Nat.min_le_left _ _) _) (hu _ hd)) hq
  · cases e with
    | nil => exact absurd h2 (by simp)
    | @cons v d vs ds r t =>
      simp at h0
      subst h0
      refine tup_kind (v0 := v) rfl r (fun v' hv' => ?_) hq
      obtain ⟨d, hd, as, r'⟩ := (EachIs.cons r t).left v' hv'
      obtain ⟨xs, rfl⟩ := ht d hd
      exact ⟨xs, as, r'⟩
end
section
variable {prog : Program} {w : World} {A : Around} {E : Value → Shared → Prop} {s : Shared} {β : Type} {vs : List Value} {bs : List β} {enc : β → PyData} {R : Value → β → Prop}
theorem sorted_anyE {x : Value} {Q : Value → Shared → Prop} (hcol : ∀ (R' : List Value → Shared → Prop) (E' : Value → Shared → Prop), (∀ h' tk, (∀ b o, s.heap.get? b = some o → h'.get? b = some o) → R' vs { s with heap := h', toks := tk }) → wpAny (model prog w) A.in1 (collect x) R' E' s)
    (e : EachIs R vs bs) (er : EachIs (fun v b => ∃ as, Reads s.heap v (enc b) as) vs bs) (hal : AllAlike (bs.map enc)) (ht : ∀ d ∈ bs.map enc, ∃ xs, d = .tuple xs) (h0 : (bs.map enc).head? = some (.tuple [])) (hL : bs.length ≤ sizeLine) (hu : ∀ b, b ∈ bs → A.units + 2 + (enc b).depth < cLine)
    (h : ∀ (h1 h' : Heap) (tk : Nat) (out : List Value) (c : Nat), (∀ b o, s.heap.get? b = some o → h1.get? b = some o) → (∀ b o, h1.get? b = some o → h'.get? b = some o) → h'.get? h1.objs.size = some { cls := .type "list", data := .seq (List.toArray out) c } → EachIs R out (bs.mergeSort (dataLe false enc)) → Q (.ref h1.objs.size) { s with heap := h', toks := tk }) :
    wpAny (model prog w) A (call (.builtin "sorted") [x]) Q E s := by
  refine Calls.call_function_entry PyProof.Rows.kind_sorted PyProof.Rows.plain_sorted PyProof.Rows.entry_sorted (PyProof.Rows.args_sorted1 _) ?_
  unfold Builtin.«sorted»
  refine wpAny_bind (m := checkCount "sorted" 1 1 _) (wpAny_pure ?_)
  refine wpAny_bind (hcol _ _ fun h1 tk hk1 => ?_)
  have hlen : vs.length ≤ sizeLine := by rw [e.length]; exact hL
  refine wpAny_bind (wpAny_newList ?_ hlen)
  have ho : (h1.push (PyProof.Rows.seqObj "list" vs.toArray 0)).get? h1.objs.size = some (PyProof.Rows.seqObj "list" vs.toArray 0) := Heap.get?_push_size _ rfl
  show wpAny _ _ _ _ _ { s with heap := h1.push (PyProof.Rows.seqObj "list" vs.toArray 0), toks := tk }
  have keep1 : ∀ b o, s.heap.get? b = some o → (h1.push (PyProof.Rows.seqObj "list" vs.toArray 0)).get? b = some o := fun b o q => Heap.get?_push_of_some _ (hk1 b o q)
  have keepS : ∀ b o, s.heap.get? b = some o → (sortingHeap (h1.push (PyProof.Rows.seqObj "list" vs.toArray 0)) h1.objs.size vs).get? b = some o := fun b o q => PySem.W.sortingHeap_old (Nat.ne_of_lt (Heap.lt_size (hk1 b o q))) (keep1 b o q)
  have er' : EachIs (fun v b => ∃ as, Reads (sortingHeap (h1.push (PyProof.Rows.seqObj "list" vs.toArray 0)) h1.objs.size vs) v (enc b) as) vs bs := er.mono fun _ _ ⟨as, r⟩ => ⟨as, PyProof.Rows.Reads.keeps keepS r⟩
  have S := sortsAt_empty (prog := prog) (w := w) (A := A.in1.in1) (s := { s with heap := sortingHeap (h1.push (PyProof.Rows.seqObj "list" vs.toArray 0)) h1.objs.size vs, toks := tk }) (vs := vs) (ds := bs.map enc)
    (PySem.W.each_map (R := fun v d => ∃ as, Reads (sortingHeap (h1.push (PyProof.Rows.seqObj "list" vs.toArray 0)) h1.objs.size vs) v d as) enc er') hal ht h0 (PySem.W.bound_map (A := A.in1.in1) fun b hb => by have := hu b hb; show A.units + 1 + 1 + _ < _; omega)
  refine wpAny_bind (wpAny_holding (wpAny_call_entry PyProof.Rows.slot_list_sort ⟨_, ho, rfl⟩ PyProof.Rows.entry_list_sort
    (PySem.W.list_sort_vals (s := { s with heap := h1.push (PyProof.Rows.seqObj "list" vs.toArray 0), toks := tk }) ho S hlen ⟨.none, rfl, ?_⟩) (PyProof.Rows.args_list_sort _)))
  obtain ⟨ep, hat⟩ := PyProof.Rows.sortedHeap_at (vs := vs) (out := (sortVals (dataKind (sortingHeap (h1.push (PyProof.Rows.seqObj "list" vs.toArray 0)) h1.objs.size vs) (bs.map enc)) false vs vs).toArray) ho
  refine wpAny_pure ⟨_, rfl, h h1 _ tk _ ep hk1 (fun b o q => ?_) hat (PySem.W.sortVals_data false e er' hal)⟩
  have hb := Heap.lt_size q
  rw [PyProof.Rows.sortedHeap_old (Nat.ne_of_lt hb) (by rw [PyProof.Rows.size_push']; exact Nat.lt_succ_of_lt hb)]
  exact Heap.get?_push_of_some _ q
end
def isTupE : PyData → Bool
  | .tuple _ => true
  | _ => false
def headE : List PyData → Bool
  | .tuple [] :: _ => true
  | _ => false
def sortOkE (h : MH) (xs : List D) : Bool := xs.all (fun d => (toPy h d).isSome) && alikeB (xs.map (encD h)) && ((xs.map (encD h)).all isTupE && headE (xs.map (encD h))) && decide (xs.length ≤ lim) && (xs.all fun d => decide ((encD h d).depth ≤ 8))
/-- sorted of a list of tuples, the first of them empty -/
def sortedEF (b : Bool) : Fn := fun ds h => match ds with
  | [d] => match isTupB d, itemsOf h d with
    | false, some it => if sortOkE h it.xs = true then mkL b (sortD h it.xs) h else .bad
    | _, _ => .bad
  | _ => .bad
theorem sortedE_noexc {b : Bool} : NoExc (sortedEF b) := fun ds h x h' e => by
  unfold sortedEF at e
  repeat' split at e
  all_goals first
    | cases e
    | exact mkL_noexc e
section
variable {n : Nm} {X : Cx}
theorem sortedE_ok (hu : X.A.units + 64 < cLine) (b : Bool) : CallR X (.builtin "sorted") (rF (tb X n) (sortedEF b)) := by
  rintro pins s σ H vs us Q I r ⟨pr, F, ρ, h, ds, S, rs, p⟩
  unfold sortedEF at p
  split at p
  · rename_i d
    split at p
    · rename_i it hb hi
      split at p
      · rename_i hs
        cases rs with
        | cons r1 r2 =>
          cases r2
          obtain ⟨u, rfl, ru⟩ := vals1 r
          obtain ⟨l, rfl, ⟨ws, lt, rws⟩, _⟩ := isTupB_of S r1 hi
          rw [hb] at lt
          obtain rfl : u = .ref l := ru
          obtain ⟨its, rv, pl, hz⟩ := I.list lt
          obtain ⟨o, g1, g2, m, g3⟩ := pl.isList
          unfold sortOkE at hs
          simp only [Bool.and_eq_true, decide_eq_true_eq] at hs
          obtain ⟨⟨⟨⟨q1, q2⟩, q3, q6⟩, q4⟩, q5⟩ := hs
          obtain ⟨as, ra⟩ := Dp.readsAll I (it.xs.map (encD h)) ws its (dpAll_of S rws q1) rv
          refine sorted_anyE (bs := it.xs) (enc := encD h) (R := Stands X.K F ρ) (fun R' E' k => wpAny_collect_seq l (.inl rfl) g1 g2 g3 (fun h' hk => by simpa using k h' s.toks hk) (by have := rv.length; simp; omega)) (stands_of rws rv) (PySem.W.readsAll_each (encD h) ra) (alikeB_ok q2) (fun d hd => ?_) ?_ (lim_ok q4) (fun d hd => ?_) fun h1 h' tk out c hk1 hk2 hat he => ?_
          · have := List.all_eq_true.mp q3 d hd
            unfold isTupE at this
            split at this
            · exact ⟨_, rfl⟩
            · cases this
          · unfold headE at q6
            split at q6
            · rename_i e; rw [e]; rfl
            · cases q6
          · have := of_decide_eq_true (List.all_eq_true.mp q5 d hd)
            omega
          · obtain ⟨ws2, r1', r2'⟩ := of_stands he
            have I1 : Inv X pins σ H { s with heap := h1, toks := tk } := I.kept hk1
            have ll : ws2.length ≤ sizeLine := by
              rw [← r1'.length, List.length_mergeSort]; exact lim_ok q4
            exact ⟨.ref h1.objs.size, _, I1.laid (s := { s with heap := h1, toks := tk }) (o := .lst ws2) hk2 (Nat.le_refl _) (show ObjOk X.prog X.w _ h' _ (.lst ws2) from ⟨ll, out, c, r2', hat⟩), rfl, mkL_new p S r1' (I1.hok.fresh (Nat.le_refl _))⟩
      · exact p.elim
    · exact p.elim
  · exact p.elim
end
end MI

/-! MI, part ZM: the walk over a dict's keys. -/
namespace MI
open PySem PySem.Spec L2

/-- the keys of the dict at d, in their order -/
def Itn (w : World) (d : Addr) (n : Nat) : It :=
  ⟨fun i H => (∃ xs, H d = some (DictO w d xs) ∧ xs.length = n) ∧ i < n, fun i H x H' => H' = H ∧ ∀ xs, H d = some (DictO w d xs) → xs.length = n → ∃ k u, xs[i]? = some (k, x, u), fun i H => (∃ xs, H d = some (DictO w d xs) ∧ xs.length = n) ∧ n ≤ i⟩
theorem dictO_get {X : Cx} {pins : List (Addr × Obj)} {σ : L2.St} {H : Hp} {s : Shared} (I : Inv X pins σ H s) {a : Addr} {xs : List (NestedKey × V × V)} (e : H a = some (DictO X.w a xs)) :
    ∃ o es, s.heap.get? a = some o ∧ o.ExactDict ∧ o.data = .dict es xs.length ∧ es.size = xs.length ∧ Paired (fun (x : NestedKey × V × V) (e : DictEntry) => e.hash = x.1.hash X.w ∧ RelV x.2.1 e.key ∧ RelV x.2.2 e.val) xs es.toList := by
  obtain ⟨⟨o, es, ep, g1, g2, g3, gz, g4⟩, _⟩ := (show ObjOk X.prog X.w H s.heap a (DictO X.w a xs) from I.hok a _ e)
  subst gz
  exact ⟨o, es, g1, g2, g3, by rw [← Array.length_toList, ← Paired.length g4], g4⟩
section
variable {P : Program} {w : World} {K : PySem.W.Frag} {tg : Expr} {d : Addr} {n : Nat}
theorem turn_n (it : Addr) : Turn P w K tg (Itn w d n) [it] it (fun i h => h.IsKeyIter it d i n n) where
  mem := by simp
  obj := fun i h st b hb => by
    have e : b = it := by simpa using hb
    subst e
    obtain ⟨oi, e, c, dd⟩ := st
    exact ⟨oi, e, fun v z => by rw [dd] at z; cases z⟩
  keep := fun i h h' st k => st.at fun oi e => k it (by simp) oi e
  item := by
    intro X hP hw hK hc i pins s σ H E I hf st hg
    subst hP hw hK
    obtain ⟨⟨xs, hx, hl⟩, hi⟩ := hg
    obtain ⟨f0, f1, f2, f3, f4, f5⟩ := hf it (by simp)
    obtain ⟨o, es, ho, hex, hdt, hsz, hp⟩ := dictO_get I hx
    obtain ⟨x, hxi⟩ : ∃ x, xs[i]? = some x := ⟨xs[i], List.getElem?_eq_getElem (by omega)⟩
    obtain ⟨en, hen, q1, q2, q3⟩ := paired_get hp hxi
    rw [Array.getElem?_toList] at hen
    rw [hl] at hdt hsz
    refine next_key_item st ho hdt hsz hen fun h' st' sb => ?_
    have I1 : Inv X pins σ H { s with heap := h' } := I.turned (t' := s.toks) (fun b ob hb e => (sb.2 b hb).trans e) f0 f1 f3 f4 f5
    obtain ⟨oi, e, c, dd⟩ := id st'
    refine ⟨en.key, rfl, go_of (s := { s with heap := h' }) e c dd (by decide) ⟨x.2.1, H, I1, q2, ⟨rfl, fun xs' hx' hl' => ?_⟩, st', fun b hb => (hf b hb).1⟩⟩
    obtain ⟨o', es', ho', hex', hdt', hsz', hp'⟩ := dictO_get I hx'
    rw [ho] at ho'; cases ho'
    rw [hdt] at hdt'; cases hdt'
    obtain ⟨x', hxi'⟩ : ∃ x, xs'[i]? = some x := ⟨xs'[i], List.getElem?_eq_getElem (by omega)⟩
    obtain ⟨en', hen', p1, p2, p3⟩ := paired_get hp' hxi'
    rw [Array.getElem?_toList, hen] at hen'
    cases hen'
    obtain ⟨k', v', u'⟩ := x'
    have := RelV.inj q2 p2
    exact ⟨k', u', by rw [hxi', this]⟩
  done := by
    intro X hP hw hK hc i pins s σ H E I hf st hg
    subst hP hw hK
    obtain ⟨⟨xs, hx, hl⟩, hi⟩ := hg
    obtain ⟨f0, f1, f2, f3, f4, f5⟩ := hf it (by simp)
    obtain ⟨o, es, ho, hex, hdt, hsz, hp⟩ := dictO_get I hx
    rw [hl] at hdt hsz
    exact next_key_end (I.ok.hd hc) st ho hdt hsz hi fun h' eb => ⟨rfl, I.turned (t' := s.toks) (fun b ob hb e => eb b ob hb e) f0 f1 f3 f4 f5⟩
  self := fun A i s Q E st h => wpAny_pyIter_keyiter st h
end
/-! ### its reading -/
def keyChk (m : Nat) (ks : List D) : MH → Bool := fun h => decide ((boxD h m).map (·.map (·.1)) = some ks)
def keysOf (h : MH) : D → Option ItD
  | .ref m => match boxD h m with
    | some kvs => some ⟨kvs.map (·.1), keyChk m (kvs.map (·.1))⟩
    | none => none
  | _ => none
def iKeysM (f : Ev) : EvI := fun σ h => (f σ h).bind fun d h1 => okI h1 (keysOf h1 d)
theorem DRel.key_at {K : PySem.W.Frag} {F : Hp} {ρ : List Addr} : ∀ {kvs : DK} {xs : List (NestedKey × V × V)} {i : Nat} {d : D}, DRel K F ρ kvs xs → (kvs.map (·.1))[i]? = some d → ∃ k v u, xs[i]? = some (k, v, u) ∧ Rep K F ρ d v
  | _, _, i, d, .nil, e => by simp at e
  | _, _, 0, d, .cons a b c e f, q => by simp at q; subst q; exact ⟨_, _, _, rfl, c⟩
  | _, _, i + 1, d, .cons a b c e f, q => by
    obtain ⟨k, v, u, h1, h2⟩ := DRel.key_at (i := i) f (by simpa using q)
    exact ⟨k, v, u, by simpa using h1, h2⟩
theorem jok_keys {T : Tb} {F : Hp} {ρ : List Addr} {m : Nat} {a : Addr} {ks : List D} (e0 : ρ[m]? = some a) : JOk T F ρ ⟨ks, keyChk m ks⟩ (Itn T.w a ks.length) := by
  intro i pr F' ρ' H' h' x s hc
  have hc := of_decide_eq_true hc
  cases e1 : boxD h' m with
  | none => rw [e1] at hc; cases hc
  | some kvs =>
    rw [e1] at hc
    have hk : kvs.map (·.1) = ks := by simpa using hc
    obtain ⟨a', e2, _, xs, e3, _, e5, _, _⟩ := s.at (boxD_at e1)
    rw [pre_get x.pre e0] at e2; cases e2
    have hl : xs.length = ks.length := by rw [← DRel.length e5, ← hk, List.length_map]
    refine ⟨fun d hd => ?_, fun hl' => ⟨⟨xs, e3, hl⟩, hl'⟩⟩
    obtain ⟨k, v, u, q1, q2⟩ := DRel.key_at e5 (by rw [hk]; exact hd)
    refine ⟨⟨⟨xs, e3, hl⟩, (List.getElem?_eq_some_iff.mp hd).1⟩, fun y H'' ⟨e, q⟩ => ⟨F', ρ', Ext.refl _ _, by rw [e]; exact s, ?_⟩⟩
    obtain ⟨k', u', q3⟩ := q xs e3 hl
    rw [q1] at q3; cases q3
    exact q2
section
variable {L : Md → Prop} {n : Nm} {k : Nat} {W : WX} {ow : Str → Bool} {N : List Str} {sc : Scope} {X : Cx} {pos : Pos} {tg : Expr}
theorem si_keys {e : Expr} {f : Ev} (he : SE X n W e f) : SI X n W tg e (iKeysM f) := by
  refine ⟨fun pins s τ H R I q => ?_⟩
  obtain ⟨pr, F, ρ, h, σ, sr, l, p⟩ := q
  refine thn (he.run pins s τ H (fun v H1 => ∃ a m, v = .ref a ∧ (a == sysModules) = false ∧ (∃ xs, H1 a = some (DictO X.w a xs) ∧ xs.length = m) ∧ R (Itn X.w a m) H1) I (it_bind sr l p fun F1 ρ1 H1 d h1 v x1 s1 l1 r1 p1 => ?_)) fun v s1 h1 => ?_
  · obtain ⟨it, e1, k1⟩ := okI_post p1
    unfold keysOf at e1
    split at e1
    · rename_i m
      split at e1
      · rename_i kvs hb
        cases e1
        cases r1 with
        | @ref _ a e0 =>
          obtain ⟨a', e2, _, xs, e3, e4, e5, _, _⟩ := s1.at (boxD_at hb)
          rw [e0] at e2; cases e2
          have hl : xs.length = (kvs.map (·.1)).length := by rw [← DRel.length e5, List.length_map]
          exact ⟨a, (kvs.map (·.1)).length, rfl, e4, ⟨xs, e3, hl⟩, k1 F1 ρ1 H1 (Ext.refl _ _) s1 _ (jok_keys (T := (tb X n).at pr) e0)⟩
      · cases e1
    · cases e1
  · obtain ⟨x, H1, I1, r1, a, m, e2, hs, ⟨xs, hx, hl⟩, q⟩ := h1
    subst e2
    cases r1
    obtain ⟨o, es, ho, hex, hdt, hsz, hp⟩ := dictO_get I1 hx
    refine iter_keys hs ho hex hdt (pi_one (tk := s1.toks) I1 _ (turn_n _) ⟨_, Heap.get?_push_size _ rfl, rfl, ?_⟩ q)
    rw [hsz, hl] <;> rfl
end
end MI

/-! MI, part S: plain facts about what is read: data without boxes, comparisons, comprehensions, loops. -/
namespace MI
open PySem PySem.Spec L2

/-! ### data without boxes -/
mutual
def pyD : D → PyData
  | .non => .none
  | .bl b => .bool b
  | .int i => .int i
  | .str x => .str x
  | .tup xs => .tuple (pyDs xs)
  | .lst xs => .list (pyDs xs)
  | .ref _ => .none
  | .scr _ => .none
def pyDs : List D → List PyData
  | [] => []
  | d :: ds => pyD d :: pyDs ds
end
/-- texts that are told in few signs -/
def strFine (m : Nat) (x : Str) : Bool := PyData.strOk x && (PyData.strOk (reprText x) && decide ((reprText x).length ≤ m + 2))
/-- whole numbers below m, such texts, lists and tuples of at most L, k deep -/
def fz (m : Nat) (L : Nat) : Nat → D → Bool
  | _, .non => true
  | _, .bl _ => true
  | _, .int i => decide (i.natAbs < 10 ^ m)
  | _, .str x => strFine m x
  | 0, _ => false
  | k + 1, .tup xs => decide (xs.length ≤ L) && xs.all (fz m L k)
  | k + 1, .lst xs => decide (xs.length ≤ L) && xs.all (fz m L k)
  | _, _ => false
theorem fz_tup {m L k : Nat} {xs : List D} : fz m L (k + 1) (.tup xs) = (decide (xs.length ≤ L) && xs.all (fz m L k)) := by rw [fz]
theorem fz_lst {m L k : Nat} {xs : List D} : fz m L (k + 1) (.lst xs) = (decide (xs.length ≤ L) && xs.all (fz m L k)) := by rw [fz]
theorem fz_int {m L k : Nat} {i : Int} : fz m L k (.int i) = decide (i.natAbs < 10 ^ m) := by cases k <;> rw [fz]
theorem fz_bl {m L k : Nat} {b : Bool} : fz m L k (.bl b) = true := by cases k <;> rw [fz]
theorem fz_non {m L k : Nat} : fz m L k .non = true := by cases k <;> rw [fz]
theorem fz_str {m L k : Nat} {x : Str} : fz m L k (.str x) = strFine m x := by cases k <;> rw [fz]
theorem fz_ref {m L k n : Nat} : fz m L k (.ref n) = false := by cases k <;> rw [fz] <;> simp
theorem fz_scr {m L k : Nat} {ns : List Int} : fz m L k (.scr ns) = false := by cases k <;> rw [fz] <;> simp
theorem fz_tup0 {m L : Nat} {xs : List D} : fz m L 0 (.tup xs) = false := by rw [fz] <;> simp
theorem fz_lst0 {m L : Nat} {xs : List D} : fz m L 0 (.lst xs) = false := by rw [fz] <;> simp
theorem fz_up {m L : Nat} : ∀ {k : Nat} {d : D}, fz m L k d = true → ∀ {m' L' k' : Nat}, m ≤ m' → L ≤ L' → k ≤ k' → fz m' L' k' d = true
  | k, .non, _, m', L', k', _, _, _ => fz_non
  | k, .bl _, _, m', L', k', _, _, _ => fz_bl
  | k, .int i, h, m', L', k', hm, _, _ => by
    rw [fz_int, decide_eq_true_eq] at h ⊢
    exact Nat.lt_of_lt_of_le h (Nat.pow_le_pow_right (by decide) hm)
  | k, .str x, h, m', L', k', hm, _, _ => by
    rw [fz_str] at h ⊢
    unfold strFine at h ⊢
    rw [Bool.and_eq_true, Bool.and_eq_true, decide_eq_true_eq] at h ⊢
    exact ⟨h.1, h.2.1, by omega⟩
  | 0, .tup xs, h, _, _, _, _, _, _ => by rw [fz_tup0] at h; cases h
  | 0, .lst xs, h, _, _, _, _, _, _ => by rw [fz_lst0] at h; cases h
  | k + 1, .tup xs, h, m', L', k' + 1, hm, hL, hk => by
    rw [fz_tup, Bool.and_eq_true, decide_eq_true_eq, List.all_eq_true] at h ⊢
    exact ⟨Nat.le_trans h.1 hL, fun x hx => fz_up (h.2 x hx) hm hL (by omega)⟩
  | k + 1, .lst xs, h, m', L', k' + 1, hm, hL, hk => by
    rw [fz_lst, Bool.and_eq_true, decide_eq_true_eq, List.all_eq_true] at h ⊢
    exact ⟨Nat.le_trans h.1 hL, fun x hx => fz_up (h.2 x hx) hm hL (by omega)⟩
  | k + 1, .tup xs, h, m', L', 0, hm, hL, hk => absurd hk (by omega)
  | k + 1, .lst xs, h, m', L', 0, hm, hL, hk => absurd hk (by omega)
  | k, .ref n, h, _, _, _, _, _, _ => by rw [fz_ref] at h; cases h
  | k, .scr n, h, _, _, _, _, _, _ => by rw [fz_scr] at h; cases h
theorem pyDs_map : ∀ xs : List D, pyDs xs = xs.map pyD
  | [] => by rw [pyDs]; rfl
  | d :: ds => by rw [pyDs, pyDs_map ds]; rfl
theorem pys_of {r : Nat → Option PyData} : ∀ {xs : List D}, (∀ x ∈ xs, D.py r x = some (pyD x)) → D.pys r xs = some (xs.map pyD)
  | [], _ => by rw [D.pys]; rfl
  | d :: ds, h => by
    rw [D.pys, h d (List.mem_cons_self ..), pys_of fun x hx => h x (List.mem_cons_of_mem _ hx)]
    rfl
theorem canAll {ps : List PyData} (h : ∀ p ∈ ps, p.canLay0 = true) : PyData.canLayAll0 ps = true := by
  induction ps with
  | nil => simp [PyData.canLayAll0]
  | cons p ps ih => simp [PyData.canLayAll0, h p, ih fun q hq => h q (List.mem_cons_of_mem _ hq)]
theorem depAll {k : Nat} {ps : List PyData} (h : ∀ p ∈ ps, p.depth ≤ k) : PyData.depthAll ps ≤ k := by
  induction ps with
  | nil => simp [PyData.depthAll]
  | cons p ps ih =>
    have h1 := h p (List.mem_cons_self ..)
    have h2 := ih fun q hq => h q (List.mem_cons_of_mem _ hq)
    simp only [PyData.depthAll]
    omega
theorem fz_py {m L : Nat} : ∀ {k : Nat} {d : D}, fz m L k d = true → (∀ r, D.py r d = some (pyD d)) ∧ (pyD d).canLay0 = true ∧ (pyD d).depth ≤ k
  | k, .non, _ => ⟨fun r => by rw [D.py, pyD], by rw [pyD]; simp [PyData.canLay0], by rw [pyD]; simp [PyData.depth]⟩
  | k, .bl _, _ => ⟨fun r => by rw [D.py, pyD], by rw [pyD]; simp [PyData.canLay0], by rw [pyD]; simp [PyData.depth]⟩
  | k, .int _, _ => ⟨fun r => by rw [D.py, pyD], by rw [pyD]; simp [PyData.canLay0], by rw [pyD]; simp [PyData.depth]⟩
  | k, .str x, h => by
    rw [fz_str] at h
    unfold strFine at h
    rw [Bool.and_eq_true] at h
    exact ⟨fun r => by rw [D.py, pyD], by rw [pyD]; simp only [PyData.canLay0]; exact h.1, by rw [pyD]; simp [PyData.depth]⟩
  | 0, .tup xs, h => by rw [fz_tup0] at h; cases h
  | 0, .lst xs, h => by rw [fz_lst0] at h; cases h
  | k + 1, .tup xs, h => by
    rw [fz_tup, Bool.and_eq_true, List.all_eq_true] at h
    have ih := fun x hx => fz_py (h.2 x hx)
    refine ⟨fun r => ?_, ?_, ?_⟩
    · rw [D.py, pys_of fun x hx => (ih x hx).1 r, pyD, pyDs_map]; rfl
    · rw [pyD, pyDs_map]
      simp only [PyData.canLay0]
      exact canAll fun p hp => by
        obtain ⟨x, hx, rfl⟩ := List.mem_map.mp hp
        exact (ih x hx).2.1
    · rw [pyD, pyDs_map]
      simp only [PyData.depth]
      exact Nat.succ_le_succ (depAll fun p hp => by
        obtain ⟨x, hx, rfl⟩ := List.mem_map.mp hp
        exact (ih x hx).2.2)
  | k + 1, .lst xs, h => by
    rw [fz_lst, Bool.and_eq_true, List.all_eq_true] at h
    have ih := fun x hx => fz_py (h.2 x hx)
    refine ⟨fun r => ?_, ?_, ?_⟩
    · rw [D.py, pys_of fun x hx => (ih x hx).1 r, pyD, pyDs_map]; rfl
    · rw [pyD, pyDs_map]
      simp only [PyData.canLay0]
      exact canAll fun p hp => by
        obtain ⟨x, hx, rfl⟩ := List.mem_map.mp hp
        exact (ih x hx).2.1
    · rw [pyD, pyDs_map]
      simp only [PyData.depth]
      exact Nat.succ_le_succ (depAll fun p hp => by
        obtain ⟨x, hx, rfl⟩ := List.mem_map.mp hp
        exact (ih x hx).2.2)
  | k, .ref n, h => by rw [fz_ref] at h; cases h
  | k, .scr n, h => by rw [fz_scr] at h; cases h
theorem fz_toPy {m L k : Nat} {d : D} (h : fz m L k d = true) (mh : MH) : toPy mh d = some (pyD d) := (fz_py h).1 _
theorem fz_shaped {m L k : Nat} {d : D} (h : fz m L k d = true) (hk : k ≤ 64) : SeqAt.shaped (pyD d) = true := by
  obtain ⟨_, h1, h2⟩ := fz_py h
  unfold SeqAt.shaped
  rw [h1, decide_eq_true (Nat.le_trans h2 hk)]
  rfl
theorem eqO_fz {m L k : Nat} {d e : D} (h1 : fz m L k d = true) (h2 : fz m L k e = true) (hk : k ≤ 64) (mh : MH) : eqO mh d e = some (.bl (PyData.eqv (pyD d) (pyD e))) := by
  unfold eqO
  rw [fz_toPy h1, fz_toPy h2]
  dsimp only
  rw [fz_shaped h1 hk, fz_shaped h2 hk]
  rfl
theorem neO_fz {m L k : Nat} {d e : D} (h1 : fz m L k d = true) (h2 : fz m L k e = true) (hk : k ≤ 64) (mh : MH) : neO mh d e = some (.bl (!PyData.eqv (pyD d) (pyD e))) := by
  unfold neO
  rw [fz_toPy h1, fz_toPy h2]
  dsimp only
  rw [fz_shaped h1 hk, fz_shaped h2 hk]
  rfl
/-- a list against [] -/
theorem eqv_nil {xs : List PyData} : PyData.eqv (.list xs) (.list []) = xs.isEmpty := by
  cases xs with
  | nil => simp [PyData.eqv, PyData.eqvAll]
  | cons x xs => simp [PyData.eqv, PyData.eqvAll]
theorem list_shaped {m L k : Nat} {xs : List D} (h : ∀ x ∈ xs, fz m L k x = true) (hk : k ≤ 63) : toPy ([] : MH) (.lst xs) = some (.list (xs.map pyD)) ∧ (∀ mh : MH, toPy mh (.lst xs) = some (.list (xs.map pyD))) ∧ SeqAt.shaped (.list (xs.map pyD)) = true := by
  have q : ∀ mh : MH, toPy mh (.lst xs) = some (.list (xs.map pyD)) := fun mh => by
    unfold toPy
    rw [D.py, pys_of fun x hx => (fz_py (h x hx)).1 _]
    rfl
  refine ⟨q _, q, ?_⟩
  unfold SeqAt.shaped
  have a : (PyData.list (xs.map pyD)).canLay0 = true := by
    simp only [PyData.canLay0]
    exact canAll fun p hp => by
      obtain ⟨x, hx, rfl⟩ := List.mem_map.mp hp
      exact (fz_py (h x hx)).2.1
  have b : (PyData.list (xs.map pyD)).depth ≤ 64 := by
    simp only [PyData.depth]
    have := depAll (k := k) (ps := xs.map pyD) fun p hp => by
      obtain ⟨x, hx, rfl⟩ := List.mem_map.mp hp
      exact (fz_py (h x hx)).2.2
    omega
  rw [a, decide_eq_true b]
  rfl
theorem nil_shaped (mh : MH) : toPy mh (.lst []) = some (.list []) ∧ SeqAt.shaped (.list []) = true := ⟨by unfold toPy; rw [D.py, D.pys]; rfl, by decide +kernel⟩
theorem eqO_nil {m L k : Nat} {xs : List D} (h : ∀ x ∈ xs, fz m L k x = true) (hk : k ≤ 63) (mh : MH) : eqO mh (.lst xs) (.lst []) = some (.bl xs.isEmpty) := by
  unfold eqO
  rw [(list_shaped h hk).2.1, (nil_shaped mh).1]
  dsimp only
  rw [(list_shaped h hk).2.2, (nil_shaped mh).2, eqv_nil]
  cases xs <;> rfl
theorem neO_nil {m L k : Nat} {xs : List D} (h : ∀ x ∈ xs, fz m L k x = true) (hk : k ≤ 63) (mh : MH) : neO mh (.lst xs) (.lst []) = some (.bl (!xs.isEmpty)) := by
  unfold neO
  rw [(list_shaped h hk).2.1, (nil_shaped mh).1]
  dsimp only
  rw [(list_shaped h hk).2.2, (nil_shaped mh).2, eqv_nil]
  cases xs <;> rfl
theorem int_shaped (i : Int) : SeqAt.shaped (.int i) = true := by simp [SeqAt.shaped, PyData.canLay0, PyData.depth]
theorem eqO_int (mh : MH) (i j : Int) : eqO mh (.int i) (.int j) = some (.bl (decide (i = j))) := by
  unfold eqO toPy
  rw [D.py, D.py]
  dsimp only
  rw [int_shaped, int_shaped]
  simp [PyData.eqv]
  by_cases h : i = j <;> simp [h]
theorem neO_int (mh : MH) (i j : Int) : neO mh (.int i) (.int j) = some (.bl (!decide (i = j))) := by
  unfold neO toPy
  rw [D.py, D.py]
  dsimp only
  rw [int_shaped, int_shaped]
  simp [PyData.eqv]
  by_cases h : i = j <;> simp [h]

/-! ### comprehensions and loops -/
theorem compM_pure {g : EvG} {t : EvB} {e : Ev} {chk : MH → Bool} {σ0 : Sl} {h : MH} (tb : D → Bool) (ev : D → D) (hc : chk h = true) : ∀ (ds : List D) (acc : List D),
    (∀ d ∈ ds, ∃ σ1, g d σ0 h = some (σ1, h) ∧ t σ1 h = .ok (tb d) h ∧ (tb d = true → e σ1 h = .ok (ev d) h)) → acc.length + ds.length ≤ lim →
    compM g t e chk σ0 ds h acc = .ok (acc ++ (ds.filter tb).map ev) h
  | [], acc, _, _ => by unfold compM; rw [if_pos hc]; simp
  | d :: ds, acc, hd, hl => by
    obtain ⟨σ1, h1, h2, h3⟩ := hd d (List.mem_cons_self ..)
    unfold compM
    rw [if_pos hc, h1]
    dsimp only
    rw [h2]
    simp only [List.length_cons] at hl
    cases e1 : tb d with
    | false =>
      dsimp only
      rw [compM_pure tb ev hc ds acc (fun x hx => hd x (List.mem_cons_of_mem _ hx)) (by omega)]
      simp [e1]
    | true =>
      dsimp only
      rw [h3 e1]
      dsimp only
      rw [if_pos (by omega), compM_pure tb ev hc ds (acc ++ [ev d]) (fun x hx => hd x (List.mem_cons_of_mem _ hx)) (by simp; omega)]
      simp [e1]
theorem comp_pure {b : Bool} {fi : EvI} {g : EvG} {t : EvB} {e : Ev} {vs : List Nat} {σ : Sl} {h : MH} {it : ItD} (tb : D → Bool) (ev : D → D) (hi : fi σ h = .ok it h) (hc : it.chk h = true)
    (hd : ∀ d ∈ it.xs, ∃ σ1, g d (wipeM σ vs) h = some (σ1, h) ∧ t σ1 h = .ok (tb d) h ∧ (tb d = true → e σ1 h = .ok (ev d) h)) (hl : it.xs.length ≤ lim) :
    eComp b fi g t e vs σ h = mkL b ((it.xs.filter tb).map ev) h := by
  unfold eComp
  rw [hi]
  show (compM g t e it.chk (wipeM σ vs) it.xs h []).bind _ = _
  rw [compM_pure tb ev hc it.xs [] hd (by simpa using hl)]
  simp [Res.bind]
/-- with a change of the heap -/
theorem compM_inv {g : EvG} {t : EvB} {e : Ev} {chk : MH → Bool} {σ0 : Sl} (I : MH → Prop) (P : D → Prop) : ∀ (ds : List D) (h : MH) (acc : List D),
    (∀ h, I h → chk h = true) → (∀ d ∈ ds, ∀ h, I h → ∃ σ1, g d σ0 h = some (σ1, h) ∧ t σ1 h = .ok true h ∧ ∃ v h', e σ1 h = .ok v h' ∧ I h' ∧ P v) → I h → (∀ v ∈ acc, P v) → acc.length + ds.length ≤ lim →
    ∃ acc' h', compM g t e chk σ0 ds h acc = .ok acc' h' ∧ I h' ∧ (∀ v ∈ acc', P v) ∧ acc'.length = acc.length + ds.length
  | [], h, acc, hc, _, hI, hP, _ => ⟨acc, h, by unfold compM; rw [if_pos (hc h hI)], hI, hP, by simp⟩
  | d :: ds, h, acc, hc, hd, hI, hP, hl => by
    obtain ⟨σ1, h1, h2, v, h', h3, hI', hv⟩ := hd d (List.mem_cons_self ..) h hI
    simp only [List.length_cons] at hl
    obtain ⟨acc', h2', e1, e2, e3, e4⟩ := compM_inv I P ds h' (acc ++ [v]) hc (fun x hx => hd x (List.mem_cons_of_mem _ hx)) hI' (fun x hx => by
      rcases List.mem_append.mp hx with z | z
      · exact hP x z
      · cases List.mem_singleton.mp z; exact hv) (by simp; omega)
    refine ⟨acc', h2', ?_, e2, e3, by rw [e4]; simp; omega⟩
    unfold compM
    rw [if_pos (hc h hI), h1]
    dsimp only
    rw [h2]
    dsimp only
    rw [h3]
    dsimp only
    rw [if_pos (by omega), e1]
theorem comp_inv {b : Bool} {fi : EvI} {g : EvG} {t : EvB} {e : Ev} {vs : List Nat} {σ : Sl} {h h1 : MH} {it : ItD} (I : MH → Prop) (P : D → Prop) (hi : fi σ h = .ok it h1) (hc : ∀ h, I h → it.chk h = true)
    (hd : ∀ d ∈ it.xs, ∀ h, I h → ∃ σ1, g d (wipeM σ vs) h = some (σ1, h) ∧ t σ1 h = .ok true h ∧ ∃ v h', e σ1 h = .ok v h' ∧ I h' ∧ P v) (hI : I h1) (hl : it.xs.length ≤ lim) :
    ∃ xs h', eComp b fi g t e vs σ h = mkL b xs h' ∧ I h' ∧ (∀ v ∈ xs, P v) ∧ xs.length = it.xs.length := by
  obtain ⟨acc, h', e1, e2, e3, e4⟩ := compM_inv (g := g) (t := t) (e := e) (chk := it.chk) (σ0 := wipeM σ vs) I P it.xs h1 [] hc hd hI (fun _ z => nomatch z) (by simpa using hl)
  refine ⟨acc, h', ?_, e2, e3, by simpa using e4⟩
  unfold eComp
  rw [hi]
  show (compM g t e it.chk (wipeM σ vs) it.xs h1 []).bind _ = _
  rw [e1]
  rfl
/-- a loop that goes on to its end -/
theorem loop_inv {g : EvG} {b : EvS} {chk : MH → Bool} (I : Sl → MH → Prop) (hc : ∀ σ h, I σ h → chk h = true) : ∀ (ds : List D) (σ : Sl) (h : MH),
    (∀ d ∈ ds, ∀ σ h, I σ h → ∃ σ1 h1, g d σ h = some (σ1, h1) ∧ ∃ σ2 h2, (b σ1 h1 = .nx σ2 h2 ∨ b σ1 h1 = .ct σ2 h2) ∧ I σ2 h2) → I σ h → ∃ σ' h', loopM g b chk ds σ h = .nx σ' h' ∧ I σ' h'
  | [], σ, h, _, hI => ⟨σ, h, by unfold loopM; rw [if_pos (hc σ h hI)], hI⟩
  | d :: ds, σ, h, hd, hI => by
    obtain ⟨σ1, h1, e1, σ2, h2, e2, hI2⟩ := hd d (List.mem_cons_self ..) σ h hI
    obtain ⟨σ', h', e3, hI'⟩ := loop_inv (g := g) (b := b) (chk := chk) I hc ds σ2 h2 (fun x hx => hd x (List.mem_cons_of_mem _ hx)) hI2
    refine ⟨σ', h', ?_, hI'⟩
    unfold loopM
    rw [if_pos (hc σ h hI), e1]
    dsimp only
    rcases e2 with e2 | e2 <;> rw [e2] <;> exact e3
theorem asBls_map {α : Type} (f : α → Bool) : ∀ xs : List α, asBls (xs.map fun x => D.bl (f x)) = some (xs.map f)
  | [] => rfl
  | x :: xs => by
    show (asBls (xs.map fun x => D.bl (f x))).map (f x :: ·) = _
    rw [asBls_map f xs]; rfl
theorem asInts_map : ∀ ns : List Int, asInts (ns.map D.int) = some ns
  | [] => rfl
  | n :: ns => by
    show (asInts (ns.map D.int)).map (n :: ·) = _
    rw [asInts_map ns]; rfl
/-- all([...]) and any([...]) -/
theorem all_of {f : Ev} {σ : Sl} {h h1 : MH} {α : Type} {xs : List α} {p : α → Bool} (e : f σ h = .ok (.lst (xs.map fun x => D.bl (p x))) h1) : eCall (seqF allG) (aCons f aNil) σ h = .ok (.bl (xs.all p)) h1 := by
  unfold eCall aCons aNil
  rw [e]
  simp only [Res.bind, seqF, itemsOf, isTupB, allG, asBls_map]
  simp [List.all_map]
theorem any_of {f : Ev} {σ : Sl} {h h1 : MH} {α : Type} {xs : List α} {p : α → Bool} (e : f σ h = .ok (.lst (xs.map fun x => D.bl (p x))) h1) : eCall (seqF anyG) (aCons f aNil) σ h = .ok (.bl (xs.any p)) h1 := by
  unfold eCall aCons aNil
  rw [e]
  simp only [Res.bind, seqF, itemsOf, isTupB, anyG, asBls_map]
  simp [List.any_map]
end MI

/-! MI, part T: how what is read is reckoned, step by step. -/
namespace MI
open PySem PySem.Spec L2
theorem all_p {f : Ev} {σ : Sl} {h : MH} {α : Type} {xs : List α} {p : α → Bool} (e : f σ h = .ok (.lst (xs.map fun x => D.bl (p x))) h) : eCall (seqF allG) (aCons f aNil) σ h = .ok (.bl (xs.all p)) h := all_of e
theorem any_p {f : Ev} {σ : Sl} {h : MH} {α : Type} {xs : List α} {p : α → Bool} (e : f σ h = .ok (.lst (xs.map fun x => D.bl (p x))) h) : eCall (seqF anyG) (aCons f aNil) σ h = .ok (.bl (xs.any p)) h := any_of e
theorem fta {α : Type} (xs : List α) : xs.filter (fun _ => true) = xs := List.filter_eq_self.mpr fun _ _ => rfl
section
variable {σ σ' : Sl} {h h' h1 h2 : MH} {a b : EvS} {t u : EvB} {f g k : Ev} {x y d : D} {p q : Bool} {o o' : Op2}
theorem seq_nx {r : Fl} (e : a σ h = .nx σ' h') (e2 : b σ' h' = r) : sSeq a b σ h = r := by unfold sSeq; rw [e]; exact e2
theorem seq_rt (e : a σ h = .rt d h') : sSeq a b σ h = .rt d h' := by unfold sSeq; rw [e]; rfl
theorem if_t {r : Fl} (e : t σ h = .ok true h') (e2 : a σ h' = r) : sIf t a b σ h = r := by unfold sIf; rw [e]; exact e2
theorem if_f {r : Fl} (e : t σ h = .ok false h') (e2 : b σ h' = r) : sIf t a b σ h = r := by unfold sIf; rw [e]; exact e2
/-- if t: return f -/
theorem ifret {r : Fl} (e : t σ h = .ok p h') (e1 : p = true → sSeq (a) b σ h' = r) (e2 : p = false → b σ h' = r) : sSeq (sIf t a sSkip) b σ h = r := by
  unfold sSeq sIf
  rw [e]
  cases p with
  | true => exact e1 rfl
  | false => exact e2 rfl
theorem ifp {r : Fl} (p : Bool) (e : t σ h = .ok p h) (e1 : p = true → sSeq (a) b σ h = r) (e2 : p = false → b σ h = r) : sSeq (sIf t a sSkip) b σ h = r := ifret e e1 e2
theorem ret_of (e : f σ h = .ok d h') : sRet f σ h = .rt d h' := by unfold sRet; rw [e]; rfl
theorem asg_of (e : f σ h = .ok d h') {g : EvG} (e2 : g d σ h' = some (σ', h1)) : sAsg f g σ h = .nx σ' h1 := by unfold sAsg; rw [e]; show (match g d σ h' with | some (σ', h') => Fl.nx σ' h' | none => .bad) = _; rw [e2]
theorem drop_of (e : f σ h = .ok d h') : sDrop f σ h = .nx σ h' := by unfold sDrop; rw [e]; rfl
theorem eT_of (e : f σ h = .ok (.bl p) h') : eT f σ h = .ok p h' := by unfold eT; rw [e]; rfl
theorem not_of (e : t σ h = .ok p h') : bNot t σ h = .ok (!p) h' := by unfold bNot; rw [e]; rfl
theorem or_of (e : t σ h = .ok p h) (e2 : p = false → u σ h = .ok q h) : bOr t u σ h = .ok (p || q) h := by
  unfold bOr
  rw [e]
  cases p with
  | true => rfl
  | false => exact (e2 rfl).trans (by simp)
theorem and_of (e : t σ h = .ok p h) (e2 : p = true → u σ h = .ok q h) : bAnd t u σ h = .ok (p && q) h := by
  unfold bAnd
  rw [e]
  cases p with
  | false => rfl
  | true => exact (e2 rfl).trans (by simp)
theorem eand_of (e : t σ h = .ok p h) (e2 : p = true → f σ h = .ok (.bl q) h) : eAnd t f σ h = .ok (.bl (p && q)) h := by
  unfold eAnd
  rw [e]
  cases p with
  | false => rfl
  | true => exact (e2 rfl).trans (by simp)
theorem eor_of (e : t σ h = .ok p h) (e2 : p = false → f σ h = .ok (.bl q) h) : eOr t f σ h = .ok (.bl (p || q)) h := by
  unfold eOr
  rw [e]
  cases p with
  | true => rfl
  | false => exact (e2 rfl).trans (by simp)
theorem enot_of (e : t σ h = .ok p h') : eNot t σ h = .ok (.bl (!p)) h' := by unfold eNot; rw [e]; rfl
theorem bin_of (e : f σ h = .ok x h1) (e2 : g σ h1 = .ok y h2) (e3 : o h2 x y = some d) : eBin o f g σ h = .ok d h2 := by
  unfold eBin
  rw [e]
  show (g σ h1).bind _ = _
  rw [e2]
  show okE h2 (o h2 x y) = _
  rw [e3]
  rfl
theorem chain_of {z : D} (e : f σ h = .ok x h) (e2 : g σ h = .ok y h) (e3 : o h x y = some (.bl p)) (e4 : p = true → k σ h = .ok z h ∧ o' h y z = some (.bl q)) : eChain o o' f g k σ h = .ok (.bl (p && q)) h := by
  unfold eChain
  rw [e]
  show (g σ h).bind _ = _
  rw [e2]
  show (match o h x y with | some (.bl true) => (k σ h).bind fun z h3 => okE h3 (o' h3 y z) | some (.bl false) => .ok (.bl false) h | _ => .bad) = _
  rw [e3]
  cases p with
  | false => rfl
  | true =>
    obtain ⟨e5, e6⟩ := e4 rfl
    show (k σ h).bind _ = _
    rw [e5]
    show okE h (o' h y z) = _
    rw [e6]
    rfl
theorem call0_of {F : Fn} {r : Res D} (e : F [] h = r) : eCall F (fun _ h => .ok [] h) σ h = r := e
theorem call1_of {F : Fn} {r : Res D} (e : f σ h = .ok x h1) (e2 : F [x] h1 = r) : eCall F (aCons f aNil) σ h = r := by
  unfold eCall aCons
  rw [e]
  exact e2
theorem call2_of {F : Fn} {r : Res D} (e : f σ h = .ok x h1) (e2 : g σ h1 = .ok y h2) (e3 : F [x, y] h2 = r) : eCall F (aCons f (aCons g aNil)) σ h = r := by
  unfold eCall aCons
  rw [e]
  simp only [Res.bind]
  rw [e2]
  exact e3
theorem call3_of {F : Fn} {r : Res D} {z : D} {h3 : MH} (e : f σ h = .ok x h1) (e2 : g σ h1 = .ok y h2) (e3 : k σ h2 = .ok z h3) (e4 : F [x, y, z] h3 = r) : eCall F (aCons f (aCons g (aCons k aNil))) σ h = r := by
  unfold eCall aCons
  rw [e]
  simp only [Res.bind]
  rw [e2]
  dsimp only
  rw [e3]
  exact e4
theorem iseq_of {it : ItD} (e : f σ h = .ok x h1) (e2 : itemsOf h1 x = some it) : iSeq f σ h = .ok it h1 := by
  unfold iSeq
  rw [e]
  show okI h1 (itemsOf h1 x) = _
  rw [e2]
  rfl
theorem tup_of {as : EvL} {ds : List D} (e : as σ h = .ok ds h1) (hl : ds.length ≤ lim) : eTup as σ h = .ok (.tup ds) h1 := by
  unfold eTup
  rw [e]
  exact if_pos hl
theorem lst_of {b : Bool} {as : EvL} {ds : List D} (e : as σ h = .ok ds h1) (hl : ds.length ≤ lim) : eLst b as σ h = mkL b ds h1 := by
  unfold eLst
  rw [e]
  exact if_pos hl
theorem acons_of {r : EvL} {ds : List D} (e : f σ h = .ok x h1) (e2 : r σ h1 = .ok ds h2) : aCons f r σ h = .ok (x :: ds) h2 := by
  unfold aCons
  rw [e]
  show (r σ h1).bind _ = _
  rw [e2]
  rfl
theorem slice_of {b : Bool} {lo hi : EvO} {l u : Option Int} {h3 : MH} {r : Res D} (e : f σ h = .ok x h1) (e2 : lo σ h1 = .ok l h2) (e3 : hi σ h2 = .ok u h3) (e4 : sliceM b x l u h3 = r) : eSlice b f lo hi σ h = r := by
  unfold eSlice
  rw [e]
  simp only [Res.bind]
  rw [e2]
  dsimp only
  rw [e3]
  exact e4
theorem osome_of {i : Int} (e : f σ h = .ok (.int i) h1) : oSome f σ h = .ok (some i) h1 := by unfold oSome; rw [e]; rfl
theorem zip_of {f g : Ev} {xs ys : List D} (e : f σ h = .ok (.tup xs) h1) (e2 : g σ h1 = .ok (.tup ys) h2) : iZipM (aCons f (aCons g aNil)) σ h = .ok ⟨zipD xs ys, fun h => noChk h && noChk h⟩ h2 := by
  unfold iZipM aCons
  rw [e]
  simp only [Res.bind]
  rw [e2]
  rfl
theorem zipL_of {f g : Ev} {xs ys : List D} (e : f σ h = .ok (.lst xs) h1) (e2 : g σ h1 = .ok (.lst ys) h2) : iZipM (aCons f (aCons g aNil)) σ h = .ok ⟨zipD xs ys, fun h => noChk h && noChk h⟩ h2 := by
  unfold iZipM aCons
  rw [e]
  simp only [Res.bind]
  rw [e2]
  rfl
theorem fn_rt {m : Nat} {ds : List D} (e : a (startM m ds) h = .rt d h1) : fnM m a ds h = .ok d h1 := by unfold fnM; rw [e]; rfl
theorem for_of {fi : EvI} {g : EvG} {it : ItD} {r : Fl} (e : fi σ h = .ok it h1) (e2 : loopM g b it.chk it.xs σ h1 = r) : sFor fi g b σ h = r := by
  unfold sFor
  rw [e]
  exact e2
end

theorem compM2_pure {g : EvG} {t : EvB} {f1 : EvI} {g1 : EvG} {t1 : EvB} {e : Ev} {vs1 : List Nat} {chk : MH → Bool} {σ0 : Sl} {h : MH} (ys : D → List D) (ev : D → D → D) (M : Nat) (hc : chk h = true) : ∀ (ds acc : List D),
    (∀ d ∈ ds, (ys d).length ≤ M ∧ ∃ σ1 c1, g d σ0 h = some (σ1, h) ∧ t σ1 h = .ok true h ∧ f1 σ1 h = .ok ⟨ys d, c1⟩ h ∧ c1 h = true ∧ ∀ y ∈ ys d, ∃ σ2, g1 y (wipeM σ1 vs1) h = some (σ2, h) ∧ t1 σ2 h = .ok true h ∧ e σ2 h = .ok (ev d y) h) → acc.length + ds.length * M ≤ lim →
    compM2 g t f1 g1 t1 e vs1 chk σ0 ds h acc = .ok (acc ++ ds.flatMap fun d => (ys d).map (ev d)) h
  | [], acc, _, _ => by unfold compM2; rw [if_pos hc]; simp
  | d :: ds, acc, hd, hl => by
    obtain ⟨hM, σ1, c1, h1, h2, h3, h4, h5⟩ := hd d (List.mem_cons_self ..)
    have hl' : acc.length + (ds.length * M + M) ≤ lim := by
      rw [List.length_cons, Nat.succ_mul] at hl
      exact hl
    unfold compM2
    rw [if_pos hc, h1]
    dsimp only
    rw [h2]
    dsimp only
    rw [h3]
    dsimp only
    rw [compM_pure (fun _ => true) (ev d) h4 (ys d) acc (fun y hy => by
      obtain ⟨σ2, a1, a2, a3⟩ := h5 y hy
      exact ⟨σ2, a1, a2, fun _ => a3⟩) (by omega)]
    show compM2 g t f1 g1 t1 e vs1 chk σ0 ds h _ = _
    rw [compM2_pure ys ev M hc ds _ (fun x hx => hd x (List.mem_cons_of_mem _ hx)) (by rw [List.length_append, List.length_map, fta]; omega), fta]
    simp
theorem comp2_pure {b : Bool} {fi : EvI} {g : EvG} {t : EvB} {f1 : EvI} {g1 : EvG} {t1 : EvB} {e : Ev} {vs vs1 : List Nat} {σ : Sl} {h : MH} {it : ItD} (ys : D → List D) (ev : D → D → D) (M : Nat) (hi : fi σ h = .ok it h) (hc : it.chk h = true)
    (hd : ∀ d ∈ it.xs, (ys d).length ≤ M ∧ ∃ σ1 c1, g d (wipeM σ vs) h = some (σ1, h) ∧ t σ1 h = .ok true h ∧ f1 σ1 h = .ok ⟨ys d, c1⟩ h ∧ c1 h = true ∧ ∀ y ∈ ys d, ∃ σ2, g1 y (wipeM σ1 vs1) h = some (σ2, h) ∧ t1 σ2 h = .ok true h ∧ e σ2 h = .ok (ev d y) h) (hl : it.xs.length * M ≤ lim) :
    eComp2 b fi g t f1 g1 t1 e vs vs1 σ h = mkL b (it.xs.flatMap fun d => (ys d).map (ev d)) h := by
  unfold eComp2
  rw [hi]
  show (compM2 g t f1 g1 t1 e vs1 it.chk (wipeM σ vs) it.xs h []).bind _ = _
  rw [compM2_pure ys ev M hc it.xs [] hd (by simpa using hl)]
  simp [Res.bind]

/-! ### whole numbers among whole numbers -/
theorem ints_py {r : Nat → Option PyData} (ns : List Int) : D.pys r (ns.map D.int) = some (ns.map PyData.int) := by
  induction ns with
  | nil => rw [List.map_nil, D.pys]; rfl
  | cons n ns ih => rw [List.map_cons, D.pys, ih, D.py]; rfl
theorem shaped_of {p : PyData} (a : p.canLay0 = true) (b : p.depth ≤ 64) : SeqAt.shaped p = true := by
  unfold SeqAt.shaped
  rw [a, decide_eq_true b]
  rfl
theorem ints_shaped (ns : List Int) : SeqAt.shaped (.tuple (ns.map PyData.int)) = true ∧ SeqAt.shaped (.list (ns.map PyData.int)) = true := by
  have a : PyData.canLayAll0 (ns.map PyData.int) = true := canAll fun p hp => by
    obtain ⟨x, hx, rfl⟩ := List.mem_map.mp hp
    simp [PyData.canLay0]
  have b : PyData.depthAll (ns.map PyData.int) ≤ 0 := depAll fun p hp => by
    obtain ⟨x, hx, rfl⟩ := List.mem_map.mp hp
    simp [PyData.depth]
  have c : PyData.depthAll (ns.map PyData.int) + 1 ≤ 64 := by omega
  exact ⟨shaped_of (by simp only [PyData.canLay0]; exact a) (by simp only [PyData.depth]; exact c), shaped_of (by simp only [PyData.canLay0]; exact a) (by simp only [PyData.depth]; exact c)⟩
theorem any_ints (i : Int) (ns : List Int) : ((ns.map PyData.int).any fun z => PyData.eqv z (.int i)) = decide (i ∈ ns) := by
  induction ns with
  | nil => rfl
  | cons n ns ih =>
    rw [List.map_cons, List.any_cons, ih]
    simp only [PyData.eqv]
    by_cases h : n = i
    · subst h; simp
    · have h' : ¬ i = n := fun z => h z.symm
      simp [h, h']
theorem in_tup_ints (mh : MH) (i : Int) (ns : List Int) : inA mh (.int i) (.tup (ns.map D.int)) = some (.bl (decide (i ∈ ns))) := by
  show (isIn mh (.int i) (.tup (ns.map D.int))).map D.bl = _
  unfold isIn toPy
  dsimp only
  rw [D.py, D.py, ints_py]
  simp only [Option.map_some]
  rw [int_shaped, (ints_shaped ns).1]
  rw [if_pos (by rfl), any_ints]
  rfl
theorem in_lst_ints (mh : MH) (i : Int) (ns : List Int) : inA mh (.int i) (.lst (ns.map D.int)) = some (.bl (decide (i ∈ ns))) := by
  show (isIn mh (.int i) (.lst (ns.map D.int))).map D.bl = _
  unfold isIn toPy
  dsimp only
  rw [D.py, D.py, ints_py]
  simp only [Option.map_some]
  rw [int_shaped, (ints_shaped ns).2]
  rw [if_pos (by rfl), any_ints]
  rfl
theorem notIn_lst_ints (mh : MH) (i : Int) (ns : List Int) : notInA mh (.int i) (.lst (ns.map D.int)) = some (.bl (!decide (i ∈ ns))) := by
  unfold notInA
  rw [in_lst_ints]
/-- lists of whole numbers: the same or not -/
theorem eqvAll_ints : ∀ a b : List Int, PyData.eqvAll (a.map .int) (b.map .int) = decide (a = b)
  | [], [] => by simp [PyData.eqvAll]
  | [], _ :: _ => by simp [PyData.eqvAll]
  | _ :: _, [] => by simp [PyData.eqvAll]
  | x :: a, y :: b => by
    rw [List.map_cons, List.map_cons, PyData.eqvAll, eqvAll_ints a b]
    simp only [PyData.eqv]
    by_cases h : x = y <;> by_cases h2 : a = b <;> simp [h, h2]
theorem eqO_ints (mh : MH) (a b : List Int) : eqO mh (.lst (a.map D.int)) (.lst (b.map D.int)) = some (.bl (decide (a = b))) := by
  unfold eqO toPy
  rw [D.py, D.py, ints_py, ints_py]
  simp only [Option.map_some]
  rw [(ints_shaped a).2, (ints_shaped b).2]
  simp only [PyData.eqv, eqvAll_ints]
  rfl
/-- lists of tuples of whole numbers -/
def tupI (ns : List Int) : D := .tup (ns.map D.int)
theorem tups_py {r : Nat → Option PyData} (ns : List (List Int)) : D.pys r (ns.map tupI) = some (ns.map fun m => PyData.tuple (m.map .int)) := by
  induction ns with
  | nil => rw [List.map_nil, D.pys]; rfl
  | cons n ns ih => rw [List.map_cons, D.pys, ih, tupI, D.py, ints_py]; rfl
theorem tups_shaped (ns : List (List Int)) : SeqAt.shaped (.list (ns.map fun m => PyData.tuple (m.map .int))) = true := by
  have q := fun m => ints_shaped m
  have a : PyData.canLayAll0 (ns.map fun m => PyData.tuple (m.map .int)) = true := canAll fun p hp => by
    obtain ⟨x, hx, rfl⟩ := List.mem_map.mp hp
    exact SeqAt.canLay_of_shaped (q x).1
  have b : PyData.depthAll (ns.map fun m => PyData.tuple (m.map .int)) ≤ 63 := depAll (k := 63) fun p hp => by
    obtain ⟨x, hx, rfl⟩ := List.mem_map.mp hp
    have : PyData.depthAll (x.map PyData.int) ≤ 0 := depAll fun p hp => by
      obtain ⟨x, hx, rfl⟩ := List.mem_map.mp hp
      simp [PyData.depth]
    simp only [PyData.depth]
    omega
  exact shaped_of (by simp only [PyData.canLay0]; exact a) (by simp only [PyData.depth]; exact Nat.succ_le_succ b)
theorem eqvAll_tups : ∀ a b : List (List Int), PyData.eqvAll (a.map fun m => PyData.tuple (m.map .int)) (b.map fun m => PyData.tuple (m.map .int)) = decide (a = b)
  | [], [] => by simp [PyData.eqvAll]
  | [], _ :: _ => by simp [PyData.eqvAll]
  | _ :: _, [] => by simp [PyData.eqvAll]
  | x :: a, y :: b => by
    rw [List.map_cons, List.map_cons, PyData.eqvAll, eqvAll_tups a b]
    simp only [PyData.eqv, eqvAll_ints]
    by_cases h : x = y <;> by_cases h2 : a = b <;> simp [h, h2]
theorem neO_tups (mh : MH) (a b : List (List Int)) : neO mh (.lst (a.map tupI)) (.lst (b.map tupI)) = some (.bl (!decide (a = b))) := by
  unfold neO toPy
  rw [D.py, D.py, tups_py, tups_py]
  simp only [Option.map_some]
  rw [tups_shaped a, tups_shaped b]
  simp only [PyData.eqv, eqvAll_tups]
  rfl
theorem lt_tups (mh : MH) (a b : List Int) : ltO mh (tupI a) (tupI b) = some (.bl (HT.lexLt a b)) := by
  unfold tupI ltO
  simp only [asInts_map]
end MI

/-! MI, part U: sorted(dict([(x, True) for x in xs])), heaps that only grow. -/
namespace MI
open PySem PySem.Spec L2
/-! ### heaps that only grow -/
def Ex (h h' : MH) : Prop := ∃ t, h' = h ++ t
theorem Ex.refl (h : MH) : Ex h h := ⟨[], by simp⟩
theorem Ex.trans {a b c : MH} (h1 : Ex a b) (h2 : Ex b c) : Ex a c := by
  obtain ⟨t, rfl⟩ := h1
  obtain ⟨u, rfl⟩ := h2
  exact ⟨t ++ u, by simp⟩
theorem Ex.one (h : MH) (o : O) : Ex h (h ++ [o]) := ⟨[o], rfl⟩
theorem Ex.get {a b : MH} (h : Ex a b) {n : Nat} {o : O} (e : a[n]? = some o) : b[n]? = some o := by
  obtain ⟨t, rfl⟩ := h
  rw [List.getElem?_append_left (List.getElem?_eq_some_iff.mp e).1]
  exact e
theorem compM_ext {g : EvG} {t : EvB} {e : Ev} {chk : MH → Bool} {σ0 : Sl} (tb : D → Bool) (ev : D → D) : ∀ (ds : List D) (h : MH) (acc : List D),
    (∀ h', Ex h h' → chk h' = true) → (∀ d ∈ ds, ∀ h', Ex h h' → ∃ σ1 h2, g d σ0 h' = some (σ1, h') ∧ t σ1 h' = .ok (tb d) h2 ∧ Ex h' h2 ∧ (tb d = true → ∃ h3, e σ1 h2 = .ok (ev d) h3 ∧ Ex h2 h3)) → acc.length + ds.length ≤ lim →
    ∃ h', compM g t e chk σ0 ds h acc = .ok (acc ++ (ds.filter tb).map ev) h' ∧ Ex h h'
  | [], h, acc, hc, _, _ => ⟨h, by unfold compM; rw [if_pos (hc h (.refl h))]; simp, .refl h⟩
  | d :: ds, h, acc, hc, hd, hl => by
    obtain ⟨σ1, h2, h1, h3, x, h4⟩ := hd d (List.mem_cons_self ..) h (.refl h)
    simp only [List.length_cons] at hl
    cases e1 : tb d with
    | false =>
      obtain ⟨h', e2, x2⟩ := compM_ext (g := g) (t := t) (e := e) (chk := chk) (σ0 := σ0) tb ev ds h2 acc (fun h' y => hc h' (x.trans y)) (fun z hz h' y => hd z (List.mem_cons_of_mem _ hz) h' (x.trans y)) (by omega)
      refine ⟨h', ?_, x.trans x2⟩
      unfold compM
      rw [if_pos (hc h (.refl h)), h1]
      dsimp only
      rw [h3, e1]
      dsimp only
      rw [e2]
      simp [e1]
    | true =>
      obtain ⟨h5, h6, x3⟩ := h4 e1
      obtain ⟨h', e2, x2⟩ := compM_ext (g := g) (t := t) (e := e) (chk := chk) (σ0 := σ0) tb ev ds h5 (acc ++ [ev d]) (fun h' y => hc h' ((x.trans x3).trans y)) (fun z hz h' y => hd z (List.mem_cons_of_mem _ hz) h' ((x.trans x3).trans y)) (by simp; omega)
      refine ⟨h', ?_, (x.trans x3).trans x2⟩
      unfold compM
      rw [if_pos (hc h (.refl h)), h1]
      dsimp only
      rw [h3, e1]
      dsimp only
      rw [h6]
      dsimp only
      rw [if_pos (by omega), e2]
      simp [e1]
theorem comp_ext {fi : EvI} {g : EvG} {t : EvB} {e : Ev} {vs : List Nat} {σ : Sl} {h h1 : MH} {it : ItD} (tb : D → Bool) (ev : D → D) (hi : fi σ h = .ok it h1) (hc : ∀ h', Ex h1 h' → it.chk h' = true)
    (hd : ∀ d ∈ it.xs, ∀ h', Ex h1 h' → ∃ σ1 h2, g d (wipeM σ vs) h' = some (σ1, h') ∧ t σ1 h' = .ok (tb d) h2 ∧ Ex h' h2 ∧ (tb d = true → ∃ h3, e σ1 h2 = .ok (ev d) h3 ∧ Ex h2 h3)) (hl : it.xs.length ≤ lim) :
    ∃ h', eComp false fi g t e vs σ h = .ok (.lst ((it.xs.filter tb).map ev)) h' ∧ Ex h1 h' := by
  obtain ⟨h', e1, x⟩ := compM_ext (g := g) (t := t) (e := e) (chk := it.chk) (σ0 := wipeM σ vs) tb ev it.xs h1 [] hc hd (by simpa using hl)
  refine ⟨h', ?_, x⟩
  unfold eComp
  rw [hi]
  show (compM g t e it.chk (wipeM σ vs) it.xs h1 []).bind _ = _
  rw [e1]
  simp [Res.bind, mkL]

/-! ### sorted(dict(...)) -/
section
variable {α : Type} [DecidableEq α]
def ddStep (acc : List α) (x : α) : List α := if x ∈ acc then acc else acc ++ [x]
def dd (xs : List α) : List α := xs.foldl ddStep []
theorem ddStep_nodup {acc : List α} {x : α} (h : acc.Nodup) : (ddStep acc x).Nodup := by
  unfold ddStep
  split
  · exact h
  · rename_i hx
    rw [List.nodup_append]
    refine ⟨h, by simp, fun a ha b hb => ?_⟩
    cases List.mem_singleton.mp hb
    exact fun e => hx (e ▸ ha)
theorem dd_nodup' : ∀ (xs acc : List α), acc.Nodup → (xs.foldl ddStep acc).Nodup
  | [], _, h => h
  | x :: xs, acc, h => dd_nodup' xs _ (ddStep_nodup h)
theorem dd_nodup (xs : List α) : (dd xs).Nodup := dd_nodup' xs [] List.nodup_nil
theorem dd_self' : ∀ (xs acc : List α), (acc ++ xs).Nodup → xs.foldl ddStep acc = acc ++ xs
  | [], acc, _ => by simp
  | x :: xs, acc, h => by
    have hx : x ∉ acc := by
      rw [List.nodup_append] at h
      exact fun z => h.2.2 x z x (List.mem_cons_self ..) rfl
    have e : ddStep acc x = acc ++ [x] := if_neg hx
    show xs.foldl ddStep (ddStep acc x) = _
    rw [e, dd_self' xs (acc ++ [x]) (by simpa using h)]
    simp
theorem dd_self {xs : List α} (h : xs.Nodup) : dd xs = xs := dd_self' xs [] h
theorem dd_sub' : ∀ (xs acc : List α) {x : α}, x ∈ xs.foldl ddStep acc → x ∈ acc ∨ x ∈ xs
  | [], acc, x, h => .inl h
  | y :: xs, acc, x, h => by
    rcases dd_sub' xs _ h with z | z
    · unfold ddStep at z
      split at z
      · exact .inl z
      · rcases List.mem_append.mp z with z | z
        · exact .inl z
        · exact .inr (by rw [List.mem_singleton.mp z]; simp)
    · exact .inr (List.mem_cons_of_mem _ z)
theorem dd_sub {xs : List α} {x : α} (h : x ∈ dd xs) : x ∈ xs := (dd_sub' xs [] h).resolve_left (by simp)
theorem dd_len' : ∀ (xs acc : List α), (xs.foldl ddStep acc).length ≤ acc.length + xs.length
  | [], acc => by simp
  | y :: xs, acc => by
    refine Nat.le_trans (dd_len' xs _) ?_
    unfold ddStep
    split <;> simp <;> omega
theorem dd_len (xs : List α) : (dd xs).length ≤ xs.length := by
  have := dd_len' xs []
  rw [List.length_nil, Nat.zero_add] at this
  exact this
theorem setD_keys (kvs : DK) (d e : D) : (setD kvs d e).map (·.1) = if d ∈ kvs.map (·.1) then kvs.map (·.1) else kvs.map (·.1) ++ [d] := by
  unfold setD
  split
  · rw [List.map_map]
    exact List.map_congr_left fun p _ => by
      show (if p.1 = d then (p.1, e) else p).1 = p.1
      split <;> rfl
  · simp
theorem foldD_keys {f : α → D} (inj : ∀ a b, f a = f b → a = b) (w : α → D) : ∀ (xs : List α) (acc : DK) (bs : List α), acc.map (·.1) = bs.map f → (foldD acc (xs.map fun x => (f x, w x))).map (·.1) = (xs.foldl ddStep bs).map f
  | [], acc, bs, h => h
  | x :: xs, acc, bs, h => by
    show (foldD (setD acc (f x) (w x)) (xs.map fun x => (f x, w x))).map (·.1) = _
    refine foldD_keys inj w xs _ (ddStep bs x) ?_
    rw [setD_keys, h]
    unfold ddStep
    have e : f x ∈ bs.map f ↔ x ∈ bs := ⟨fun z => by
      obtain ⟨y, hy, e⟩ := List.mem_map.mp z
      rw [← inj _ _ e]; exact hy, fun z => List.mem_map.mpr ⟨x, z, rfl⟩⟩
    by_cases hx : x ∈ bs
    · rw [if_pos hx, if_pos (e.mpr hx)]
    · rw [if_neg hx, if_neg fun z => hx (e.mp z)]; simp
theorem asPairs_map {f : α → D} (hk : ∀ a, (f a).keyOk = true) (w : α → D) : ∀ xs : List α, asPairs (xs.map fun x => D.tup [f x, w x]) = some (xs.map fun x => (f x, w x))
  | [] => rfl
  | x :: xs => by
    rw [List.map_cons]
    unfold asPairs
    rw [if_pos (hk x), asPairs_map hk w xs]
    rfl
/-- xs is its own, sorted and without what stands twice: strictly upwards -/
theorem sort_self {le : α → α → Bool} (tr : ∀ a b c, le a b = true → le b c = true → le a c = true) (to : ∀ a b, (le a b || le b a) = true) (an : ∀ a b, le a b = true → le b a = true → a = b) (xs : List α) :
    xs = (dd xs).mergeSort le ↔ xs.Pairwise fun a b => le a b = true ∧ a ≠ b := by
  constructor
  · intro e
    have p1 := List.pairwise_mergeSort (le := le) tr to (dd xs)
    rw [← e] at p1
    have p2 : xs.Nodup := by
      rw [e]
      exact (List.mergeSort_perm (dd xs) le).nodup_iff.mpr (dd_nodup xs)
    exact p1.and p2
  · intro h
    have h1 : xs.Nodup := h.imp fun z => z.2
    rw [dd_self h1]
    exact (List.mergeSort_of_pairwise (h.imp fun z => z.1)).symm
end
/-! ### whole numbers, tuples of them -/
theorem encD_int (mh : MH) (i : Int) : encD mh (.int i) = .int i := by unfold encD toPy; rw [D.py]; rfl
theorem encD_tupI (mh : MH) (ns : List Int) : encD mh (tupI ns) = .tuple (ns.map .int) := by unfold encD toPy tupI; rw [D.py, ints_py]; rfl
theorem toPy_tupI (mh : MH) (ns : List Int) : toPy mh (tupI ns) = some (.tuple (ns.map .int)) := by unfold toPy tupI; rw [D.py, ints_py]; rfl
theorem toPy_int (mh : MH) (i : Int) : toPy mh (.int i) = some (.int i) := by unfold toPy; rw [D.py]
theorem dle_int (mh : MH) (i j : Int) : PySem.W.dataLe false (encD mh) (.int i) (.int j) = decide (i ≤ j) := by
  show (!PySem.W.dataLt (encD mh (.int j)) (encD mh (.int i))) = _
  rw [encD_int, encD_int, PySem.W.dataLt_int, PySem.W.not_lt_int]
theorem dle_tup (mh : MH) (a b : List Int) : PySem.W.dataLe false (encD mh) (tupI a) (tupI b) = decide (a ≤ b) := by
  show (!PySem.W.dataLt (encD mh (tupI b)) (encD mh (tupI a))) = _
  rw [encD_tupI, encD_tupI, PySem.W.dataLt_tuple]
  show (!PySem.W.rowLt _ _) = _
  rw [PySem.W.dataLt_ints]
  by_cases h : b < a
  · have h' : ¬ a ≤ b := fun r => List.not_lt.mpr r h
    simp [h, h']
  · have h' : a ≤ b := List.not_lt.mp h
    simp [h, h']
theorem sortOk_ints (mh : MH) (ns : List Int) (hl : ns.length ≤ lim) : sortOk mh (ns.map D.int) = true := by
  unfold sortOk
  simp only [Bool.and_eq_true, List.all_eq_true, decide_eq_true_eq]
  refine ⟨⟨⟨⟨fun x hx => ?_, ?_⟩, ?_⟩, by rw [List.length_map]; exact hl⟩, fun x hx => ?_⟩
  · obtain ⟨i, _, rfl⟩ := List.mem_map.mp hx
    rw [toPy_int]; rfl
  · unfold alikeB
    simp only [List.all_eq_true]
    intro a ha b hb
    obtain ⟨x, hx, rfl⟩ := List.mem_map.mp ha
    obtain ⟨y, hy, rfl⟩ := List.mem_map.mp hb
    obtain ⟨i, _, rfl⟩ := List.mem_map.mp hx
    obtain ⟨j, _, rfl⟩ := List.mem_map.mp hy
    rw [encD_int, encD_int]
    simp [PySem.W.alike]
  · unfold sortableB
    rw [Bool.or_eq_true]
    refine .inr ?_
    simp only [List.all_eq_true]
    intro a ha
    obtain ⟨x, hx, rfl⟩ := List.mem_map.mp ha
    obtain ⟨i, _, rfl⟩ := List.mem_map.mp hx
    rw [encD_int]; rfl
  · obtain ⟨i, _, rfl⟩ := List.mem_map.mp hx
    rw [encD_int]; simp [PyData.depth]
theorem alike_ints : ∀ a b : List Int, PySem.W.alikeAll (a.map .int) (b.map .int) = true
  | [], _ => by simp [PySem.W.alikeAll]
  | _ :: _, [] => by simp [PySem.W.alikeAll]
  | x :: a, y :: b => by
    rw [List.map_cons, List.map_cons, PySem.W.alikeAll, alike_ints a b]
    simp [PySem.W.alike]
theorem depth_tupI (mh : MH) (ns : List Int) : (encD mh (tupI ns)).depth ≤ 1 := by
  rw [encD_tupI]
  have b : PyData.depthAll (ns.map PyData.int) ≤ 0 := depAll fun p hp => by
    obtain ⟨x, hx, rfl⟩ := List.mem_map.mp hp
    simp [PyData.depth]
  simp only [PyData.depth]
  omega
theorem sortOk_tups (mh : MH) (ns : List (List Int)) (hl : ns.length ≤ lim) (hn : ∀ n ∈ ns, n ≠ []) : sortOk mh (ns.map tupI) = true := by
  unfold sortOk
  simp only [Bool.and_eq_true, List.all_eq_true, decide_eq_true_eq]
  refine ⟨⟨⟨⟨fun x hx => ?_, ?_⟩, ?_⟩, by rw [List.length_map]; exact hl⟩, fun x hx => ?_⟩
  · obtain ⟨i, _, rfl⟩ := List.mem_map.mp hx
    rw [toPy_tupI]; rfl
  · unfold alikeB
    simp only [List.all_eq_true]
    intro a ha b hb
    obtain ⟨x, hx, rfl⟩ := List.mem_map.mp ha
    obtain ⟨y, hy, rfl⟩ := List.mem_map.mp hb
    obtain ⟨i, _, rfl⟩ := List.mem_map.mp hx
    obtain ⟨j, _, rfl⟩ := List.mem_map.mp hy
    rw [encD_tupI, encD_tupI]
    simp only [PySem.W.alike, alike_ints]
  · unfold sortableB
    rw [Bool.or_eq_true]
    refine .inl ?_
    simp only [List.all_eq_true]
    intro a ha
    obtain ⟨x, hx, rfl⟩ := List.mem_map.mp ha
    obtain ⟨i, hi, rfl⟩ := List.mem_map.mp hx
    rw [encD_tupI]
    cases i with
    | nil => exact absurd rfl (hn _ hi)
    | cons a r => rfl
  · obtain ⟨i, _, rfl⟩ := List.mem_map.mp hx
    exact Nat.le_trans (depth_tupI mh i) (by decide)
theorem sortD_ints (mh : MH) (ns : List Int) : sortD mh (ns.map D.int) = (ns.mergeSort fun a b => decide (a ≤ b)).map D.int := by
  unfold sortD
  exact (List.map_mergeSort fun a _ b _ => (dle_int mh a b).symm).symm
theorem sortD_tups (mh : MH) (ns : List (List Int)) : sortD mh (ns.map tupI) = (ns.mergeSort fun a b => decide (a ≤ b)).map tupI := by
  unfold sortD
  exact (List.map_mergeSort fun a _ b _ => (dle_tup mh a b).symm).symm
theorem tupI_inj (a b : List Int) (h : tupI a = tupI b) : a = b := by
  have q : a.map D.int = b.map D.int := D.tup.inj h
  clear h
  induction a generalizing b with
  | nil => cases b with
    | nil => rfl
    | cons _ _ => cases q
  | cons x a ih => cases b with
    | nil => cases q
    | cons y b =>
      rw [List.map_cons, List.map_cons] at q
      cases (List.cons.inj q).1
      rw [ih b (List.cons.inj q).2]
theorem keys_int : ∀ ns : List Int, D.keys (ns.map .int) = some (ns.map .num)
  | [] => by rw [List.map_nil, D.keys]; rfl
  | n :: ns => by rw [List.map_cons, D.keys, keys_int ns, D.key]; rfl
theorem keyOk_int (i : Int) : (D.int i).keyOk = true := by
  rw [D.keyOk_iff]
  exact ⟨.num i, by rw [D.key], by simp [NestedKey.depth]⟩
theorem depth_nums (ns : List Int) : NestedKey.depthAll (ns.map .num) = 0 := by
  induction ns with
  | nil => simp [NestedKey.depthAll]
  | cons n ns ih => rw [List.map_cons, NestedKey.depthAll, ih]; simp [NestedKey.depth]
theorem keyOk_tupI (ns : List Int) : (tupI ns).keyOk = true := by
  rw [D.keyOk_iff]
  refine ⟨.tup (ns.map .num), by unfold tupI; rw [D.key, keys_int]; rfl, ?_⟩
  simp only [NestedKey.depth, depth_nums]
  omega
theorem sorted_dict {α : Type} [DecidableEq α] {f : α → D} {le : α → α → Bool} {c : Ev} {σ : Sl} {h h1 : MH} {xs : List α} (inj : ∀ a b, f a = f b → a = b) (hk : ∀ a, (f a).keyOk = true) (hl : xs.length ≤ lim)
    (so : ∀ (mh : MH) (ys : List α), ys.length ≤ lim → (∀ y ∈ ys, y ∈ xs) → sortOk mh (ys.map f) = true) (sd : ∀ mh (ys : List α), sortD mh (ys.map f) = (ys.mergeSort le).map f)
    (e : c σ h = .ok (.lst (xs.map fun x => D.tup [f x, .bl true])) h1) :
    ∃ h', eCall (sortedF false) (aCons (eCall (seqF dictG) (aCons c aNil)) aNil) σ h = .ok (.lst (((dd xs).mergeSort le).map f)) h' ∧ Ex h1 h' := by
  have e1 : eCall (seqF dictG) (aCons c aNil) σ h = .ok (.ref h1.length) (h1 ++ [.dict (foldD [] (xs.map fun x => (f x, D.bl true)))]) := by
    refine call1_of e ?_
    unfold seqF
    simp only [itemsOf, isTupB]
    unfold dictG
    rw [asPairs_map hk (fun _ => .bl true)]
    dsimp only
    rw [if_pos (by rw [List.length_map]; exact hl)]
  refine ⟨h1 ++ [.dict (foldD [] (xs.map fun x => (f x, D.bl true)))], call1_of e1 ?_, Ex.one _ _⟩
  unfold sortedF
  have e2 : sortItems (h1 ++ [.dict (foldD [] (xs.map fun x => (f x, D.bl true)))]) (.ref h1.length) = some ((dd xs).map f) := by
    unfold sortItems
    have : (h1 ++ [O.dict (foldD [] (xs.map fun x => (f x, D.bl true)))])[h1.length]? = some (.dict (foldD [] (xs.map fun x => (f x, D.bl true)))) := by simp
    dsimp only
    rw [this]
    dsimp only
    rw [foldD_keys inj (fun _ => .bl true) xs [] [] rfl]
    rfl
  simp only [e2]
  rw [if_pos (so _ _ (Nat.le_trans (dd_len xs) hl) fun y hy => dd_sub hy), sd]
  simp [mkL]
theorem sorted_dict_int {c : Ev} {σ : Sl} {h h1 : MH} {xs : List Int} (hl : xs.length ≤ lim) (e : c σ h = .ok (.lst (xs.map fun x => D.tup [.int x, .bl true])) h1) :
    ∃ h', eCall (sortedF false) (aCons (eCall (seqF dictG) (aCons c aNil)) aNil) σ h = .ok (.lst (((dd xs).mergeSort fun a b => decide (a ≤ b)).map .int)) h' ∧ Ex h1 h' :=
  sorted_dict (fun a b e => D.int.inj e) keyOk_int hl (fun mh ys hy _ => sortOk_ints mh ys hy) (fun mh ys => sortD_ints mh ys) e
theorem sorted_dict_tup {c : Ev} {σ : Sl} {h h1 : MH} {xs : List (List Int)} (hl : xs.length ≤ lim) (hn : ∀ x ∈ xs, x ≠ []) (e : c σ h = .ok (.lst (xs.map fun x => D.tup [tupI x, .bl true])) h1) :
    ∃ h', eCall (sortedF false) (aCons (eCall (seqF dictG) (aCons c aNil)) aNil) σ h = .ok (.lst (((dd xs).mergeSort fun a b => decide (a ≤ b)).map tupI)) h' ∧ Ex h1 h' :=
  sorted_dict tupI_inj keyOk_tupI hl (fun mh ys hy hs => sortOk_tups mh ys hy fun n hm => hn n (hs n hm)) (fun mh ys => sortD_tups mh ys) e
theorem sort_self_int (xs : List Int) : xs = (dd xs).mergeSort (fun a b => decide (a ≤ b)) ↔ xs.Pairwise (· < ·) := by
  rw [sort_self (le := fun a b => decide (a ≤ b)) (fun a b c h1 h2 => by simp only [decide_eq_true_eq] at *; omega) (fun a b => by simp only [Bool.or_eq_true, decide_eq_true_eq]; omega) (fun a b h1 h2 => by simp only [decide_eq_true_eq] at *; omega)]
  constructor
  · exact fun h => h.imp fun z => by simp only [decide_eq_true_eq] at z; omega
  · exact fun h => h.imp fun z => by simp only [decide_eq_true_eq]; omega
theorem lex_lt : ∀ a b : List Int, HT.lexLt a b = decide (a < b)
  | [], [] => by simp [HT.lexLt]
  | [], _ :: _ => by simp [HT.lexLt]
  | _ :: _, [] => by simp [HT.lexLt]
  | x :: a, y :: b => by
    rw [HT.lexLt, lex_lt a b]
    by_cases h : x = y
    · subst h; simp [List.cons_lt_cons_iff]
    · simp [h, List.cons_lt_cons_iff]
theorem sort_self_tup (xs : List (List Int)) : xs = (dd xs).mergeSort (fun a b => decide (a ≤ b)) ↔ xs.Pairwise (· < ·) := by
  rw [sort_self (le := fun a b => decide (a ≤ b)) (fun a b c h1 h2 => by simp only [decide_eq_true_eq] at *; exact List.le_trans h1 h2) (fun a b => by simp only [Bool.or_eq_true, decide_eq_true_eq]; exact List.le_total a b) (fun a b h1 h2 => by simp only [decide_eq_true_eq] at *; exact List.le_antisymm h1 h2)]
  constructor
  · exact fun h => h.imp fun {a b} z => by
      simp only [decide_eq_true_eq] at z
      exact Classical.byContradiction fun q => z.2 (List.le_antisymm z.1 (List.not_lt.mp q))
  · exact fun h => h.imp fun {a b} z => by
      simp only [decide_eq_true_eq]
      exact ⟨List.not_lt.mp fun q => List.lt_irrefl a (List.lt_trans z q), fun e => by subst e; exact List.lt_irrefl _ z⟩
/-- neighbours upwards: upwards -/
theorem adj_pw {α : Type} {r : α → α → Prop} [DecidableRel r] (tr : ∀ a b c, r a b → r b c → r a c) : ∀ xs : List α, ((xs.zip (xs.drop 1)).all fun p => decide (r p.1 p.2)) = true ↔ xs.Pairwise r
  | [] => by simp
  | [x] => by simp
  | x :: y :: xs => by
    have ih := adj_pw tr (y :: xs)
    show ((decide (r x y)) && (((y :: xs).zip ((y :: xs).drop 1)).all fun p => decide (r p.1 p.2))) = true ↔ _
    rw [Bool.and_eq_true, ih, decide_eq_true_eq, List.pairwise_cons (a := x)]
    constructor
    · rintro ⟨h1, h2⟩
      refine ⟨fun z hz => ?_, h2⟩
      rcases List.mem_cons.mp hz with rfl | hz
      · exact h1
      · exact tr _ _ _ h1 ((List.pairwise_cons.mp h2).1 z hz)
    · exact fun ⟨h1, h2⟩ => ⟨h1 y (List.mem_cons_self ..), h2⟩
/-- a loop that may end early -/
theorem loop_chk {g : EvG} {b : EvS} {chk : MH → Bool} (I : Sl → MH → Prop) (ok : D → Bool) (v : D) (J : MH → Prop) (hc : ∀ σ h, I σ h → chk h = true) : ∀ (ds : List D) (σ : Sl) (h : MH),
    (∀ d ∈ ds, ∀ σ h, I σ h → ∃ σ1 h1, g d σ h = some (σ1, h1) ∧ ((ok d = true ∧ ∃ σ2 h2, b σ1 h1 = .nx σ2 h2 ∧ I σ2 h2) ∨ (ok d = false ∧ ∃ h2, b σ1 h1 = .rt v h2 ∧ J h2))) → I σ h →
    (ds.all ok = true ∧ ∃ σ' h', loopM g b chk ds σ h = .nx σ' h' ∧ I σ' h') ∨ (ds.all ok = false ∧ ∃ h', loopM g b chk ds σ h = .rt v h' ∧ J h')
  | [], σ, h, _, hI => .inl ⟨rfl, σ, h, by unfold loopM; rw [if_pos (hc σ h hI)], hI⟩
  | d :: ds, σ, h, hd, hI => by
    obtain ⟨σ1, h1, e1, e2⟩ := hd d (List.mem_cons_self ..) σ h hI
    rcases e2 with ⟨ok1, σ2, h2, e2, hI2⟩ | ⟨ok1, h2, e2, hJ⟩
    · rcases loop_chk (g := g) (b := b) (chk := chk) I ok v J hc ds σ2 h2 (fun x hx => hd x (List.mem_cons_of_mem _ hx)) hI2 with ⟨a, σ', h', e3, hI'⟩ | ⟨a, h', e3, hJ⟩
      · refine .inl ⟨by rw [List.all_cons, ok1, a]; rfl, σ', h', ?_, hI'⟩
        unfold loopM
        rw [if_pos (hc σ h hI), e1]
        dsimp only
        rw [e2]
        exact e3
      · refine .inr ⟨by rw [List.all_cons, ok1, a]; rfl, h', ?_, hJ⟩
        unfold loopM
        rw [if_pos (hc σ h hI), e1]
        dsimp only
        rw [e2]
        exact e3
    · refine .inr ⟨by rw [List.all_cons, ok1]; rfl, h2, ?_, hJ⟩
      unfold loopM
      rw [if_pos (hc σ h hI), e1]
      dsimp only
      rw [e2]
end MI

/-! MI, part V: repr of plain data, and that equal texts are equal. -/
namespace MI
open PySem PySem.Spec L2
theorem sok_append (a b : Str) : PyData.strOk (a ++ b) = (PyData.strOk a && PyData.strOk b) := by
  show PyData.strOk ⟨a.cps ++ b.cps⟩ = _
  unfold PyData.strOk
  rw [Array.all_append]
theorem sok_of (s : String) : PyData.strOk (Str.ofString s) = true := by
  rw [Str.ofString_eq_toList]
  unfold PyData.strOk
  simp only [List.all_toArray, List.all_map, List.all_eq_true, Function.comp_apply, decide_eq_true_eq]
  intro c _
  have := c.valid
  rcases this with h | ⟨_, h⟩
  · exact Nat.lt_of_lt_of_le h (by decide)
  · exact h
/-- a text of at most b signs, none too great -/
def TOk (b : Nat) (s : Str) : Prop := s.length ≤ b ∧ PyData.strOk s = true
theorem TOk.app {a b : Nat} {s t : Str} (h1 : TOk a s) (h2 : TOk b t) : TOk (a + b) (s ++ t) := ⟨by rw [strLen_append]; exact Nat.add_le_add h1.1 h2.1, by rw [sok_append, h1.2, h2.2]; rfl⟩
theorem TOk.mono {a b : Nat} {s : Str} (h : TOk a s) (hl : a ≤ b) : TOk b s := ⟨Nat.le_trans h.1 hl, h.2⟩
theorem tok_of {s : String} {b : Nat} (h : s.length ≤ b) : TOk b (Str.ofString s) := ⟨by rw [ofString_length]; exact h, sok_of s⟩
theorem tok_empty : TOk 0 Str.empty := ⟨Nat.le_refl _, by unfold PyData.strOk Str.empty; simp⟩
theorem join_ok {b : Nat} : ∀ {ts : List Str}, (∀ t ∈ ts, TOk b t) → TOk (ts.length * (b + 2)) (Str.join ", " ts)
  | [], _ => tok_empty.mono (Nat.zero_le _)
  | [x], h => (h x (by simp)).mono (by simp)
  | x :: y :: r, h => by
    have ih := join_ok (ts := y :: r) fun t ht => h t (List.mem_cons_of_mem _ ht)
    show TOk _ (x ++ ", " ++ Str.join ", " (y :: r))
    refine (((h x (List.mem_cons_self ..)).app (tok_of (s := ", ") (b := 2) (by decide))).app ih).mono ?_
    simp only [List.length_cons, Nat.succ_mul]
    omega
theorem from_ok {b : Nat} : ∀ {ts : List Str} {k c : Nat} {acc : Str}, TOk c acc → (∀ t ∈ ts, TOk b t) → TOk (c + ts.length * (b + 2)) (textFrom k acc ts)
  | [], k, c, acc, ha, _ => ha.mono (Nat.le_add_right _ _)
  | t :: r, k, c, acc, ha, h => by
    show TOk _ (textFrom (k + 1) (acc ++ (if k > 0 then ", " else "" : String) ++ t) r)
    have e : TOk (c + 2 + b) (acc ++ (if k > 0 then ", " else "" : String) ++ t) := (ha.app (tok_of (b := 2) (by split <;> decide))).app (h t (List.mem_cons_self ..))
    refine (from_ok e fun u hu => h u (List.mem_cons_of_mem _ hu)).mono ?_
    simp only [List.length_cons, Nat.succ_mul]
    omega
theorem shownAll_map : ∀ xs : List PyData, PyData.shownAll xs = xs.map PyData.shown
  | [] => by simp [PyData.shownAll]
  | x :: xs => by rw [PyData.shownAll, shownAll_map xs]; rfl
/-- how long a text may be -/
def bndG (m L : Nat) : Nat → Nat
  | 0 => m + 2
  | k + 1 => (L + 1) * (bndG m L k + 2) + 3
theorem bnd_st (m L k : Nat) : bndG m L k ≤ bndG m L (k + 1) := by
  show _ ≤ (L + 1) * (bndG m L k + 2) + 3
  rw [Nat.succ_mul]
  omega
theorem bnd_ge (m L k : Nat) : m + 2 ≤ bndG m L k := by
  induction k with
  | zero => exact Nat.le_refl _
  | succ k ih => exact Nat.le_trans ih (bnd_st m L k)
theorem bnd_le {m L a b : Nat} (h : a ≤ b) : bndG m L a ≤ bndG m L b := by
  induction h with
  | refl => exact Nat.le_refl _
  | step h ih => exact Nat.le_trans ih (bnd_st m L _)
theorem shown_ok {m L : Nat} (hm0 : 3 ≤ m) : ∀ {k : Nat} {d : D}, fz m L k d = true → TOk (bndG m L k) (pyD d).shown
  | k, .non, _ => by rw [pyD, PyData.shown]; exact (tok_of (s := "None") (b := 4) (by decide)).mono (Nat.le_trans (by omega) (bnd_ge m L k))
  | k, .bl b, _ => by
    rw [pyD, PyData.shown]
    cases b
    · exact (tok_of (s := "False") (b := 5) (by decide)).mono (Nat.le_trans (by omega) (bnd_ge m L k))
    · exact (tok_of (s := "True") (b := 5) (by decide)).mono (Nat.le_trans (by omega) (bnd_ge m L k))
  | k, .int i, h => by
    rw [fz_int, decide_eq_true_eq] at h
    rw [pyD, PyData.shown]
    have := int_text_length_le10 (by omega) h
    exact (tok_of (b := m + 2) (by omega)).mono (bnd_ge m L k)
  | k, .str x, h => by
    rw [fz_str] at h
    unfold strFine at h
    rw [Bool.and_eq_true, Bool.and_eq_true, decide_eq_true_eq] at h
    rw [pyD, PyData.shown]
    exact (show TOk (m + 2) (reprText x) from ⟨h.2.2, h.2.1⟩).mono (bnd_ge m L k)
  | 0, .tup xs, h => by rw [fz_tup0] at h; cases h
  | 0, .lst xs, h => by rw [fz_lst0] at h; cases h
  | k + 1, .tup xs, h => by
    rw [fz_tup, Bool.and_eq_true, decide_eq_true_eq, List.all_eq_true] at h
    have ih : ∀ t ∈ (xs.map pyD).map PyData.shown, TOk (bndG m L k) t := fun t ht => by
      obtain ⟨p, hp, rfl⟩ := List.mem_map.mp ht
      obtain ⟨x, hx, rfl⟩ := List.mem_map.mp hp
      exact shown_ok hm0 (h.2 x hx)
    rw [pyD, pyDs_map, PyData.shown, shownAll_map]
    unfold tupleText
    refine (((tok_of (s := "(") (b := 1) (by decide)).app (join_ok ih)).app (tok_of (b := 2) (by split <;> decide))).mono ?_
    simp only [List.length_map]
    have := Nat.mul_le_mul_right (bndG m L k + 2) h.1
    rw [show bndG m L (k + 1) = (L + 1) * (bndG m L k + 2) + 3 from rfl, Nat.succ_mul]
    omega
  | k + 1, .lst xs, h => by
    rw [fz_lst, Bool.and_eq_true, decide_eq_true_eq, List.all_eq_true] at h
    have ih : ∀ t ∈ (xs.map pyD).map PyData.shown, TOk (bndG m L k) t := fun t ht => by
      obtain ⟨p, hp, rfl⟩ := List.mem_map.mp ht
      obtain ⟨x, hx, rfl⟩ := List.mem_map.mp hp
      exact shown_ok hm0 (h.2 x hx)
    rw [pyD, pyDs_map, PyData.shown, shownAll_map]
    unfold listText
    refine ((from_ok (tok_of (s := "[") (b := 1) (by decide)) ih).app (tok_of (s := "]") (b := 1) (by decide))).mono ?_
    simp only [List.length_map]
    have := Nat.mul_le_mul_right (bndG m L k + 2) h.1
    rw [show bndG m L (k + 1) = (L + 1) * (bndG m L k + 2) + 3 from rfl, Nat.succ_mul]
    omega
  | k, .ref n, h => by rw [fz_ref] at h; cases h
  | k, .scr n, h => by rw [fz_scr] at h; cases h
theorem showAll {ps : List PyData} (h : ∀ p ∈ ps, p.showable = true) : PyData.showableAll ps = true := by
  induction ps with
  | nil => simp [PyData.showableAll]
  | cons p ps ih => simp [PyData.showableAll, h p, ih fun q hq => h q (List.mem_cons_of_mem _ hq)]
theorem log_lt {n m : Nat} (h : n < 10 ^ m) (hm : m ≤ 40) : n.log2 < 1920 := by
  by_cases h0 : n = 0
  · subst h0; decide
  · rw [Nat.log2_lt h0]
    exact Nat.lt_of_lt_of_le h (Nat.le_trans (Nat.pow_le_pow_right (by decide) hm) (by decide +kernel))
theorem showable_ok {m L : Nat} (hm : m ≤ 40) : ∀ {k : Nat} {d : D}, fz m L k d = true → (pyD d).showable = true
  | k, .non, _ => by rw [pyD]; simp [PyData.showable]
  | k, .bl b, _ => by rw [pyD]; simp [PyData.showable]
  | k, .int i, h => by
    rw [fz_int, decide_eq_true_eq] at h
    rw [pyD, PyData.showable, decide_eq_true_eq]
    exact log_lt h hm
  | k, .str x, h => by rw [pyD]; simp [PyData.showable]
  | 0, .tup xs, h => by rw [fz_tup0] at h; cases h
  | 0, .lst xs, h => by rw [fz_lst0] at h; cases h
  | k + 1, .tup xs, h => by
    rw [fz_tup, Bool.and_eq_true, List.all_eq_true] at h
    rw [pyD, pyDs_map, PyData.showable]
    exact showAll fun p hp => by
      obtain ⟨x, hx, rfl⟩ := List.mem_map.mp hp
      exact showable_ok hm (h.2 x hx)
  | k + 1, .lst xs, h => by
    rw [fz_lst, Bool.and_eq_true, List.all_eq_true] at h
    rw [pyD, pyDs_map, PyData.showable]
    exact showAll fun p hp => by
      obtain ⟨x, hx, rfl⟩ := List.mem_map.mp hp
      exact showable_ok hm (h.2 x hx)
  | k, .ref n, h => by rw [fz_ref] at h; cases h
  | k, .scr n, h => by rw [fz_scr] at h; cases h
theorem repr_fzG {m L k : Nat} {d : D} (h : fz m L k d = true) (hm : m ≤ 40) (hm0 : 3 ≤ m) (hk : k ≤ 16) (hb : bndG m L k ≤ lim) (mh : MH) : reprF [d] mh = .ok (.str (pyD d).shown) mh ∧ PyData.strOk (pyD d).shown = true := by
  obtain ⟨h1, h2⟩ := shown_ok hm0 h
  refine ⟨?_, h2⟩
  unfold reprF
  simp only [fz_toPy h mh]
  rw [if_pos]
  simp only [Bool.and_eq_true, decide_eq_true_eq, Bool.not_eq_true']
  exact ⟨⟨⟨showable_ok hm h, PyData.hasDict_of_canLay _ (fz_py h).2.1⟩, Nat.le_trans (fz_py h).2.2 hk⟩, Nat.le_trans h1 hb⟩
theorem bnd_m {m m' L : Nat} (h : m ≤ m') : ∀ k, bndG m L k ≤ bndG m' L k
  | 0 => Nat.add_le_add_right h 2
  | k + 1 => by
    have := Nat.mul_le_mul_left (L + 1) (Nat.add_le_add_right (bnd_m (L := L) h k) 2)
    show (L + 1) * (bndG m L k + 2) + 3 ≤ (L + 1) * (bndG m' L k + 2) + 3
    omega
theorem bnd4 : bndG 40 10 4 ≤ lim := by decide
theorem repr_fz {m k : Nat} {d : D} (h : fz m 10 k d = true) (hm : m ≤ 40) (hm0 : 3 ≤ m) (hk : k ≤ 4) (mh : MH) : reprF [d] mh = .ok (.str (pyD d).shown) mh ∧ PyData.strOk (pyD d).shown = true :=
  repr_fzG h hm hm0 (by omega) (Nat.le_trans (bnd_m hm k) (Nat.le_trans (bnd_le hk) bnd4)) mh
theorem neO_str {s : Str} (h : PyData.strOk s = true) (mh : MH) : neO mh (.str s) (.str s) = some (.bl false) := by
  unfold neO toPy
  rw [D.py]
  have q : SeqAt.shaped (.str s) = true := shaped_of (by simp only [PyData.canLay0]; exact h) (by simp [PyData.depth])
  dsimp only
  rw [q]
  simp [PyData.eqv]
end MI

/-! MI, part W: the drawing pool of the laws. -/
namespace MI
open PySem PySem.Spec L2
def drawB : EvS :=
  (sSeq (sIf (eT (eBin gtO (eBin ixA (eVar 0) (eC (.int 0))) (eC (.int 0)))) (sSeq (sAsg (eBin modO (eBin ixA (eVar 0) (eC (.int 0))) (eVar 1)) (gVar 2))
  (sSeq (sAsg (eBin fdivO (eBin ixA (eVar 0) (eC (.int 0))) (eVar 1)) (gSubM (eVar 0) (eC (.int 0)) setAF))
  (sRet (eVar 2)))) sSkip)
  (sSeq (sAsg (eBin modO (eBin addO (eBin mulO (eBin ixA (eVar 0) (eC (.int 1))) (eC (.int 69621))) (eC (.int 7))) (eC (.int 2147483647))) (gSubM (eVar 0) (eC (.int 1)) setAF))
  (sRet (eBin modO (eBin fdivO (eBin modO (eBin mulO (eBin ixA (eVar 0) (eC (.int 1))) (eBin ixA (eVar 0) (eC (.int 1)))) (eC (.int 2147483629))) (eC (.int 32))) (eVar 1)))))
def drawF : Fn := fnM 3 drawB
def PoolAt (p : Nat) (h : MH) : Prop := ∃ a b : Int, h[p]? = some (.lst [.int a, .int b]) ∧ 0 ≤ a ∧ 0 ≤ b ∧ b < 2147483647
/-- the pool stands, all else stands as it stood -/
def Px (p : Nat) (h h' : MH) : Prop := PoolAt p h' ∧ ∀ n, n ≠ p → ∀ o, h[n]? = some o → h'[n]? = some o
theorem Px.refl {p : Nat} {h : MH} (k : PoolAt p h) : Px p h h := ⟨k, fun _ _ _ e => e⟩
theorem Px.trans {p : Nat} {a b c : MH} (h1 : Px p a b) (h2 : Px p b c) : Px p a c := ⟨h2.1, fun n hn o e => h2.2 n hn o (h1.2 n hn o e)⟩
theorem Px.ex {p : Nat} {a b : MH} (k : PoolAt p a) (h : Ex a b) : Px p a b := by
  obtain ⟨x, y, e, r⟩ := k
  exact ⟨⟨x, y, h.get e, r⟩, fun n _ o e => h.get e⟩
theorem Px.pre {p : Nat} {a b : MH} (h : Px p a b) : PoolAt p b := h.1
theorem ix_box {h : MH} {p : Nat} {xs : List D} (e : h[p]? = some (.lst xs)) (i : Int) : ixA h (.ref p) (.int i) = atI xs i := by
  show (match boxD h p with | some kvs => _ | none => ixO h (.ref p) (.int i)) = _
  have q : boxD h p = none := by unfold boxD; rw [e]
  rw [q]
  unfold ixO itemsOf
  dsimp only
  rw [e]
theorem set_box {h : MH} {p : Nat} {xs : List D} (e : h[p]? = some (.lst xs)) {i : Int} {j : Nat} (hj : ixN xs.length i = some j) (v : D) : setAF (.ref p) (.int i) v h = some (h.set p (.lst (xs.set j v))) := by
  unfold setAF
  have q : boxD h p = none := by unfold boxD; rw [e]
  simp only [q]
  unfold setLF
  have q2 : boxL h p = some xs := by unfold boxL; rw [e]
  simp only [q2, hj]
theorem set_get {h : MH} {p : Nat} {o u : O} (e : h[p]? = some u) : (h.set p o)[p]? = some o := by
  rw [List.getElem?_set_self (List.getElem?_eq_some_iff.mp e).1]
theorem set_ne {h : MH} {p n : Nat} {o : O} (hn : n ≠ p) : (h.set p o)[n]? = h[n]? := List.getElem?_set_ne fun e => hn e.symm
theorem mul_int (mh : MH) {i j : Int} (h : (small64 i || small64 j) = true) : mulO mh (.int i) (.int j) = some (.int (i * j)) := by
  unfold mulO
  dsimp only
  rw [if_pos h]
theorem draw_ok {p : Nat} {h : MH} {m : Int} (k : PoolAt p h) (h0 : 0 < m) (h1 : m < 1073741824) : ∃ (r : Int) (h' : MH), drawF [.ref p, .int m] h = .ok (.int r) h' ∧ 0 ≤ r ∧ r < m ∧ Px p h h' := by
  obtain ⟨a, b, e, ha, hb, hb2⟩ := k
  have i0 : ixA h (.ref p) (.int 0) = some (.int a) := by rw [ix_box e]; rfl
  have i1 : ixA h (.ref p) (.int 1) = some (.int b) := by rw [ix_box e]; rfl
  by_cases c : 0 < a
  · refine ⟨a % m, h.set p (.lst [.int (a / m), .int b]), fn_rt ?_, Int.emod_nonneg _ (by omega), Int.emod_lt_of_pos _ h0, ⟨a / m, b, set_get e, Int.ediv_nonneg ha (by omega), hb, hb2⟩, fun n hn o q => by rw [set_ne hn]; exact q⟩
    refine seq_rt (if_t (h' := h) (eT_of (bin_of (bin_of rfl rfl i0) rfl ?_)) ?_)
    · show some (D.bl (decide (0 < a))) = _
      rw [decide_eq_true c]
    · refine seq_nx (σ' := [some (.ref p), some (.int m), some (.int (a % m))]) (h' := h) (asg_of (d := .int (a % m)) (h' := h) (bin_of (x := .int a) (y := .int m) (bin_of rfl rfl i0) rfl (if_pos h0)) rfl) ?_
      refine seq_nx (σ' := [some (.ref p), some (.int m), some (.int (a % m))]) (h' := h.set p (.lst [.int (a / m), .int b])) (asg_of (d := .int (a / m)) (h' := h) (bin_of (x := .int a) (y := .int m) (bin_of rfl rfl i0) rfl (if_pos ⟨h0, h1⟩)) ?_) (ret_of rfl)
      show (match setAF (.ref p) (.int 0) (.int (a / m)) h with | some h3 => some (_, h3) | none => none) = _
      rw [set_box e (j := 0) rfl]
      rfl
  · have hs : small64 b = true := by
      unfold small64
      simp only [Bool.and_eq_true, decide_eq_true_eq]
      omega
    generalize hb' : (b * 69621 + 7) % 2147483647 = b'
    have r1 : 0 ≤ b' := by rw [← hb']; exact Int.emod_nonneg _ (by decide)
    have r2 : b' < 2147483647 := by rw [← hb']; exact Int.emod_lt_of_pos _ (by decide)
    have hs' : small64 b' = true := by
      unfold small64
      simp only [Bool.and_eq_true, decide_eq_true_eq]
      omega
    have e' : (h.set p (.lst [.int a, .int b']))[p]? = some (.lst [.int a, .int b']) := set_get e
    have i1' : ixA (h.set p (.lst [.int a, .int b'])) (.ref p) (.int 1) = some (.int b') := by rw [ix_box e']; rfl
    refine ⟨b' * b' % 2147483629 / 32 % m, h.set p (.lst [.int a, .int b']), fn_rt ?_, Int.emod_nonneg _ (by omega), Int.emod_lt_of_pos _ h0, ⟨a, b', e', ha, r1, r2⟩, fun n hn o q => by rw [set_ne hn]; exact q⟩
    refine seq_nx (σ' := startM 3 [.ref p, .int m]) (h' := h) (if_f (h' := h) (eT_of (bin_of (bin_of rfl rfl i0) rfl ?_)) rfl) ?_
    · show some (D.bl (decide (0 < a))) = _
      rw [decide_eq_false c]
    · refine seq_nx (σ' := startM 3 [.ref p, .int m]) (h' := h.set p (.lst [.int a, .int b'])) (asg_of (d := .int b') (h' := h) (bin_of (x := .int (b * 69621 + 7)) (y := .int 2147483647) (h1 := h) (bin_of (x := .int (b * 69621)) (y := .int 7) (h1 := h) (bin_of (x := .int b) (y := .int 69621) (h1 := h) (bin_of rfl rfl i1) rfl ?_) rfl rfl) rfl ?_) ?_) ?_
      · show (if (small64 b || small64 69621) = true then some (D.int (b * 69621)) else none) = _
        rw [hs]; rfl
      · show (if (0 : Int) < 2147483647 then some (D.int ((b * 69621 + 7) % 2147483647)) else none) = _
        rw [hb']; rfl
      · show (match setAF (.ref p) (.int 1) (.int b') h with | some h3 => some (_, h3) | none => none) = _
        rw [set_box e (j := 1) rfl]
        rfl
      · generalize hh : h.set p (.lst [.int a, .int b']) = h2 at i1'
        refine ret_of (bin_of (x := .int (b' * b' % 2147483629 / 32)) (y := .int m) (h1 := h2) (bin_of (x := .int (b' * b' % 2147483629)) (y := .int 32) (h1 := h2) (bin_of (x := .int (b' * b')) (y := .int 2147483629) (h1 := h2) (bin_of (h1 := h2) (bin_of rfl rfl i1') (bin_of rfl rfl i1') ?_) rfl rfl) rfl rfl) rfl (if_pos h0))
        show (if (small64 b' || small64 b') = true then some (D.int (b' * b')) else none) = _
        rw [hs']; rfl
def poolB : EvS :=
  (sSeq (sAsg (eC (.int 0)) (gVar 2))
  (sSeq (sIf (eT (eBin ltO (eVar 1) (eCall lenF (aCons (eVar 0) aNil)))) (sAsg (eBin ixA (eVar 0) (eVar 1)) (gVar 2)) sSkip)
  (sSeq (sAsg (eCall max2F (aCons (eVar 2) (aCons (eBin subO (eNeg (eC (.int 1))) (eVar 2)) aNil))) (gVar 3))
  (sSeq (sAsg (eBin modO (eBin mulO (eBin addO (eBin addO (eBin addO (eBin modO (eVar 3) (eC (.int 2147483629))) (eBin mulO (eBin mulO (eC (.int 7919)) (eVar 1)) (eVar 1))) (eBin mulO (eC (.int 31)) (eVar 1))) (eC (.int 17))) (eC (.int 48271))) (eC (.int 2147483647))) (gVar 4))
  (sRet (eLst true (aCons (eBin mulO (eVar 3) (eCall intF (aCons (eBin geO (eVar 3) (eBin powO (eC (.int 10)) (eC (.int 18)))) aNil))) (aCons (eVar 4) aNil))))))))
def poolF : Fn := fnM 5 poolB
theorem pool_ok {h : MH} {ns : List Int} {k : Nat} (hk : k < 1000) : ∃ h', poolF [.scr ns, .int (k : Nat)] h = .ok (.ref h.length) h' ∧ Ex h h' ∧ PoolAt h.length h' := by
  generalize hc : (if k < ns.length then ns.getD k 0 else 0) = c
  generalize hz : max c (-1 - c) = z
  have hz0 : 0 ≤ z := by omega
  generalize hx : ((z % 2147483629 + 7919 * (k : Int) * k + 31 * (k : Int) + 17) * 48271) % 2147483647 = x
  have x1 : 0 ≤ x := by rw [← hx]; exact Int.emod_nonneg _ (by decide)
  have x2 : x < 2147483647 := by rw [← hx]; exact Int.emod_lt_of_pos _ (by decide)
  generalize hy : z * (if decide (10 ^ 18 ≤ z) = true then 1 else 0) = y
  have y1 : 0 ≤ y := by
    rw [← hy]
    split
    · omega
    · simp
  refine ⟨h ++ [.lst [.int y, .int x]], fn_rt ?_, Ex.one _ _, ⟨y, x, by simp, y1, x1, x2⟩⟩
  have hk64 : small64 (k : Int) = true := by
    unfold small64
    simp only [Bool.and_eq_true, decide_eq_true_eq]
    omega
  refine seq_nx (σ' := [some (.scr ns), some (.int (k : Nat)), some (.int 0), none, none]) (h' := h) (asg_of rfl rfl) ?_
  refine seq_nx (σ' := [some (.scr ns), some (.int (k : Nat)), some (.int c), none, none]) (h' := h) ?_ ?_
  · by_cases hl : k < ns.length
    · refine if_t (h' := h) (eT_of (bin_of (x := .int (k : Nat)) (y := .int (ns.length : Nat)) (h1 := h) rfl (call1_of (x := .scr ns) rfl ?_) ?_)) (asg_of (d := .int c) (h' := h) (bin_of (x := .scr ns) (y := .int (k : Nat)) rfl rfl ?_) rfl)
      · show Res.ok (D.int ((ns.map D.int).length : Nat)) h = _
        rw [List.length_map]
      · show some (D.bl (decide ((k : Int) < (ns.length : Nat)))) = _
        rw [decide_eq_true (by omega)]
      · show atI (ns.map D.int) (k : Nat) = _
        have q : ixN (ns.map D.int).length (k : Nat) = some k := by
          unfold ixN
          rw [if_pos (by omega), List.length_map, if_pos (by omega)]
          simp
        unfold atI
        rw [q]
        show (ns.map D.int)[k]? = _
        rw [List.getElem?_map, List.getElem?_eq_getElem hl]
        rw [if_pos hl, List.getD_eq_getElem?_getD, List.getElem?_eq_getElem hl] at hc
        show some (D.int _) = _
        rw [← hc]
        rfl
    · rw [if_neg hl] at hc
      refine if_f (h' := h) (eT_of (bin_of (x := .int (k : Nat)) (y := .int (ns.length : Nat)) (h1 := h) rfl (call1_of (x := .scr ns) rfl ?_) ?_)) (by rw [← hc]; rfl)
      · show Res.ok (D.int ((ns.map D.int).length : Nat)) h = _
        rw [List.length_map]
      · show some (D.bl (decide ((k : Int) < (ns.length : Nat)))) = _
        rw [decide_eq_false (by omega)]
  · refine seq_nx (σ' := [some (.scr ns), some (.int (k : Nat)), some (.int c), some (.int z), none]) (h' := h) (asg_of (d := .int z) (h' := h) (call2_of (x := .int c) (y := .int (-1 - c)) rfl rfl (by rw [← hz]; rfl)) rfl) ?_
    refine seq_nx (σ' := [some (.scr ns), some (.int (k : Nat)), some (.int c), some (.int z), some (.int x)]) (h' := h) (asg_of (d := .int x) (h' := h) (bin_of (x := .int ((z % 2147483629 + 7919 * (k : Int) * k + 31 * (k : Int) + 17) * 48271)) (y := .int 2147483647) (h1 := h) (bin_of (x := .int (z % 2147483629 + 7919 * (k : Int) * k + 31 * (k : Int) + 17)) (y := .int 48271) (h1 := h) (bin_of (x := .int (z % 2147483629 + 7919 * (k : Int) * k + 31 * (k : Int))) (y := .int 17) (h1 := h) (bin_of (x := .int (z % 2147483629 + 7919 * (k : Int) * k)) (y := .int (31 * (k : Int))) (h1 := h) (bin_of (x := .int (z % 2147483629)) (y := .int (7919 * (k : Int) * k)) (h1 := h) (bin_of rfl rfl rfl) (bin_of (x := .int (7919 * (k : Int))) (y := .int (k : Int)) (h1 := h) (bin_of (x := .int 7919) (y := .int (k : Int)) (h1 := h) rfl rfl ?_) rfl ?_) rfl) (bin_of (x := .int 31) (y := .int (k : Int)) (h1 := h) rfl rfl ?_) rfl) rfl rfl) rfl ?_) rfl ?_) rfl) ?_
    · exact mul_int _ (by rw [hk64, Bool.or_true])
    · exact mul_int _ (by rw [hk64, Bool.or_true])
    · exact mul_int _ (by rw [hk64, Bool.or_true])
    · exact mul_int _ (by rw [show small64 48271 = true from by decide, Bool.or_true])
    · show (if (0 : Int) < 2147483647 then some (D.int _) else none) = _
      rw [hx]; rfl
    · refine ret_of ((lst_of (ds := [.int y, .int x]) (h1 := h) (acons_of (h1 := h) (x := .int y) (bin_of (x := .int z) (y := .int (if decide (10 ^ 18 ≤ z) = true then 1 else 0)) (h1 := h) rfl (call1_of (x := .bl (decide (10 ^ 18 ≤ z))) (h1 := h) (bin_of (x := .int z) (y := .int (10 ^ 18)) (h1 := h) rfl (bin_of rfl rfl rfl) rfl) rfl) ?_) (acons_of (h1 := h) (x := .int x) rfl rfl)) (show 2 ≤ lim by decide)).trans rfl)
      have : small64 (if decide ((10 : Int) ^ 18 ≤ z) = true then 1 else 0) = true := by split <;> decide
      exact (mul_int _ (by rw [this, Bool.or_true])).trans (by rw [hy])
end MI

/-! MI, part Y: more plain facts (first written for k05). -/
namespace MI
open PySem PySem.Spec L2
def isTup : D → Bool
  | .tup _ => true
  | _ => false

theorem isi_tup {m L k : Nat} {f : Ev} {σ : Sl} {d : D} {mh : MH} (e : f σ mh = .ok d mh) (h : fz m L k d = true) : eIsi "tuple" f σ mh = .ok (.bl (isTup d)) mh := by
  unfold eIsi
  rw [e]
  cases d with
  | ref n => rw [fz_ref] at h; cases h
  | _ => rfl

def intOf : D → Int
  | .int i => i
  | _ => 0

theorem zipD_ints (a b : List Int) : zipD (a.map .int) (b.map .int) = (a.zip b).map fun p => D.tup [.int p.1, .int p.2] := by
  unfold zipD
  rw [List.zip_map, List.map_map]
  rfl

theorem zipD_of {xs : List D} {ns : List Int} (hi : xs = ns.map D.int) : zipD xs (xs.drop 1) = (ns.zip (ns.drop 1)).map fun p => D.tup [.int p.1, .int p.2] := by
  subst hi
  rw [← List.map_drop, zipD_ints]

theorem ix_fz {m L k : Nat} {xs : List D} (h : fz m L (k + 1) (.tup xs) = true) {x : D} (hx : x ∈ xs) : fz m L k x = true := by
  rw [fz_tup, Bool.and_eq_true, List.all_eq_true] at h
  exact h.2 x hx

theorem len_fz {m L k : Nat} {xs : List D} (h : fz m L (k + 1) (.tup xs) = true) : xs.length ≤ L := by
  rw [fz_tup, Bool.and_eq_true, decide_eq_true_eq] at h
  exact h.1

theorem lim1 {n L : Nat} (h : n ≤ L) (hL : L ≤ 1000) : n ≤ lim := by unfold lim; omega

theorem ne_len (mh : MH) (xs : List D) (m : Nat) : neO mh (.int (xs.length : Nat)) (.int (m : Nat)) = some (.bl (!decide (xs.length = m))) := by
  rw [neO_int]
  have : (((xs.length : Nat) : Int) = (m : Nat)) ↔ xs.length = m := by omega
  simp only [this]

theorem fz_pair {m L k : Nat} {a b : D} (h : fz m L (k + 1) (.tup [a, b]) = true) : fz m L k a = true ∧ fz m L k b = true := ⟨ix_fz h (by simp), ix_fz h (by simp)⟩

theorem filter_ints (a b : List Int) : ((a.map D.int).filter fun d => decide (intOf d ∈ b)) = (a.filter (· ∈ b)).map D.int := by
  rw [List.filter_map]
  rfl

theorem both_eq {b : Bool} {fi : EvI} {g : EvG} {t : EvB} {e : Ev} {vs : List Nat} {σ : Sl} {h : MH} {c : MH → Bool} (a o : List Int) (hi : fi σ h = .ok ⟨a.map D.int, c⟩ h) (hc : c h = true)
    (hd : ∀ i ∈ a, ∃ σ1, g (.int i) (wipeM σ vs) h = some (σ1, h) ∧ t σ1 h = .ok (decide (i ∈ o)) h ∧ e σ1 h = .ok (.int i) h) (hl : a.length ≤ lim) :
    eComp b fi g t e vs σ h = mkL b ((a.filter (· ∈ o)).map D.int) h := by
  rw [comp_pure (fun d => decide (intOf d ∈ o)) id hi hc (fun d hd' => ?_) (by simpa using hl)]
  · rw [filter_ints, List.map_id]
  · obtain ⟨i, hi', rfl⟩ := List.mem_map.mp hd'
    obtain ⟨σ1, h1, h2, h3⟩ := hd i hi'
    exact ⟨σ1, h1, h2, fun _ => h3⟩

def unI : D → List Int
  | .tup xs => xs.map intOf
  | _ => []

theorem intOf_map (ns : List Int) : (ns.map D.int).map intOf = ns := by
  induction ns with
  | nil => rfl
  | cons n ns ih => rw [List.map_cons, List.map_cons, ih]; rfl

theorem unI_tup (ns : List Int) : unI (tupI ns) = ns := intOf_map ns

theorem cut1 (xs : List D) : cutD xs (some 1) none = xs.drop 1 := by
  unfold cutD
  rw [show HT.sIx xs.length 0 (some 1) = min 1 xs.length from HT.sIx_nat _ _ 1, HT.sIx_none]
  cases xs with
  | nil => rfl
  | cons x xs => simp

theorem zipT_of (ms : List (List Int)) : zipD (ms.map tupI) ((ms.map tupI).drop 1) = (ms.zip (ms.drop 1)).map fun p => D.tup [tupI p.1, tupI p.2] := by
  unfold zipD
  rw [← List.map_drop, List.zip_map, List.map_map]
  rfl

theorem filter_empty {α : Type} (p : α → Bool) (xs : List α) : (!(xs.filter fun x => !p x).isEmpty) = !xs.all p := by
  rw [Bool.eq_iff_iff]
  simp [List.isEmpty_iff, List.filter_eq_nil_iff]

theorem and2_of {σ : Sl} {h h' : MH} {t u : EvB} {p q r : Bool} (e : t σ h = .ok p h') (e2 : p = true → u σ h' = .ok q h') (e3 : (p && q) = r) : bAnd t u σ h = .ok r h' := by
  subst e3
  unfold bAnd
  rw [e]
  cases p with
  | false => rfl
  | true => exact (e2 rfl).trans (by simp)

theorem range2_of {σ : Sl} {h h1 : MH} {as : EvL} {i j : Int} (e : as σ h = .ok [.int i, .int j] h1) (e1 : sm62 i = true) (e2 : sm62 j = true) : iRange as σ h = .ok ⟨rangeD i (j - i).toNat, noChk⟩ h1 := by
  unfold iRange
  rw [e]
  simp only [Res.bind, e1, e2]
  rfl

theorem range1_of {σ : Sl} {h h1 : MH} {as : EvL} {j : Int} (e : as σ h = .ok [.int j] h1) (e2 : sm62 j = true) : iRange as σ h = .ok ⟨rangeD 0 j.toNat, noChk⟩ h1 := by
  unfold iRange
  rw [e]
  simp only [Res.bind, e2]
  rfl

theorem compM_cnt {g : EvG} {t : EvB} {e : Ev} {chk : MH → Bool} {σ0 : Sl} (I : Nat → MH → Prop) (P : D → Prop) : ∀ (ds : List D) (h : MH) (acc : List D),
    (∀ k h, I k h → chk h = true) → (∀ d ∈ ds, ∀ k h, I (k + 1) h → ∃ σ1, g d σ0 h = some (σ1, h) ∧ t σ1 h = .ok true h ∧ ∃ v h', e σ1 h = .ok v h' ∧ I k h' ∧ P v) → I ds.length h → (∀ v ∈ acc, P v) → acc.length + ds.length ≤ lim →
    ∃ acc' h', compM g t e chk σ0 ds h acc = .ok acc' h' ∧ I 0 h' ∧ (∀ v ∈ acc', P v) ∧ acc'.length = acc.length + ds.length
  | [], h, acc, hc, _, hI, hP, _ => ⟨acc, h, by unfold compM; rw [if_pos (hc _ h hI)], hI, hP, by simp⟩
  | d :: ds, h, acc, hc, hd, hI, hP, hl => by
    obtain ⟨σ1, h1, h2, v, h', h3, hI', hv⟩ := hd d (List.mem_cons_self ..) ds.length h hI
    simp only [List.length_cons] at hl
    obtain ⟨acc', h2', e1, e2, e3, e4⟩ := compM_cnt (g := g) (t := t) (e := e) (chk := chk) (σ0 := σ0) I P ds h' (acc ++ [v]) hc (fun x hx => hd x (List.mem_cons_of_mem _ hx)) hI' (fun x hx => by
      rcases List.mem_append.mp hx with z | z
      · exact hP x z
      · cases List.mem_singleton.mp z; exact hv) (by simp; omega)
    refine ⟨acc', h2', ?_, e2, e3, by rw [e4]; simp; omega⟩
    unfold compM
    rw [if_pos (hc _ h hI), h1]
    dsimp only
    rw [h2]
    dsimp only
    rw [h3]
    dsimp only
    rw [if_pos (by omega), e1]

theorem comp_cnt {fi : EvI} {g : EvG} {t : EvB} {e : Ev} {vs : List Nat} {σ : Sl} {h h1 : MH} {it : ItD} (I : Nat → MH → Prop) (P : D → Prop) (hi : fi σ h = .ok it h1) (hc : ∀ k h, I k h → it.chk h = true)
    (hd : ∀ d ∈ it.xs, ∀ k h, I (k + 1) h → ∃ σ1, g d (wipeM σ vs) h = some (σ1, h) ∧ t σ1 h = .ok true h ∧ ∃ v h', e σ1 h = .ok v h' ∧ I k h' ∧ P v) (hI : I it.xs.length h1) (hl : it.xs.length ≤ lim) :
    ∃ xs h', eComp false fi g t e vs σ h = .ok (.lst xs) h' ∧ I 0 h' ∧ (∀ v ∈ xs, P v) ∧ xs.length = it.xs.length := by
  obtain ⟨acc, h', e1, e2, e3, e4⟩ := compM_cnt (g := g) (t := t) (e := e) (chk := it.chk) (σ0 := wipeM σ vs) I P it.xs h1 [] hc hd hI (fun _ z => nomatch z) (by simpa using hl)
  refine ⟨acc, h', ?_, e2, e3, by simpa using e4⟩
  unfold eComp
  rw [hi]
  show (compM g t e it.chk (wipeM σ vs) it.xs h1 []).bind _ = _
  rw [e1]
  rfl

theorem loop_idx {g : EvG} {b : EvS} {chk : MH → Bool} (I : Nat → Sl → MH → Prop) (K : Nat) (hc : ∀ k σ h, I k σ h → chk h = true) : ∀ (ds : List D) (k : Nat) (σ : Sl) (h : MH), k + ds.length ≤ K →
    (∀ d ∈ ds, ∀ k σ h, k < K → I k σ h → ∃ σ1 h1, g d σ h = some (σ1, h1) ∧ ∃ σ2 h2, b σ1 h1 = .nx σ2 h2 ∧ I (k + 1) σ2 h2) → I k σ h → ∃ σ' h', loopM g b chk ds σ h = .nx σ' h' ∧ I (k + ds.length) σ' h'
  | [], k, σ, h, _, _, hI => ⟨σ, h, by unfold loopM; rw [if_pos (hc k σ h hI)], hI⟩
  | d :: ds, k, σ, h, hK, hd, hI => by
    rw [List.length_cons] at hK
    obtain ⟨σ1, h1, e1, σ2, h2, e2, hI2⟩ := hd d (List.mem_cons_self ..) k σ h (by omega) hI
    obtain ⟨σ', h', e3, hI'⟩ := loop_idx (g := g) (b := b) (chk := chk) I K hc ds (k + 1) σ2 h2 (by omega) (fun x hx => hd x (List.mem_cons_of_mem _ hx)) hI2
    refine ⟨σ', h', ?_, by rw [List.length_cons, show k + (ds.length + 1) = k + 1 + ds.length from by omega]; exact hI'⟩
    unfold loopM
    rw [if_pos (hc k σ h hI), e1]
    dsimp only
    rw [e2]
    exact e3

theorem tsort_of {f : Ev} {σ : Sl} {h : MH} {ns : List Int} (e : f σ h = .ok (.lst (ns.map .int)) h) (hl : ns.length ≤ lim) : eCall (seqF tupG) (aCons (eCall (sortedF false) (aCons f aNil)) aNil) σ h = .ok (tupI (ns.mergeSort fun a b => decide (a ≤ b))) h := by
  refine call1_of (x := .lst ((ns.mergeSort fun a b => decide (a ≤ b)).map .int)) (h1 := h) (call1_of e ?_) rfl
  unfold sortedF
  show (if sortOk h (ns.map D.int) = true then mkL false (sortD h (ns.map D.int)) h else .bad) = _
  rw [if_pos (sortOk_ints h ns hl), sortD_ints]
  rfl

theorem sort_mem {ns : List Int} {i : Int} (h : i ∈ ns.mergeSort fun a b => decide (a ≤ b)) : i ∈ ns := (List.mergeSort_perm ns _).mem_iff.mp h

theorem sort_len (ns : List Int) : (ns.mergeSort fun a b => decide (a ≤ b)).length = ns.length := List.length_mergeSort ns

theorem put_dict {h : MH} {q : Nat} {kvs : DK} (e : h[q]? = some (.dict kvs)) (hl : kvs.length < lim) (ns : List Int) (v : D) : setAF (.ref q) (tupI ns) v h = some (h.set q (.dict (setD kvs (tupI ns) v))) := by
  unfold setAF
  have b : boxD h q = some kvs := by unfold boxD; rw [e]
  simp only [b]
  rw [if_pos (by rw [keyOk_tupI, decide_eq_true hl]; rfl)]

theorem len_box {h : MH} {q : Nat} {xs : List D} (e : h[q]? = some (.lst xs)) {f : Ev} {σ : Sl} (e2 : f σ h = .ok (.ref q) h) : eCall lenA (aCons f aNil) σ h = .ok (.int (xs.length : Nat)) h := by
  refine call1_of e2 ?_
  have b : boxD h q = none := by unfold boxD; rw [e]
  unfold lenA
  simp only [b]
  unfold lenF
  simp only [itemsOf, e]
theorem erase_map {α β : Type} (f : α → β) : ∀ (l : List α) (k : Nat), (l.map f).eraseIdx k = (l.eraseIdx k).map f
  | [], _ => rfl
  | _ :: _, 0 => rfl
  | x :: l, k + 1 => by
    show f x :: (l.map f).eraseIdx k = f x :: (l.eraseIdx k).map f
    rw [erase_map f l k]

theorem atI_nat {α : Type} {xs : List α} {r : Int} (h0 : 0 ≤ r) (h1 : r < xs.length) : ∃ x, atI xs r = some x ∧ x ∈ xs := by
  have q : ixN xs.length r = some r.toNat := by
    unfold ixN
    rw [if_pos h0, if_pos h1]
  refine ⟨xs[r.toNat], ?_, List.getElem_mem _⟩
  unfold atI
  rw [q]
  show xs[r.toNat]? = _
  rw [List.getElem?_eq_getElem]

theorem cut_to (xs : List D) {i : Int} (h0 : 0 ≤ i) (h1 : i ≤ xs.length) : cutD xs none (some i) = xs.take i.toNat := by
  unfold cutD
  have e : HT.sIx xs.length xs.length (some i) = i.toNat := by
    have := HT.sIx_nat xs.length xs.length i.toNat
    rw [show ((i.toNat : Nat) : Int) = i from by omega] at this
    omega
  rw [e, HT.sIx_none, List.drop_zero]
  rfl

theorem cut_from (xs : List D) {i : Int} (h0 : 0 ≤ i) : cutD xs (some i) none = xs.drop i.toNat := by
  unfold cutD
  have e : HT.sIx xs.length 0 (some i) = min i.toNat xs.length := by
    have := HT.sIx_nat xs.length 0 i.toNat
    rw [show ((i.toNat : Nat) : Int) = i from by omega] at this
    exact this
  rw [e, HT.sIx_none]
  by_cases h : i.toNat ≤ xs.length
  · rw [Nat.min_eq_left h, List.take_of_length_le (by rw [List.length_drop]; omega)]
  · rw [Nat.min_eq_right (by omega), List.drop_of_length_le (Nat.le_refl _), List.drop_of_length_le (by omega)]
    simp

theorem add_tup (mh : MH) (a b : List D) (h : a.length + b.length ≤ lim) : addO mh (.tup a) (.tup b) = some (.tup (a ++ b)) := by
  unfold addO
  dsimp only
  rw [if_pos h]

theorem add_lst (mh : MH) (a b : List D) (h : a.length + b.length ≤ lim) : addO mh (.lst a) (.lst b) = some (.lst (a ++ b)) := by
  show (if a.length + b.length ≤ lim then some (D.lst (a ++ b)) else none) = _
  rw [if_pos h]

theorem fzT {m k : Nat} {xs : List D} (h1 : xs.length ≤ 10) (h2 : ∀ x ∈ xs, fz m 10 k x = true) : fz m 10 (k + 1) (.tup xs) = true := by
  rw [fz_tup, Bool.and_eq_true, decide_eq_true_eq, List.all_eq_true]
  exact ⟨h1, h2⟩

theorem fzL {m k : Nat} {xs : List D} (h1 : xs.length ≤ 10) (h2 : ∀ x ∈ xs, fz m 10 k x = true) : fz m 10 (k + 1) (.lst xs) = true := by
  rw [fz_lst, Bool.and_eq_true, decide_eq_true_eq, List.all_eq_true]
  exact ⟨h1, h2⟩

theorem fz2 {k : Nat} {a b : D} (h1 : fz 30 10 k a = true) (h2 : fz 30 10 k b = true) : fz 30 10 (k + 1) (.tup [a, b]) = true := fzT (show 2 ≤ 10 by decide) fun x hx => by
  rcases List.mem_cons.mp hx with rfl | hx
  · exact h1
  · cases List.mem_singleton.mp hx; exact h2

theorem drawE {p : Nat} {σ : Sl} {h : MH} {f g : Ev} {m : Int} (k : PoolAt p h) (e1 : f σ h = .ok (.ref p) h) (e2 : g σ h = .ok (.int m) h) (h0 : 0 < m) (h1 : m < 1073741824) :
    ∃ (r : Int) (h' : MH), eCall drawF (aCons f (aCons g aNil)) σ h = .ok (.int r) h' ∧ 0 ≤ r ∧ r < m ∧ Px p h h' := by
  obtain ⟨r, h', e, x⟩ := draw_ok k h0 h1
  exact ⟨r, h', call2_of e1 e2 e, x⟩
/-- a loop told by what of its list has been gone through -/
theorem loop_pre {g : EvG} {b : EvS} {chk : MH → Bool} (I : List D → Sl → MH → Prop) (hc : ∀ p σ h, I p σ h → chk h = true) : ∀ (ds pre : List D) (σ : Sl) (h : MH),
    (∀ pre' d, d ∈ ds → ∀ σ h, I pre' σ h → (∃ post, pre ++ ds = pre' ++ d :: post) → ∃ σ1 h1, g d σ h = some (σ1, h1) ∧ ∃ σ2 h2, b σ1 h1 = .nx σ2 h2 ∧ I (pre' ++ [d]) σ2 h2) → I pre σ h → ∃ σ' h', loopM g b chk ds σ h = .nx σ' h' ∧ I (pre ++ ds) σ' h'
  | [], pre, σ, h, _, hI => ⟨σ, h, by unfold loopM; rw [if_pos (hc pre σ h hI)], by simpa using hI⟩
  | d :: ds, pre, σ, h, hd, hI => by
    obtain ⟨σ1, h1, e1, σ2, h2, e2, hI2⟩ := hd pre d (List.mem_cons_self ..) σ h hI ⟨ds, rfl⟩
    obtain ⟨σ', h', e3, hI'⟩ := loop_pre (g := g) (b := b) (chk := chk) I hc ds (pre ++ [d]) σ2 h2 (fun pre' x hx σ h hI ⟨post, e⟩ => hd pre' x (List.mem_cons_of_mem _ hx) σ h hI ⟨post, by rw [← e]; simp⟩) hI2
    refine ⟨σ', h', ?_, by simpa using hI'⟩
    unfold loopM
    rw [if_pos (hc pre σ h hI), e1]
    dsimp only
    rw [e2]
    exact e3
/-! ### the pool, with the later len -/
def poolB2 : EvS :=
  (sSeq (sAsg (eC (.int 0)) (gVar 2))
  (sSeq (sIf (eT (eBin ltO (eVar 1) (eCall lenA (aCons (eVar 0) aNil)))) (sAsg (eBin ixA (eVar 0) (eVar 1)) (gVar 2)) sSkip)
  (sSeq (sAsg (eCall max2F (aCons (eVar 2) (aCons (eBin subO (eNeg (eC (.int 1))) (eVar 2)) aNil))) (gVar 3))
  (sSeq (sAsg (eBin modO (eBin mulO (eBin addO (eBin addO (eBin addO (eBin modO (eVar 3) (eC (.int 2147483629))) (eBin mulO (eBin mulO (eC (.int 7919)) (eVar 1)) (eVar 1))) (eBin mulO (eC (.int 31)) (eVar 1))) (eC (.int 17))) (eC (.int 48271))) (eC (.int 2147483647))) (gVar 4))
  (sRet (eLst true (aCons (eBin mulO (eVar 3) (eCall intF (aCons (eBin geO (eVar 3) (eBin powO (eC (.int 10)) (eC (.int 18)))) aNil))) (aCons (eVar 4) aNil))))))))
def poolF2 : Fn := fnM 5 poolB2
theorem pool_ok2 {h : MH} {ns : List Int} {k : Nat} (hk : k < 1000) : ∃ h', poolF2 [.scr ns, .int (k : Nat)] h = .ok (.ref h.length) h' ∧ Ex h h' ∧ PoolAt h.length h' := by
  generalize hc : (if k < ns.length then ns.getD k 0 else 0) = c
  generalize hz : max c (-1 - c) = z
  have hz0 : 0 ≤ z := by omega
  generalize hx : ((z % 2147483629 + 7919 * (k : Int) * k + 31 * (k : Int) + 17) * 48271) % 2147483647 = x
  have x1 : 0 ≤ x := by rw [← hx]; exact Int.emod_nonneg _ (by decide)
  have x2 : x < 2147483647 := by rw [← hx]; exact Int.emod_lt_of_pos _ (by decide)
  generalize hy : z * (if decide (10 ^ 18 ≤ z) = true then 1 else 0) = y
  have y1 : 0 ≤ y := by
    rw [← hy]
    split
    · omega
    · simp
  refine ⟨h ++ [.lst [.int y, .int x]], fn_rt ?_, Ex.one _ _, ⟨y, x, by simp, y1, x1, x2⟩⟩
  have hk64 : small64 (k : Int) = true := by
    unfold small64
    simp only [Bool.and_eq_true, decide_eq_true_eq]
    omega
  refine seq_nx (σ' := [some (.scr ns), some (.int (k : Nat)), some (.int 0), none, none]) (h' := h) (asg_of rfl rfl) ?_
  refine seq_nx (σ' := [some (.scr ns), some (.int (k : Nat)), some (.int c), none, none]) (h' := h) ?_ ?_
  · by_cases hl : k < ns.length
    · refine if_t (h' := h) (eT_of (bin_of (x := .int (k : Nat)) (y := .int (ns.length : Nat)) (h1 := h) rfl (call1_of (x := .scr ns) rfl ?_) ?_)) (asg_of (d := .int c) (h' := h) (bin_of (x := .scr ns) (y := .int (k : Nat)) rfl rfl ?_) rfl)
      · show Res.ok (D.int ((ns.map D.int).length : Nat)) h = _
        rw [List.length_map]
      · show some (D.bl (decide ((k : Int) < (ns.length : Nat)))) = _
        rw [decide_eq_true (by omega)]
      · show atI (ns.map D.int) (k : Nat) = _
        have q : ixN (ns.map D.int).length (k : Nat) = some k := by
          unfold ixN
          rw [if_pos (by omega), List.length_map, if_pos (by omega)]
          simp
        unfold atI
        rw [q]
        show (ns.map D.int)[k]? = _
        rw [List.getElem?_map, List.getElem?_eq_getElem hl]
        rw [if_pos hl, List.getD_eq_getElem?_getD, List.getElem?_eq_getElem hl] at hc
        show some (D.int _) = _
        rw [← hc]
        rfl
    · rw [if_neg hl] at hc
      refine if_f (h' := h) (eT_of (bin_of (x := .int (k : Nat)) (y := .int (ns.length : Nat)) (h1 := h) rfl (call1_of (x := .scr ns) rfl ?_) ?_)) (by rw [← hc]; rfl)
      · show Res.ok (D.int ((ns.map D.int).length : Nat)) h = _
        rw [List.length_map]
      · show some (D.bl (decide ((k : Int) < (ns.length : Nat)))) = _
        rw [decide_eq_false (by omega)]
  · refine seq_nx (σ' := [some (.scr ns), some (.int (k : Nat)), some (.int c), some (.int z), none]) (h' := h) (asg_of (d := .int z) (h' := h) (call2_of (x := .int c) (y := .int (-1 - c)) rfl rfl (by rw [← hz]; rfl)) rfl) ?_
    refine seq_nx (σ' := [some (.scr ns), some (.int (k : Nat)), some (.int c), some (.int z), some (.int x)]) (h' := h) (asg_of (d := .int x) (h' := h) (bin_of (x := .int ((z % 2147483629 + 7919 * (k : Int) * k + 31 * (k : Int) + 17) * 48271)) (y := .int 2147483647) (h1 := h) (bin_of (x := .int (z % 2147483629 + 7919 * (k : Int) * k + 31 * (k : Int) + 17)) (y := .int 48271) (h1 := h) (bin_of (x := .int (z % 2147483629 + 7919 * (k : Int) * k + 31 * (k : Int))) (y := .int 17) (h1 := h) (bin_of (x := .int (z % 2147483629 + 7919 * (k : Int) * k)) (y := .int (31 * (k : Int))) (h1 := h) (bin_of (x := .int (z % 2147483629)) (y := .int (7919 * (k : Int) * k)) (h1 := h) (bin_of rfl rfl rfl) (bin_of (x := .int (7919 * (k : Int))) (y := .int (k : Int)) (h1 := h) (bin_of (x := .int 7919) (y := .int (k : Int)) (h1 := h) rfl rfl ?_) rfl ?_) rfl) (bin_of (x := .int 31) (y := .int (k : Int)) (h1 := h) rfl rfl ?_) rfl) rfl rfl) rfl ?_) rfl ?_) rfl) ?_
    · exact mul_int _ (by rw [hk64, Bool.or_true])
    · exact mul_int _ (by rw [hk64, Bool.or_true])
    · exact mul_int _ (by rw [hk64, Bool.or_true])
    · exact mul_int _ (by rw [show small64 48271 = true from by decide, Bool.or_true])
    · show (if (0 : Int) < 2147483647 then some (D.int _) else none) = _
      rw [hx]; rfl
    · refine ret_of ((lst_of (ds := [.int y, .int x]) (h1 := h) (acons_of (h1 := h) (x := .int y) (bin_of (x := .int z) (y := .int (if decide (10 ^ 18 ≤ z) = true then 1 else 0)) (h1 := h) rfl (call1_of (x := .bl (decide (10 ^ 18 ≤ z))) (h1 := h) (bin_of (x := .int z) (y := .int (10 ^ 18)) (h1 := h) rfl (bin_of rfl rfl rfl) rfl) rfl) ?_) (acons_of (h1 := h) (x := .int x) rfl rfl)) (show 2 ≤ lim by decide)).trans rfl)
      have : small64 (if decide ((10 : Int) ^ 18 ≤ z) = true then 1 else 0) = true := by split <;> decide
      exact (mul_int _ (by rw [this, Bool.or_true])).trans (by rw [hy])
end MI

/-! MI, part YA: plain facts: loops by steps, chains of three, texts, webs as the laws draw them. -/
namespace MI
open PySem PySem.Spec L2
section
variable {g : EvG} {b : EvS} {chk : MH → Bool} {ds : List D} {d : D} {σ σ1 σ2 : Sl} {h h1 h2 : MH}
theorem loop_end (hc : chk h = true) : loopM g b chk [] σ h = .nx σ h := by unfold loopM; rw [if_pos hc]
theorem loop_nx {r : Fl} (hc : chk h = true) (e1 : g d σ h = some (σ1, h1)) (e2 : b σ1 h1 = .nx σ2 h2) (e3 : loopM g b chk ds σ2 h2 = r) : loopM g b chk (d :: ds) σ h = r := by
  unfold loopM
  rw [if_pos hc, e1]
  dsimp only
  rw [e2]
  exact e3
theorem loop_rt {v : D} (hc : chk h = true) (e1 : g d σ h = some (σ1, h1)) (e2 : b σ1 h1 = .rt v h2) : loopM g b chk (d :: ds) σ h = .rt v h2 := by
  unfold loopM
  rw [if_pos hc, e1]
  dsimp only
  rw [e2]
theorem loop_ex {x : EXC} (hc : chk h = true) (e1 : g d σ h = some (σ1, h1)) (e2 : b σ1 h1 = .ex x σ2 h2) : loopM g b chk (d :: ds) σ h = .ex x σ2 h2 := by
  unfold loopM
  rw [if_pos hc, e1]
  dsimp only
  rw [e2]
end
section
variable {f g k m : Ev} {o o' o2 : Op2} {σ : Sl} {h : MH} {x y z w : D} {p q s : Bool}
theorem chain3_of (e : f σ h = .ok x h) (e2 : g σ h = .ok y h) (e3 : o h x y = some (.bl p)) (e4 : p = true → k σ h = .ok z h ∧ o' h y z = some (.bl q)) (e5 : p = true → q = true → m σ h = .ok w h ∧ o2 h z w = some (.bl s)) :
    eChain3 o o' o2 f g k m σ h = .ok (.bl (p && (q && s))) h := by
  unfold eChain3
  rw [e]
  show (g σ h).bind _ = _
  rw [e2]
  simp only [Res.bind]
  rw [e3]
  cases p with
  | false => rfl
  | true =>
    obtain ⟨a, b⟩ := e4 rfl
    dsimp only
    rw [a]
    dsimp only
    rw [b]
    cases q with
    | false => rfl
    | true =>
      obtain ⟨c, d⟩ := e5 rfl rfl
      dsimp only
      rw [c]
      dsimp only
      rw [d]
      rfl
end
theorem fn_ex {m : Nat} {a : EvS} {ds : List D} {x : EXC} {σ : Sl} {h h1 : MH} (e : a (startM m ds) h = .ex x σ h1) : fnM m a ds h = .exc x h1 := by unfold fnM; rw [e]; rfl
theorem fn_nx {m : Nat} {a : EvS} {ds : List D} {σ : Sl} {h h1 : MH} (e : a (startM m ds) h = .nx σ h1) : fnM m a ds h = .ok .non h1 := by unfold fnM; rw [e]; rfl
theorem seq_ex {a b : EvS} {x : EXC} {σ σ' : Sl} {h h' : MH} (e : a σ h = .ex x σ' h') : sSeq a b σ h = .ex x σ' h' := by unfold sSeq; rw [e]; rfl
theorem raise_of {c : Nat} {ix : List Nat} {as : EvL} {ds : List D} {σ : Sl} {h h1 : MH} (e : as σ h = .ok ds h1) (hl : ds.length = ix.length) (hz : ds.length ≤ 1000) : sRaise c ix as σ h = .ex (c, (ix.zip ds).reverse) σ h1 := by
  unfold sRaise
  rw [e]
  exact if_pos ⟨hl, hz⟩
/-- an if whose branch raises -/
theorem if_ex {t : EvB} {a b : EvS} {x : EXC} {σ σ' : Sl} {h h1 : MH} (e : t σ h = .ok true h) (e2 : a σ h = .ex x σ' h1) : sSeq (sIf t a sSkip) b σ h = .ex x σ' h1 := seq_ex (if_t e e2)
/-- two pairs of whole numbers -/
def lt2 (a b c d : Int) : Bool := if a = c then decide (b < d) else decide (a < c)
theorem lt_pair (mh : MH) (a b c d : Int) : ltO mh (.tup [.int a, .int b]) (.tup [.int c, .int d]) = some (.bl (lt2 a b c d)) := by
  have e := lt_tups mh [a, b] [c, d]
  rw [show tupI [a, b] = .tup [.int a, .int b] from rfl, show tupI [c, d] = .tup [.int c, .int d] from rfl] at e
  rw [e, HT.lexLt_cons, HT.lexLt_cons, HT.lexLt_nil_nil]
  unfold lt2
  congr 2
  by_cases h : a = c
  · rw [if_pos h, if_pos h]
    by_cases h2 : b = d
    · rw [if_pos h2, h2, decide_eq_false (by omega)]
    · rw [if_neg h2]
  · rw [if_neg h, if_neg h]
theorem le_pair (mh : MH) (a b c d : Int) : leO mh (.tup [.int a, .int b]) (.tup [.int c, .int d]) = some (.bl (!lt2 c d a b)) := by
  show some (D.bl (leI [a, b] [c, d])) = _
  congr 2
  unfold leI lt2
  show Ob.lexAt _ _ _ 0 2 = _
  rw [Ob.lexAt_succ, Ob.lexAt_succ, Ob.lexAt_zero]
  show (if decide (a = c) = true then (if decide (b = d) = true then decide (2 ≤ 2) else decide (b ≤ d)) else decide (a ≤ c)) = _
  by_cases h : a = c
  · rw [if_pos (decide_eq_true h), if_pos h.symm]
    by_cases h2 : b = d
    · rw [if_pos (decide_eq_true h2)]
      simp only [Nat.le_refl, decide_true]
      rw [decide_eq_false (by omega)]
      rfl
    · rw [if_neg (by simpa using h2), Bool.eq_iff_iff]
      simp
  · rw [if_neg (by simpa using h), if_neg (fun z => h z.symm), Bool.eq_iff_iff]
    simp
end MI

/-! MI, part YB: webs as the laws draw them; texts of data whose levels have each its own bound. -/
namespace MI
open PySem PySem.Spec L2
theorem rangeD_succ (lo : Int) (m : Nat) : rangeD lo (m + 1) = .int lo :: rangeD (lo + 1) m := by
  unfold rangeD
  rw [List.range_succ_eq_map, List.map_cons, List.map_map]
  congr 1
  · simp
  · refine List.map_congr_left fun j _ => ?_
    show D.int (lo + ((j + 1 : Nat) : Int)) = D.int (lo + 1 + (j : Nat))
    congr 1
    omega
/-- a loop over a range, told by how far it went -/
theorem loop_rng {g : EvG} {b : EvS} {chk : MH → Bool} : ∀ (m : Nat) (lo : Int) (I : Nat → Sl → MH → Prop) (σ : Sl) (h : MH), (∀ k σ h, I k σ h → chk h = true) →
    (∀ k, k < m → ∀ σ h, I k σ h → ∃ σ1 h1, g (.int (lo + (k : Nat))) σ h = some (σ1, h1) ∧ ∃ σ2 h2, b σ1 h1 = .nx σ2 h2 ∧ I (k + 1) σ2 h2) → I 0 σ h → ∃ σ' h', loopM g b chk (rangeD lo m) σ h = .nx σ' h' ∧ I m σ' h'
  | 0, lo, I, σ, h, hc, _, hI => ⟨σ, h, loop_end (hc 0 σ h hI), hI⟩
  | m + 1, lo, I, σ, h, hc, hs, hI => by
    obtain ⟨σ1, h1, e1, σ2, h2, e2, hI2⟩ := hs 0 (by omega) σ h hI
    obtain ⟨σ', h', e3, hI'⟩ := loop_rng (g := g) (b := b) (chk := chk) m (lo + 1) (fun k => I (k + 1)) σ2 h2 (fun k σ h z => hc _ _ _ z) (fun k hk σ h z => by
      have := hs (k + 1) (by omega) σ h z
      rw [show lo + 1 + ((k : Nat) : Int) = lo + ((k + 1 : Nat) : Int) from by omega]
      exact this) hI2
    refine ⟨σ', h', ?_, hI'⟩
    rw [rangeD_succ]
    rw [show lo + ((0 : Nat) : Int) = lo from by omega] at e1
    exact loop_nx (hc 0 σ h hI) e1 e2 e3
/-! ### levels with bounds of their own -/
def fzv (m : Nat) : List Nat → D → Bool
  | _, .non => true
  | _, .bl _ => true
  | _, .int i => decide (i.natAbs < 10 ^ m)
  | _, .str x => strFine m x
  | L :: r, .tup xs => decide (xs.length ≤ L) && xs.all (fzv m r)
  | L :: r, .lst xs => decide (xs.length ≤ L) && xs.all (fzv m r)
  | _, _ => false
def bndv (m : Nat) : List Nat → Nat
  | [] => m + 2
  | L :: r => (L + 1) * (bndv m r + 2) + 3
theorem fzv_tup {m L : Nat} {r : List Nat} {xs : List D} : fzv m (L :: r) (.tup xs) = (decide (xs.length ≤ L) && xs.all (fzv m r)) := by rw [fzv]
theorem fzv_lst {m L : Nat} {r : List Nat} {xs : List D} : fzv m (L :: r) (.lst xs) = (decide (xs.length ≤ L) && xs.all (fzv m r)) := by rw [fzv]
theorem fzv_int {m : Nat} {r : List Nat} {i : Int} : fzv m r (.int i) = decide (i.natAbs < 10 ^ m) := by cases r <;> rw [fzv]
theorem fzv_bl {m : Nat} {r : List Nat} {b : Bool} : fzv m r (.bl b) = true := by cases r <;> rw [fzv]
theorem fzv_non {m : Nat} {r : List Nat} : fzv m r .non = true := by cases r <;> rw [fzv]
theorem fzv_str {m : Nat} {r : List Nat} {x : Str} : fzv m r (.str x) = strFine m x := by cases r <;> rw [fzv]
theorem fzv_ref {m n : Nat} {r : List Nat} : fzv m r (.ref n) = false := by cases r <;> rw [fzv] <;> simp
theorem fzv_scr {m : Nat} {r : List Nat} {ns : List Int} : fzv m r (.scr ns) = false := by cases r <;> rw [fzv] <;> simp
theorem fzv_tup0 {m : Nat} {xs : List D} : fzv m [] (.tup xs) = false := by rw [fzv] <;> simp
theorem fzv_lst0 {m : Nat} {xs : List D} : fzv m [] (.lst xs) = false := by rw [fzv] <;> simp
theorem fzv_fz {m B : Nat} : ∀ {r : List Nat} {d : D}, (∀ L ∈ r, L ≤ B) → fzv m r d = true → fz m B r.length d = true
  | _, .non, _, _ => fz_non
  | _, .bl _, _, _ => fz_bl
  | _, .int i, _, h => by rw [fzv_int] at h; rw [fz_int]; exact h
  | _, .str x, _, h => by rw [fzv_str] at h; rw [fz_str]; exact h
  | [], .tup xs, _, h => by rw [fzv_tup0] at h; cases h
  | [], .lst xs, _, h => by rw [fzv_lst0] at h; cases h
  | L :: r, .tup xs, hB, h => by
    rw [fzv_tup, Bool.and_eq_true, decide_eq_true_eq, List.all_eq_true] at h
    rw [List.length_cons, fz_tup, Bool.and_eq_true, decide_eq_true_eq, List.all_eq_true]
    exact ⟨Nat.le_trans h.1 (hB L (List.mem_cons_self ..)), fun x hx => fzv_fz (fun L hL => hB L (List.mem_cons_of_mem _ hL)) (h.2 x hx)⟩
  | L :: r, .lst xs, hB, h => by
    rw [fzv_lst, Bool.and_eq_true, decide_eq_true_eq, List.all_eq_true] at h
    rw [List.length_cons, fz_lst, Bool.and_eq_true, decide_eq_true_eq, List.all_eq_true]
    exact ⟨Nat.le_trans h.1 (hB L (List.mem_cons_self ..)), fun x hx => fzv_fz (fun L hL => hB L (List.mem_cons_of_mem _ hL)) (h.2 x hx)⟩
  | _, .ref n, _, h => by rw [fzv_ref] at h; cases h
  | _, .scr n, _, h => by rw [fzv_scr] at h; cases h
theorem bndv_ge (m : Nat) : ∀ r : List Nat, m + 2 ≤ bndv m r
  | [] => Nat.le_refl _
  | L :: r => by
    have := bndv_ge m r
    show _ ≤ (L + 1) * (bndv m r + 2) + 3
    rw [Nat.succ_mul]
    omega
theorem shown_okv {m : Nat} (hm0 : 3 ≤ m) : ∀ {r : List Nat} {d : D}, fzv m r d = true → TOk (bndv m r) (pyD d).shown
  | r, .non, _ => by rw [pyD, PyData.shown]; exact (tok_of (s := "None") (b := 4) (by decide)).mono (Nat.le_trans (by omega) (bndv_ge m r))
  | r, .bl b, _ => by
    rw [pyD, PyData.shown]
    cases b
    · exact (tok_of (s := "False") (b := 5) (by decide)).mono (Nat.le_trans (by omega) (bndv_ge m r))
    · exact (tok_of (s := "True") (b := 5) (by decide)).mono (Nat.le_trans (by omega) (bndv_ge m r))
  | r, .int i, h => by
    rw [fzv_int] at h
    exact (shown_ok (m := m) (L := 0) (k := 0) hm0 (by rw [fz_int]; exact h)).mono (bndv_ge m r)
  | r, .str x, h => by
    rw [fzv_str] at h
    exact (shown_ok (m := m) (L := 0) (k := 0) hm0 (by rw [fz_str]; exact h)).mono (bndv_ge m r)
  | [], .tup xs, h => by rw [fzv_tup0] at h; cases h
  | [], .lst xs, h => by rw [fzv_lst0] at h; cases h
  | L :: r, .tup xs, h => by
    rw [fzv_tup, Bool.and_eq_true, decide_eq_true_eq, List.all_eq_true] at h
    have ih : ∀ t ∈ (xs.map pyD).map PyData.shown, TOk (bndv m r) t := fun t ht => by
      obtain ⟨p, hp, rfl⟩ := List.mem_map.mp ht
      obtain ⟨x, hx, rfl⟩ := List.mem_map.mp hp
      exact shown_okv hm0 (h.2 x hx)
    rw [pyD, pyDs_map, PyData.shown, shownAll_map]
    unfold tupleText
    refine (((tok_of (s := "(") (b := 1) (by decide)).app (join_ok ih)).app (tok_of (b := 2) (by split <;> decide))).mono ?_
    simp only [List.length_map]
    have := Nat.mul_le_mul_right (bndv m r + 2) h.1
    rw [show bndv m (L :: r) = (L + 1) * (bndv m r + 2) + 3 from rfl, Nat.succ_mul]
    omega
  | L :: r, .lst xs, h => by
    rw [fzv_lst, Bool.and_eq_true, decide_eq_true_eq, List.all_eq_true] at h
    have ih : ∀ t ∈ (xs.map pyD).map PyData.shown, TOk (bndv m r) t := fun t ht => by
      obtain ⟨p, hp, rfl⟩ := List.mem_map.mp ht
      obtain ⟨x, hx, rfl⟩ := List.mem_map.mp hp
      exact shown_okv hm0 (h.2 x hx)
    rw [pyD, pyDs_map, PyData.shown, shownAll_map]
    unfold listText
    refine ((from_ok (tok_of (s := "[") (b := 1) (by decide)) ih).app (tok_of (s := "]") (b := 1) (by decide))).mono ?_
    simp only [List.length_map]
    have := Nat.mul_le_mul_right (bndv m r + 2) h.1
    rw [show bndv m (L :: r) = (L + 1) * (bndv m r + 2) + 3 from rfl, Nat.succ_mul]
    omega
  | _, .ref n, h => by rw [fzv_ref] at h; cases h
  | _, .scr n, h => by rw [fzv_scr] at h; cases h
theorem repr_fzv {m : Nat} {r : List Nat} {d : D} (h : fzv m r d = true) (hm : m ≤ 40) (hm0 : 3 ≤ m) (hk : r.length ≤ 16) (hb : bndv m r ≤ lim) (mh : MH) : reprF [d] mh = .ok (.str (pyD d).shown) mh ∧ PyData.strOk (pyD d).shown = true := by
  obtain ⟨h1, h2⟩ := shown_okv hm0 h
  have hf : fz m (r.foldr max 0) r.length d = true := fzv_fz (fun L hL => by
    clear h h1 h2 hk hb
    induction r with
    | nil => cases hL
    | cons x r ih =>
      rcases List.mem_cons.mp hL with rfl | q
      · exact Nat.le_max_left _ _
      · exact Nat.le_trans (ih q) (Nat.le_max_right _ _)) h
  refine ⟨?_, h2⟩
  unfold reprF
  simp only [fz_toPy hf mh]
  rw [if_pos]
  simp only [Bool.and_eq_true, decide_eq_true_eq, Bool.not_eq_true']
  exact ⟨⟨⟨showable_ok hm hf, PyData.hasDict_of_canLay _ (fz_py hf).2.1⟩, Nat.le_trans (fz_py hf).2.2 hk⟩, Nat.le_trans h1 hb⟩
end MI

/-! MI, part YC: webs as the laws draw them. -/
namespace MI
open PySem PySem.Spec L2
theorem drwF {p : Nat} {σ : Sl} {h : MH} {f g : Ev} {m : Int} (k : PoolAt p h) (e1 : f σ h = .ok (.ref p) h) (e2 : g σ h = .ok (.int m) h) (h0 : 0 < m) (h1 : m < 1073741824) :
    ∃ (r : Int) (h' : MH), eCall drawF (aCons f (aCons g aNil)) σ h = .ok (.int r) h' ∧ 0 ≤ r ∧ r < m ∧ Px p h h' := by
  obtain ⟨r, h', e, x⟩ := draw_ok k h0 h1
  exact ⟨r, h', call2_of e1 e2 e, x⟩
def heftB : EvS :=
  (sSeq (sAsg (eLst false (aCons (eC (.int 0)) (aCons (eC (.int 1)) (aCons (eC (.int 2)) (aCons (eC (.int 3)) (aCons (eC (.int 5)) (aCons (eC (.int 7)) (aCons (eNeg (eC (.int 1))) (aCons (eNeg (eC (.int 4))) (aCons (eBin powO (eC (.int 10)) (eC (.int 6))) (aCons (eBin subO (eC (.int 0)) (eBin powO (eC (.int 10)) (eC (.int 6)))) (aCons (eCall drawF (aCons (eVar 0) (aCons (eC (.int 30)) aNil))) (aCons (eCall drawF (aCons (eVar 0) (aCons (eC (.int 9)) aNil))) aNil))))))))))))) (gVar 1))
  (sRet (eBin ixA (eVar 1) (eCall drawF (aCons (eVar 0) (aCons (eC (.int 12)) aNil))))))
def heftF : Fn := fnM 2 heftB
theorem heft_ok {p : Nat} {h : MH} (k : PoolAt p h) : ∃ (w : Int) (h' : MH), heftF [.ref p] h = .ok (.int w) h' ∧ -1000000 ≤ w ∧ w ≤ 1000000 ∧ Px p h h' := by
  obtain ⟨a, h1, e1, a0, a1, y1⟩ := drwF (σ := [some (.ref p), none]) (f := eVar 0) (g := eC (.int 30)) (m := 30) k rfl rfl (by omega) (by omega)
  obtain ⟨b, h2, e2, b0, b1, y2⟩ := drwF (σ := [some (.ref p), none]) (f := eVar 0) (g := eC (.int 9)) (m := 9) y1.1 rfl rfl (by omega) (by omega)
  obtain ⟨j, h3, e3, j0, j1, y3⟩ := drwF (σ := [some (.ref p), some (.lst ([0, 1, 2, 3, 5, 7, -1, -4, 1000000, -1000000, a, b].map D.int))]) (f := eVar 0) (g := eC (.int 12)) (m := 12) y2.1 rfl rfl (by omega) (by omega)
  obtain ⟨x, ex, hx⟩ := atI_nat (xs := [0, 1, 2, 3, 5, 7, -1, -4, 1000000, -1000000, a, b].map D.int) j0 (by exact j1)
  obtain ⟨w, hw, rfl⟩ := List.mem_map.mp hx
  refine ⟨w, h3, fn_rt ?_, ?_, ?_, (y1.trans y2).trans y3⟩
  · refine seq_nx (σ' := [some (.ref p), some (.lst ([0, 1, 2, 3, 5, 7, -1, -4, 1000000, -1000000, a, b].map D.int))]) (h' := h2) (asg_of (d := .lst ([0, 1, 2, 3, 5, 7, -1, -4, 1000000, -1000000, a, b].map D.int)) (h' := h2) ?_ rfl) (ret_of (bin_of (x := .lst ([0, 1, 2, 3, 5, 7, -1, -4, 1000000, -1000000, a, b].map D.int)) (y := .int j) (h1 := h2) rfl e3 ex))
    refine lst_of (b := false) (h1 := h2) (ds := [0, 1, 2, 3, 5, 7, -1, -4, 1000000, -1000000, a, b].map D.int) ?_ (show 12 ≤ lim by decide)
    refine acons_of (h1 := h) rfl (acons_of (h1 := h) rfl (acons_of (h1 := h) rfl (acons_of (h1 := h) rfl (acons_of (h1 := h) rfl (acons_of (h1 := h) rfl (acons_of (h1 := h) (x := .int (-1)) rfl (acons_of (h1 := h) (x := .int (-4)) rfl (acons_of (h1 := h) (x := .int 1000000) rfl (acons_of (h1 := h) (x := .int (-1000000)) rfl (acons_of e1 (acons_of e2 rfl)))))))))))
  · simp only [List.mem_cons, List.not_mem_nil, or_false] at hw
    omega
  · simp only [List.mem_cons, List.not_mem_nil, or_false] at hw
    omega
def tri (e : Int × Int × Int) : List Int := [e.1, e.2.1, e.2.2]
/-- ties of n things, rising, all ahead of (i, j) -/
structure TsAt (n i j : Int) (ts : List (Int × Int × Int)) : Prop where
  ok : ∀ e ∈ ts, 0 ≤ e.1 ∧ e.1 < e.2.1 ∧ e.2.1 < n ∧ -1000000 ≤ e.2.2 ∧ e.2.2 ≤ 1000000
  up : ts.Pairwise fun x y => lt2 x.1 x.2.1 y.1 y.2.1 = true
  lt : ∀ e ∈ ts, lt2 e.1 e.2.1 i j = true
  len : ts.length ≤ 60
theorem lt2_iff {a b c d : Int} : lt2 a b c d = true ↔ a < c ∨ (a = c ∧ b < d) := by
  unfold lt2
  split <;> simp <;> omega
theorem lt2_trans {a b c d e f : Int} (h : lt2 a b c d = true) (k : lt2 c d e f = true) : lt2 a b e f = true := by
  rw [lt2_iff] at *
  omega
theorem TsAt.more {n i j i' j' : Int} {ts : List (Int × Int × Int)} (h : TsAt n i j ts) (k : i < i' ∨ (i = i' ∧ j ≤ j')) : TsAt n i' j' ts := ⟨h.ok, h.up, fun e he => by
  have := h.lt e he
  rw [lt2_iff] at *
  omega, h.len⟩
theorem TsAt.add {n i j w : Int} {ts : List (Int × Int × Int)} (h : TsAt n i j ts) (i0 : 0 ≤ i) (ij : i < j) (jn : j < n) (w0 : -1000000 ≤ w) (w1 : w ≤ 1000000) (hl : ts.length < 60) : TsAt n i (j + 1) (ts ++ [(i, j, w)]) := by
  refine ⟨fun e he => ?_, ?_, fun e he => ?_, by simp; omega⟩
  · rcases List.mem_append.mp he with z | z
    · exact h.ok e z
    · cases List.mem_singleton.mp z
      exact ⟨i0, ij, jn, w0, w1⟩
  · refine List.pairwise_append.mpr ⟨h.up, List.pairwise_singleton _ _, fun x hx y hy => ?_⟩
    cases List.mem_singleton.mp hy
    exact h.lt x hx
  · rcases List.mem_append.mp he with z | z
    · have := h.lt e z
      rw [lt2_iff] at *
      omega
    · cases List.mem_singleton.mp z
      show lt2 i j i (j + 1) = true
      rw [lt2_iff]
      omega
def netIn : EvS := (sIf (bAnd (eT (eBin ltO (eCall drawF (aCons (eVar 0) (aCons (eC (.int 5)) aNil))) (eVar 3))) (eT (eBin ltO (eCall lenA (aCons (eVar 4) aNil)) (eC (.int 60))))) (sDrop (eMeth "list" appendF (eVar 4) (aCons (eTup (aCons (eVar 5) (aCons (eVar 6) (aCons (eCall heftF (aCons (eVar 0) aNil)) aNil)))) aNil))) sSkip)
def netB : EvS :=
  (sSeq (sAsg (eCall drawF (aCons (eVar 0) (aCons (eBin addO (eVar 1) (eC (.int 1))) aNil))) (gVar 2))
  (sSeq (sAsg (eBin addO (eC (.int 1)) (eCall drawF (aCons (eVar 0) (aCons (eC (.int 4)) aNil)))) (gVar 3))
  (sSeq (sAsg (eLst true aNil) (gVar 4))
  (sSeq (sFor (iRange (aCons (eVar 2) aNil)) (gVar 5) (sFor (iRange (aCons (eBin addO (eVar 5) (eC (.int 1))) (aCons (eVar 2) aNil))) (gVar 6) netIn))
  (sRet (eTup (aCons (eVar 2) (aCons (eCall (seqF tupG) (aCons (eVar 4) aNil)) aNil))))))))
def netF : Fn := fnM 7 netB
theorem bAnd_nx {σ : Sl} {h h1 : MH} {t u : EvB} {b : Bool} {r : Res Bool} (e : t σ h = .ok b h1) (e2 : b = true → u σ h1 = r) (e3 : b = false → .ok false h1 = r) : bAnd t u σ h = r := by
  unfold bAnd
  rw [e]
  cases b with
  | true => exact e2 rfl
  | false => exact e3 rfl
structure NI (p q : Nat) (A : D) (n dn i j : Int) (h0 : MH) (σ : Sl) (h : MH) : Prop where
  sh : ∃ x6, σ = [some (.ref p), some A, some (.int n), some (.int dn), some (.ref q), some (.int i), x6]
  pool : PoolAt p h
  box : ∃ ts, h[q]? = some (.lst ((ts.map tri).map tupI)) ∧ TsAt n i j ts
  fr : ∀ m, m ≠ p → m ≠ q → ∀ o, h0[m]? = some o → h[m]? = some o
theorem app_of {σ : Sl} {h h1 : MH} {q : Nat} {xs : List D} {f g : Ev} {d : D} (e : f σ h = .ok (.ref q) h) (e0 : ∃ ys, h[q]? = some (.lst ys)) (e1 : g σ h = .ok d h1) (e2 : h1[q]? = some (.lst xs)) (hl : xs.length < 1000) :
    eMeth "list" appendF f (aCons g aNil) σ h = .ok .non (h1.set q (.lst (xs ++ [d]))) := by
  obtain ⟨ys, e0⟩ := e0
  unfold eMeth
  rw [e]
  show (if tyS h (.ref q) = some "list" then _ else _) = _
  have ty : tyS h (.ref q) = some "list" := by
    unfold tyS
    dsimp only
    rw [e0]
  rw [if_pos ty, acons_of e1 rfl]
  show appendF [.ref q, d] h1 = _
  unfold appendF
  have b : boxL h1 q = some xs := by unfold boxL; rw [e2]
  simp only [b]
  rw [if_pos (by unfold lim; omega)]
theorem pool_setN {p n : Nat} {h : MH} {o : O} (k : PoolAt p h) (hn : n ≠ p) : PoolAt p (h.set n o) := by
  obtain ⟨u, v, w, r⟩ := k
  exact ⟨u, v, by rw [set_ne (fun e => hn e.symm)]; exact w, r⟩
theorem net_in {p q : Nat} {A : D} {n dn i j : Int} {h0 : MH} {σ : Sl} {h : MH} (hq : q ≠ p) (i0 : 0 ≤ i) (ij : i < j) (jn : j < n) (I : NI p q A n dn i j h0 σ h) :
    ∃ σ1 h1, gVar 6 (.int j) σ h = some (σ1, h1) ∧ ∃ σ2 h2, netIn σ1 h1 = .nx σ2 h2 ∧ NI p q A n dn i (j + 1) h0 σ2 h2 := by
  obtain ⟨⟨x6, rfl⟩, P, ⟨ts, eb, T⟩, fr⟩ := I
  refine ⟨_, _, rfl, ?_⟩
  show ∃ σ2 h2, netIn [some (.ref p), some A, some (.int n), some (.int dn), some (.ref q), some (.int i), some (.int j)] h = .nx σ2 h2 ∧ _
  obtain ⟨r, h1, e1, _, _, y1⟩ := drwF (σ := [some (.ref p), some A, some (.int n), some (.int dn), some (.ref q), some (.int i), some (.int j)]) (f := eVar 0) (g := eC (.int 5)) (m := 5) P rfl rfl (by omega) (by omega)
  have eb1 := y1.2 q hq _ eb
  have el := len_box eb1 (f := eVar 4) (σ := [some (.ref p), some A, some (.int n), some (.int dn), some (.ref q), some (.int i), some (.int j)]) rfl
  rw [List.length_map, List.length_map] at el
  have cond : bAnd (eT (eBin ltO (eCall drawF (aCons (eVar 0) (aCons (eC (.int 5)) aNil))) (eVar 3))) (eT (eBin ltO (eCall lenA (aCons (eVar 4) aNil)) (eC (.int 60)))) [some (.ref p), some A, some (.int n), some (.int dn), some (.ref q), some (.int i), some (.int j)] h = .ok (decide (r < dn) && decide (ts.length < 60)) h1 := by
    refine bAnd_nx (b := decide (r < dn)) (eT_of (bin_of (x := .int r) (y := .int dn) (h1 := h1) e1 rfl rfl)) (fun z => ?_) fun z => by rw [z]; rfl
    rw [z, Bool.true_and]
    refine eT_of (bin_of (x := .int (ts.length : Nat)) (y := .int 60) (h1 := h1) el rfl ?_)
    show some (D.bl (decide (((ts.length : Nat) : Int) < 60))) = _
    congr 2
    rw [Bool.eq_iff_iff]
    simp
    omega
  cases hc : (decide (r < dn) && decide (ts.length < 60)) with
  | false => exact ⟨_, h1, if_f (cond.trans (by rw [hc])) rfl, ⟨_, rfl⟩, y1.1, ⟨ts, eb1, T.more (.inr ⟨rfl, by omega⟩)⟩, fun m hm hmq o e => y1.2 m hm o (fr m hm hmq o e)⟩
  | true =>
    have hl : ts.length < 60 := by simpa using (Bool.and_eq_true_iff.mp hc).2
    obtain ⟨w, h2, e2, w0, w1, y2⟩ := heft_ok y1.1
    have eb2 := y2.2 q hq _ eb1
    refine ⟨_, _, if_t (cond.trans (by rw [hc])) (drop_of (app_of (q := q) (d := .tup [.int i, .int j, .int w]) rfl ⟨_, eb1⟩ (tup_of (ds := [.int i, .int j, .int w]) (acons_of (h1 := h1) rfl (acons_of (h1 := h1) rfl (acons_of (h1 := h2) (call1_of (x := .ref p) (h1 := h1) rfl e2) rfl))) (show 3 ≤ lim by decide)) eb2 (by rw [List.length_map, List.length_map]; omega))), ⟨_, rfl⟩, pool_setN y2.1 hq, ⟨ts ++ [(i, j, w)], ?_, T.add i0 ij jn w0 w1 hl⟩, fun m hm hmq o e => by
      rw [set_ne hmq]
      exact y2.2 m hm o (y1.2 m hm o (fr m hm hmq o e))⟩
    rw [set_get eb2, List.map_append, List.map_append]
    rfl
/-- a web as a law draws it -/
def netD (n : Int) (ts : List (Int × Int × Int)) : D := .tup [.int n, .tup ((ts.map tri).map tupI)]
structure NetOk (n : Int) (ts : List (Int × Int × Int)) : Prop where
  ok : ∀ e ∈ ts, 0 ≤ e.1 ∧ e.1 < e.2.1 ∧ e.2.1 < n ∧ -1000000 ≤ e.2.2 ∧ e.2.2 ≤ 1000000
  up : ts.Pairwise fun x y => lt2 x.1 x.2.1 y.1 y.2.1 = true
  len : ts.length ≤ 60
theorem net_ok {p : Nat} {h : MH} {lm : Int} (k : PoolAt p h) (l0 : 0 ≤ lm) (l1 : lm ≤ 100) : ∃ (n : Int) (ts : List (Int × Int × Int)) (h' : MH), netF [.ref p, .int lm] h = .ok (netD n ts) h' ∧ 0 ≤ n ∧ n ≤ lm ∧ NetOk n ts ∧ Px p h h' := by
  obtain ⟨n, h1, e1, n0, n1, y1⟩ := drwF (σ := [some (.ref p), some (.int lm), none, none, none, none, none]) (f := eVar 0) (g := eBin addO (eVar 1) (eC (.int 1))) (m := lm + 1) k rfl rfl (by omega) (by omega)
  obtain ⟨dn, h2, e2, _, _, y2⟩ := drwF (σ := [some (.ref p), some (.int lm), some (.int n), none, none, none, none]) (f := eVar 0) (g := eC (.int 4)) (m := 4) y1.1 rfl rfl (by omega) (by omega)
  have pl : p < h2.length := by obtain ⟨u, v, w, _⟩ := y2.1; exact (List.getElem?_eq_some_iff.mp w).1
  have x3 := Px.ex y2.1 (Ex.one h2 (.lst []))
  obtain ⟨σ4, h4, e4, I4⟩ := loop_rng (g := gVar 5) (b := sFor (iRange (aCons (eBin addO (eVar 5) (eC (.int 1))) (aCons (eVar 2) aNil))) (gVar 6) netIn) (chk := noChk) n.toNat 0
    (fun k σ h' => (∃ x5 x6, σ = [some (.ref p), some (.int lm), some (.int n), some (.int (1 + dn)), some (.ref h2.length), x5, x6]) ∧ PoolAt p h' ∧ (∃ ts, h'[h2.length]? = some (.lst ((ts.map tri).map tupI)) ∧ TsAt n k (k + 1) ts) ∧ ∀ m, m ≠ p → m ≠ h2.length → ∀ o, h2[m]? = some o → h'[m]? = some o)
    [some (.ref p), some (.int lm), some (.int n), some (.int (1 + dn)), some (.ref h2.length), none, none] (h2 ++ [.lst []]) (fun _ _ _ _ => rfl) (fun i hi σ h hI => by
      obtain ⟨⟨x5, x6, rfl⟩, P, ⟨ts, eb, T⟩, fr⟩ := hI
      refine ⟨_, _, rfl, ?_⟩
      rw [Int.zero_add]
      obtain ⟨σ', h', e5, I5⟩ := loop_rng (g := gVar 6) (b := netIn) (chk := noChk) (n - (i + 1)).toNat (i + 1) (fun k => NI p h2.length (.int lm) n (1 + dn) i (i + 1 + k) h2) [some (.ref p), some (.int lm), some (.int n), some (.int (1 + dn)), some (.ref h2.length), some (.int (i : Nat)), x6] h (fun _ _ _ _ => rfl) (fun k hk σ h I => by
        have := net_in (by omega) (by omega) (by omega) (by omega) I
        rw [show (i : Int) + 1 + ((k + 1 : Nat) : Int) = i + 1 + k + 1 from by omega]
        exact this) ⟨⟨_, rfl⟩, P, ⟨ts, eb, T.more (.inr ⟨rfl, by omega⟩)⟩, fr⟩
      obtain ⟨⟨y6, rfl⟩, P5, ⟨ts5, eb5, T5⟩, fr5⟩ := I5
      refine ⟨_, h', for_of (range2_of (acons_of (h1 := h) (x := .int (i + 1)) rfl (acons_of (h1 := h) (x := .int n) rfl rfl)) ?_ ?_) e5, ⟨⟨_, _, rfl⟩, P5, ⟨ts5, eb5, T5.more (.inl (by omega))⟩, fr5⟩⟩
      · unfold sm62
        simp only [Bool.and_eq_true, decide_eq_true_eq]
        omega
      · unfold sm62
        simp only [Bool.and_eq_true, decide_eq_true_eq]
        omega) ⟨⟨_, _, rfl⟩, x3.1, ⟨[], by simp, ⟨(fun _ z => nomatch z), List.Pairwise.nil, (fun _ z => nomatch z), Nat.zero_le _⟩⟩, fun m _ _ o e => (Ex.one h2 (.lst [])).get e⟩
  obtain ⟨⟨x5, x6, rfl⟩, P4, ⟨ts, eb, T⟩, fr⟩ := I4
  refine ⟨n, ts, h4, fn_rt ?_, n0, by omega, ⟨T.ok, T.up, T.len⟩, P4, fun m hm o e => ?_⟩
  · refine seq_nx (σ' := [some (.ref p), some (.int lm), some (.int n), none, none, none, none]) (h' := h1) (asg_of e1 rfl) ?_
    refine seq_nx (σ' := [some (.ref p), some (.int lm), some (.int n), some (.int (1 + dn)), none, none, none]) (h' := h2) (asg_of (d := .int (1 + dn)) (h' := h2) (bin_of (x := .int 1) (y := .int dn) (h1 := h1) rfl e2 rfl) rfl) ?_
    refine seq_nx (σ' := [some (.ref p), some (.int lm), some (.int n), some (.int (1 + dn)), some (.ref h2.length), none, none]) (h' := h2 ++ [.lst []]) (asg_of (d := .ref h2.length) (h' := h2 ++ [.lst []]) rfl rfl) ?_
    refine seq_nx (for_of (it := ⟨rangeD 0 n.toNat, noChk⟩) (h1 := h2 ++ [.lst []]) (range1_of (acons_of (h1 := h2 ++ [.lst []]) (x := .int n) rfl rfl) ?_) e4) ?_
    · unfold sm62
      simp only [Bool.and_eq_true, decide_eq_true_eq]
      omega
    refine ret_of (tup_of (ds := [.int n, .tup ((ts.map tri).map tupI)]) (acons_of (h1 := h4) (x := .int n) rfl (acons_of (h1 := h4) (x := .tup ((ts.map tri).map tupI)) (call1_of (x := .ref h2.length) (h1 := h4) rfl ?_) rfl)) (show 2 ≤ lim by decide))
    unfold seqF
    have it : itemsOf h4 (.ref h2.length) = some ⟨(ts.map tri).map tupI, boxChk h2.length ((ts.map tri).map tupI)⟩ := by unfold itemsOf; simp only [eb]
    simp only [it]
    rfl
  · have ml := (List.getElem?_eq_some_iff.mp e).1
    have l2 : h.length ≤ h2.length ∨ True := .inr trivial
    have e2' := y2.2 m hm o (y1.2 m hm o e)
    have ml2 := (List.getElem?_eq_some_iff.mp e2').1
    exact fr m hm (by omega) o e2'
theorem netD_fzv {n : Int} {ts : List (Int × Int × Int)} {m B C : Nat} (hm : 7 ≤ m) (n0 : 0 ≤ n) (n1 : n ≤ 100) (T : NetOk n ts) (hB : 60 ≤ B) (hC : 3 ≤ C) {A : Nat} (hA : 2 ≤ A) : fzv m [A, B, C] (netD n ts) = true ∧ fzv m [B, C] (.tup ((ts.map tri).map tupI)) = true ∧ ∀ x ∈ (ts.map tri).map tupI, fzv m [C] x = true := by
  have p10 : 10 ^ 7 ≤ 10 ^ m := Nat.pow_le_pow_right (by decide) hm
  have i1 : ∀ {r : List Nat} {i : Int}, -1000000 ≤ i → i ≤ 1000000 → fzv m r (.int i) = true := fun a b => by
    rw [fzv_int, decide_eq_true_eq]
    omega
  have h3 : ∀ x ∈ (ts.map tri).map tupI, fzv m [C] x = true := fun x hx => by
    obtain ⟨t, ht, rfl⟩ := List.mem_map.mp hx
    obtain ⟨e, he, rfl⟩ := List.mem_map.mp ht
    obtain ⟨a, b, c, d, f⟩ := T.ok e he
    show fzv m [C] (.tup [.int e.1, .int e.2.1, .int e.2.2]) = true
    rw [fzv_tup, Bool.and_eq_true, decide_eq_true_eq, List.all_eq_true]
    refine ⟨hC, fun y hy => ?_⟩
    simp only [List.mem_cons, List.not_mem_nil, or_false] at hy
    rcases hy with rfl | rfl | rfl
    · exact i1 (by omega) (by omega)
    · exact i1 (by omega) (by omega)
    · exact i1 d f
  have h2 : fzv m [B, C] (.tup ((ts.map tri).map tupI)) = true := by
    rw [fzv_tup, Bool.and_eq_true, decide_eq_true_eq, List.all_eq_true]
    exact ⟨by rw [List.length_map, List.length_map]; have := T.len; omega, h3⟩
  refine ⟨?_, h2, h3⟩
  unfold netD
  rw [fzv_tup, Bool.and_eq_true, decide_eq_true_eq, List.all_eq_true]
  refine ⟨hA, fun y hy => ?_⟩
  simp only [List.mem_cons, List.not_mem_nil, or_false] at hy
  rcases hy with rfl | rfl
  · exact i1 (by omega) (by omega)
  · exact h2
end MI

/-! MI, part YD: the dicts of webs' weights. -/
namespace MI
open PySem PySem.Spec L2

theorem setD_new {xs : DK} {d e : D} (h : d ∉ xs.map (·.1)) : setD xs d e = xs ++ [(d, e)] := by unfold setD; rw [if_neg h]
theorem fold_setD : ∀ (L acc : DK), ((acc ++ L).map (·.1)).Nodup → L.foldl (fun a q => setD a q.1 q.2) acc = acc ++ L
  | [], acc, _ => by simp
  | q :: L, acc, h => by
    have hq : q.1 ∉ acc.map (·.1) := fun z => by
      rw [List.map_append, List.nodup_append] at h
      exact h.2.2 q.1 z q.1 (by simp) rfl
    rw [List.foldl_cons, setD_new hq, fold_setD L (acc ++ [(q.1, q.2)]) (by rw [List.append_assoc]; exact h)]
    simp
theorem compD_pure {g : EvG} {t : EvB} {ek ev : Ev} {chk : MH → Bool} {σ0 : Sl} {h : MH} (kf vf : D → D) (hc : chk h = true) : ∀ (ds : List D) (acc : DK),
    (∀ d ∈ ds, ∃ σ1, g d σ0 h = some (σ1, h) ∧ t σ1 h = .ok true h ∧ ek σ1 h = .ok (kf d) h ∧ ev σ1 h = .ok (vf d) h ∧ (kf d).keyOk = true) → acc.length + ds.length ≤ lim →
    compD g t ek ev chk σ0 ds h acc = .ok ((ds.map fun d => (kf d, vf d)).foldl (fun a q => setD a q.1 q.2) acc) h
  | [], acc, _, _ => by unfold compD; rw [if_pos hc]; rfl
  | d :: ds, acc, hd, hl => by
    obtain ⟨σ1, e1, e2, e3, e4, e5⟩ := hd d (List.mem_cons_self ..)
    rw [List.length_cons] at hl
    unfold compD
    rw [if_pos hc, e1]
    dsimp only
    rw [e2]
    dsimp only
    rw [e3]
    dsimp only
    rw [e4]
    dsimp only
    rw [if_pos (by rw [e5, Bool.true_and, decide_eq_true_eq]; omega), compD_pure kf vf hc ds _ (fun x hx => hd x (List.mem_cons_of_mem _ hx)) (by have := setD_len acc (kf d) (vf d); omega)]
    rfl
theorem dictC_pure {fi : EvI} {g : EvG} {t : EvB} {ek ev : Ev} {vs : List Nat} {σ : Sl} {h : MH} {it : ItD} (kf vf : D → D) (hi : fi σ h = .ok it h) (hc : it.chk h = true)
    (hd : ∀ d ∈ it.xs, ∃ σ1, g d (wipeM σ vs) h = some (σ1, h) ∧ t σ1 h = .ok true h ∧ ek σ1 h = .ok (kf d) h ∧ ev σ1 h = .ok (vf d) h ∧ (kf d).keyOk = true) (hl : it.xs.length ≤ lim) (nd : (it.xs.map kf).Nodup) :
    eDictComp fi g t ek ev vs σ h = .ok (.ref h.length) (h ++ [.dict (it.xs.map fun d => (kf d, vf d))]) := by
  unfold eDictComp
  rw [hi]
  show (compD g t ek ev it.chk (wipeM σ vs) it.xs h []).bind _ = _
  rw [compD_pure kf vf hc it.xs [] hd (by simpa using hl), fold_setD _ [] (by rw [List.nil_append, List.map_map]; exact nd)]
  rfl
/-- the pair of a tie -/
def prI (e : Int × Int × Int) : List Int := [e.1, e.2.1]
def wts (ts : List (Int × Int × Int)) : DK := ts.map fun e => (tupI (prI e), D.int e.2.2)
theorem prI_nodup {n : Int} {ts : List (Int × Int × Int)} (T : NetOk n ts) : (ts.map prI).Nodup := by
  unfold List.Nodup
  rw [List.pairwise_map]
  refine T.up.imp fun {a b} h e => ?_
  unfold prI at e
  simp only [List.cons.injEq, and_true] at e
  rw [lt2_iff] at h
  omega
theorem wts_keys (ts : List (Int × Int × Int)) : (wts ts).map (·.1) = (ts.map prI).map tupI := by unfold wts; rw [List.map_map, List.map_map]; rfl
theorem nodup_tupI {ms : List (List Int)} (h : ms.Nodup) : (ms.map tupI).Nodup := by
  unfold List.Nodup at *
  rw [List.pairwise_map]
  exact h.imp fun h e => h (tupI_inj _ _ e)
/-- what a net's first slot tells -/
theorem net_ties {σ : Sl} {h : MH} {f : Ev} {n : Int} {ts : List (Int × Int × Int)} (e : f σ h = .ok (netD n ts) h) : iSeq (eBin ixA f (eC (.int 1))) σ h = .ok ⟨(ts.map tri).map tupI, noChk⟩ h := iseq_of (x := .tup ((ts.map tri).map tupI)) (h1 := h) (bin_of e rfl rfl) rfl
def weightsB : EvS := (sRet (eDictComp (iSeq (eBin ixA (eVar 0) (eC (.int 1)))) (gVar 1) bYes (eSlice false (eVar 1) oNone (oSome (eC (.int 2)))) (eBin ixA (eVar 1) (eC (.int 2))) [1]))
def weightsF : Fn := fnM 2 weightsB
def kfT : D → D
  | .tup [a, b, _] => .tup [a, b]
  | d => d
def vfT : D → D
  | .tup [_, _, w] => w
  | d => d
theorem ties_map (ts : List (Int × Int × Int)) : (((ts.map tri).map tupI).map fun d => (kfT d, vfT d)) = wts ts := by
  unfold wts
  rw [List.map_map, List.map_map]
  rfl
theorem weights_ok {n : Int} {ts : List (Int × Int × Int)} (T : NetOk n ts) (h : MH) : weightsF [netD n ts] h = .ok (.ref h.length) (h ++ [.dict (wts ts)]) := by
  refine fn_rt (ret_of ?_)
  refine (dictC_pure (it := ⟨(ts.map tri).map tupI, noChk⟩) kfT vfT (net_ties rfl) rfl (fun d hd => ?_) (by show ((ts.map tri).map tupI).length ≤ lim; have := T.len; simp; unfold lim; omega) ?_).trans ?_
  · obtain ⟨m, hm, rfl⟩ := List.mem_map.mp hd
    obtain ⟨e, he, rfl⟩ := List.mem_map.mp hm
    exact ⟨_, rfl, rfl, slice_of (x := tupI (tri e)) (h1 := h) (h2 := h) (h3 := h) rfl rfl (osome_of (h1 := h) rfl) rfl, bin_of (x := tupI (tri e)) (y := .int 2) (h1 := h) rfl rfl rfl, keyOk_tupI (prI e)⟩
  · have : (((ts.map tri).map tupI).map kfT) = (ts.map prI).map tupI := by simp only [List.map_map]; rfl
    show (((ts.map tri).map tupI).map kfT).Nodup
    rw [this]
    exact nodup_tupI (prI_nodup T)
  · show Res.ok (D.ref h.length) (h ++ [.dict (((ts.map tri).map tupI).map fun d => (kfT d, vfT d))]) = _
    rw [ties_map]
def heftsB : EvS := (sRet (eCall (seqF dictG) (aCons (eComp false (iSeq (eBin ixA (eVar 0) (eC (.int 1)))) (gVar 1) bYes (eTup (aCons (eSlice false (eVar 1) oNone (oSome (eC (.int 2)))) (aCons (eBin ixA (eVar 1) (eC (.int 2))) aNil))) [1]) aNil)))
def heftsF : Fn := fnM 2 heftsB
theorem hefts_ok {n : Int} {ts : List (Int × Int × Int)} (T : NetOk n ts) (h : MH) : heftsF [netD n ts] h = .ok (.ref h.length) (h ++ [.dict (wts ts)]) := by
  refine fn_rt (ret_of ?_)
  have c : eComp false (iSeq (eBin ixA (eVar 0) (eC (.int 1)))) (gVar 1) bYes (eTup (aCons (eSlice false (eVar 1) oNone (oSome (eC (.int 2)))) (aCons (eBin ixA (eVar 1) (eC (.int 2))) aNil))) [1] (startM 2 [netD n ts]) h = .ok (.lst (ts.map fun e => D.tup [tupI (prI e), .int e.2.2])) h := by
    refine (comp_pure (it := ⟨(ts.map tri).map tupI, noChk⟩) (fun _ => true) (fun d => D.tup [kfT d, vfT d]) (net_ties rfl) rfl (fun d hd => ?_) (by show ((ts.map tri).map tupI).length ≤ lim; have := T.len; simp; unfold lim; omega)).trans ?_
    · obtain ⟨m, hm, rfl⟩ := List.mem_map.mp hd
      obtain ⟨e, he, rfl⟩ := List.mem_map.mp hm
      exact ⟨_, rfl, rfl, fun _ => tup_of (ds := [tupI (prI e), .int e.2.2]) (h1 := h) (acons_of (h1 := h) (x := tupI (prI e)) (slice_of (x := tupI (tri e)) (h1 := h) (h2 := h) (h3 := h) rfl rfl (osome_of (h1 := h) rfl) rfl) (acons_of (h1 := h) (x := .int e.2.2) (bin_of (x := tupI (tri e)) (y := .int 2) (h1 := h) rfl rfl rfl) rfl)) (show 2 ≤ lim by decide)⟩
    · show Res.ok (D.lst ((((ts.map tri).map tupI).filter fun _ => true).map _)) h = _
      rw [List.filter_eq_self.mpr fun _ _ => rfl, List.map_map, List.map_map]
      rfl
  refine call1_of (h1 := h) c ?_
  have pm : ∀ l : List (Int × Int × Int), asPairs (l.map fun e => D.tup [tupI (prI e), .int e.2.2]) = some (wts l) := by
    intro l
    induction l with
    | nil => rfl
    | cons e l ih =>
      show asPairs (D.tup [tupI (prI e), .int e.2.2] :: l.map _) = _
      unfold asPairs
      rw [ih]
      simp [keyOk_tupI]
      rfl
  show seqF dictG [.lst _] h = _
  unfold seqF
  simp only [itemsOf, isTupB]
  unfold dictG
  rw [pm]
  dsimp only
  rw [if_pos (by have := T.len; unfold wts lim; simp; omega)]
  show Res.ok (D.ref h.length) (h ++ [.dict ((wts ts).foldl (fun a q => setD a q.1 q.2) [])]) = _
  rw [fold_setD (wts ts) [] (by rw [List.nil_append, wts_keys]; exact nodup_tupI (prI_nodup T))]
  rfl
/-- a pair's weight -/
def wt (ts : List (Int × Int × Int)) (m : List Int) : Option Int := (ts.find? fun e => decide (prI e = m)).map (·.2.2)
theorem get_wts (ts : List (Int × Int × Int)) (m : List Int) : getD (wts ts) (tupI m) = (wt ts m).map D.int := by
  unfold getD wt wts
  induction ts with
  | nil => rfl
  | cons e ts ih =>
    rw [List.map_cons]
    by_cases q : prI e = m
    · rw [List.find?_cons_of_pos (by simpa using congrArg tupI q), List.find?_cons_of_pos (by simpa using q)]; rfl
    · rw [List.find?_cons_of_neg (by simpa using fun z => q (tupI_inj _ _ z)), List.find?_cons_of_neg (by simpa using q)]
      exact ih
theorem wt_some {ts : List (Int × Int × Int)} {m : List Int} : (wt ts m).isSome = decide (m ∈ ts.map prI) := by
  unfold wt
  rw [Option.isSome_map, Bool.eq_iff_iff]
  simp [List.find?_isSome]
theorem in_wts {ts : List (Int × Int × Int)} {h : MH} {q : Nat} (e : h[q]? = some (.dict (wts ts))) (m : List Int) : inA h (tupI m) (.ref q) = some (.bl (decide (m ∈ ts.map prI))) := by
  have b : boxD h q = some (wts ts) := by unfold boxD; rw [e]
  show (match boxD h q with | some kvs => if (tupI m).keyOk = true then some (D.bl (getD kvs (tupI m)).isSome) else none | none => _) = _
  rw [b]
  dsimp only
  rw [if_pos (keyOk_tupI m), get_wts, Option.isSome_map, wt_some]
theorem notIn_wts {ts : List (Int × Int × Int)} {h : MH} {q : Nat} (e : h[q]? = some (.dict (wts ts))) (m : List Int) : notInA h (tupI m) (.ref q) = some (.bl (!decide (m ∈ ts.map prI))) := by
  unfold notInA
  rw [in_wts e]
theorem ix_wts {ts : List (Int × Int × Int)} {h : MH} {q : Nat} (e : h[q]? = some (.dict (wts ts))) {m : List Int} {w : Int} (hw : wt ts m = some w) : ixA h (.ref q) (tupI m) = some (.int w) := by
  have b : boxD h q = some (wts ts) := by unfold boxD; rw [e]
  show (match boxD h q with | some kvs => if (tupI m).keyOk = true then getD kvs (tupI m) else none | none => _) = (_ : Option D)
  rw [b]
  dsimp only
  rw [if_pos (keyOk_tupI m), get_wts, hw]
  rfl
theorem wt_of {n : Int} {ts : List (Int × Int × Int)} (T : NetOk n ts) {e : Int × Int × Int} (he : e ∈ ts) : wt ts (prI e) = some e.2.2 := by
  have nd := prI_nodup T
  unfold wt
  cases hf : ts.find? fun e' => decide (prI e' = prI e) with
  | none => exact absurd (List.find?_eq_none.mp hf e he) (by simp)
  | some e' =>
    have h1 := List.mem_of_find?_eq_some hf
    have h2 : prI e' = prI e := by simpa using List.find?_some hf
    have : e' = e := by
      unfold prI at h2
      simp only [List.cons.injEq, and_true] at h2
      rcases List.getElem_of_mem h1 with ⟨i, hi, rfl⟩
      rcases List.getElem_of_mem he with ⟨j, hj, rfl⟩
      have up := List.pairwise_iff_getElem.mp T.up
      rcases Nat.lt_trichotomy i j with q | q | q
      · have := up i j hi hj q; rw [lt2_iff] at this; omega
      · subst q; rfl
      · have := up j i hj hi q; rw [lt2_iff] at this; omega
    rw [this]; rfl
end MI

/-! MI, part YE: lots. -/
namespace MI
open PySem PySem.Spec L2
def wholeB : D → Bool
  | .int _ => true
  | _ => false
def wholeEv : EvS := (sRet (eAnd (eT (eIsi "int" (eVar 0))) (eNot (eT (eIsi "bool" (eVar 0))))))
def wholeF : Fn := fnM 1 wholeEv
theorem whole_ok {m L k : Nat} {d : D} (h : fz m L k d = true) (mh : MH) : wholeF [d] mh = .ok (.bl (wholeB d)) mh := by
  cases d with
  | ref n => rw [fz_ref] at h; cases h
  | _ => rfl
theorem whole_int {d : D} (h : wholeB d = true) : ∃ i, d = .int i := by
  cases d with
  | int i => exact ⟨i, rfl⟩
  | _ => cases h
def pairB : D → Bool
  | .tup [a, b] => wholeB a && wholeB b
  | _ => false
theorem pair_form {d : D} (h : pairB d = true) : ∃ a b : Int, d = tupI [a, b] := by
  unfold pairB at h
  split at h
  · rename_i a b
    rw [Bool.and_eq_true] at h
    obtain ⟨i, rfl⟩ := whole_int h.1
    obtain ⟨j, rfl⟩ := whole_int h.2
    exact ⟨i, j, rfl⟩
  · cases h
theorem pairs_form : ∀ {xs : List D}, xs.all pairB = true → ∃ ms : List (List Int), xs = ms.map tupI ∧ ∀ m ∈ ms, ∃ a b, m = [a, b]
  | [], _ => ⟨[], rfl, fun _ z => nomatch z⟩
  | x :: xs, h => by
    rw [List.all_cons, Bool.and_eq_true] at h
    obtain ⟨a, b, rfl⟩ := pair_form h.1
    obtain ⟨ms, rfl, hm⟩ := pairs_form h.2
    exact ⟨[a, b] :: ms, rfl, fun m hm' => by
      rcases List.mem_cons.mp hm' with rfl | z
      · exact ⟨a, b, rfl⟩
      · exact hm m z⟩
theorem pairB_tupI (a b : Int) : pairB (tupI [a, b]) = true := rfl
theorem pairB_not {d : D} (h : isTup d = false) : pairB d = false := by cases d <;> first | rfl | cases h
theorem pair_cases (xs : List D) : (∃ a b, xs = [a, b]) ∨ (decide (xs.length = 2) = false ∧ pairB (.tup xs) = false) := by
  match xs with
  | [] => exact .inr ⟨rfl, rfl⟩
  | [_] => exact .inr ⟨rfl, rfl⟩
  | [a, b] => exact .inl ⟨a, b, rfl⟩
  | _ :: _ :: _ :: r => exact .inr ⟨by simp, by unfold pairB; split <;> first | rfl | (rename_i e; cases e)⟩

/-! ### what a lot is -/
/-- pairs of ties, rising, no thing twice -/
def lotM (ps ms : List (List Int)) : Bool := decide (∀ m ∈ ms, m ∈ ps) && (decide (ms.Pairwise (· < ·)) && decide ms.flatten.Nodup)
def lotB (ps : List (List Int)) : D → Bool
  | .tup xs => xs.all pairB && lotM ps (xs.map unI)
  | _ => false
theorem unI_map (ms : List (List Int)) : (ms.map tupI).map unI = ms := by
  rw [List.map_map]
  exact (List.map_congr_left fun m _ => unI_tup m).trans (List.map_id _)
theorem step_len {acc : List Int} {k : Int} : (PyProof.Rows.step_dedup acc k).length = acc.length + (if k ∈ acc then 0 else 1) := by
  unfold PyProof.Rows.step_dedup
  have e : (acc.any (· == k)) = true ↔ k ∈ acc := by
    rw [List.any_eq_true]
    exact ⟨fun ⟨x, hx, q⟩ => (eq_of_beq q) ▸ hx, fun h => ⟨k, h, beq_self_eq_true k⟩⟩
  by_cases q : k ∈ acc
  · rw [if_pos (e.mpr q), if_pos q]; rfl
  · rw [if_neg (fun z => q (e.mp z)), if_neg q, List.length_append]; rfl
theorem setL_nodup (ns : List Int) : (setL ns).length = ns.length ↔ ns.Nodup := by
  have key : ∀ (l : List Int) (x : Int), (setL (l ++ [x])).length = (setL l).length + (if x ∈ l then 0 else 1) := fun l x => by
    rw [setL_snoc]
    by_cases q : x ∈ l
    · rw [if_pos (decide_eq_true q), if_pos q]; rfl
    · rw [if_neg (by simpa using q), if_neg q]
  have main : ∀ k (l : List Int), l.length = k → ((setL l).length = l.length ↔ l.Nodup) := by
    intro k
    induction k with
    | zero => intro l h; obtain rfl := List.length_eq_zero_iff.mp h; exact ⟨fun _ => List.nodup_nil, fun _ => rfl⟩
    | succ k ih =>
      intro l h
      have hne : l ≠ [] := fun z => by rw [z] at h; cases h
      obtain ⟨l', x, rfl⟩ : ∃ l' x, l = l' ++ [x] := ⟨l.dropLast, l.getLast hne, (List.dropLast_concat_getLast hne).symm⟩
      have hl : l'.length = k := by simpa using h
      rw [key, List.length_append, List.nodup_append]
      have le := setL_len l'
      by_cases q : x ∈ l'
      · rw [if_pos q]
        refine ⟨fun z => ?_, fun z => absurd rfl (z.2.2 x q x (by simp))⟩
        simp at z
        omega
      · rw [if_neg q]
        rw [← ih l' hl]
        refine ⟨fun z => ⟨by simp at z; omega, by simp, fun a ha b hb e => q ?_⟩, fun z => by rw [z.1]; rfl⟩
        simp at hb
        subst hb; subst e; exact ha
  exact main _ ns rfl
theorem flat_len : ∀ {ms : List (List Int)}, (∀ m ∈ ms, ∃ a b, m = [a, b]) → ms.flatten.length = 2 * ms.length
  | [], _ => rfl
  | m :: ms, h => by
    obtain ⟨a, b, rfl⟩ := h m (List.mem_cons_self ..)
    rw [List.flatten_cons, List.length_append, flat_len fun x hx => h x (List.mem_cons_of_mem _ hx), List.length_cons]
    simp
    omega
theorem le_total' (a b : List Int) : (decide (a ≤ b) || decide (b ≤ a)) = true := by
  rw [Bool.or_eq_true, decide_eq_true_eq, decide_eq_true_eq]
  exact List.le_total a b
theorem sorted_self (ms : List (List Int)) : ms = ms.mergeSort (fun a b => decide (a ≤ b)) ↔ ms.Pairwise (· ≤ ·) := by
  constructor
  · intro e
    rw [e]
    exact (List.pairwise_mergeSort (le := fun a b => decide (a ≤ b)) (fun a b c h1 h2 => by
      rw [decide_eq_true_eq] at *
      exact List.le_trans h1 h2) le_total' ms).imp fun h => of_decide_eq_true h
  · intro h
    exact (List.mergeSort_of_pairwise (h.imp fun h => decide_eq_true h)).symm
theorem pw_lt_of {ms : List (List Int)} (h : ms.Pairwise (· ≤ ·)) (nd : ms.Nodup) : ms.Pairwise (· < ·) :=
  (h.and nd).imp fun {a b} ⟨h1, h2⟩ => by
    rcases List.le_iff_lt_or_eq.mp h1 with z | z
    · exact z
    · exact absurd z h2
theorem nodup_of_flat : ∀ {ms : List (List Int)}, (∀ m ∈ ms, m ≠ []) → ms.flatten.Nodup → ms.Nodup
  | [], _, _ => List.nodup_nil
  | m :: ms, h, nd => by
    rw [List.flatten_cons, List.nodup_append] at nd
    refine List.nodup_cons.mpr ⟨fun z => ?_, nodup_of_flat (fun x hx => h x (List.mem_cons_of_mem _ hx)) nd.2.1⟩
    cases hm : m with
    | nil => exact h m (List.mem_cons_self ..) hm
    | cons a r => exact nd.2.2 a (by rw [hm]; simp) a (List.mem_flatten.mpr ⟨m, z, by rw [hm]; simp⟩) rfl
/-- is_lot's own test -/
theorem lot_test {ps ms : List (List Int)} (h2 : ∀ m ∈ ms, ∃ a b, m = [a, b]) : (decide (∀ m ∈ ms, m ∈ ps) && (decide (ms = ms.mergeSort fun a b => decide (a ≤ b)) && decide ((setL ms.flatten).length = 2 * ms.length))) = lotM ps ms := by
  unfold lotM
  congr 1
  rw [Bool.eq_iff_iff]
  simp only [Bool.and_eq_true, decide_eq_true_eq]
  rw [sorted_self, ← flat_len h2, setL_nodup]
  refine ⟨fun ⟨a, b⟩ => ⟨pw_lt_of a (nodup_of_flat (fun m hm z => by obtain ⟨x, y, e⟩ := h2 m hm; rw [z] at e; cases e) b), b⟩, fun ⟨a, b⟩ => ⟨a.imp fun h => List.le_of_lt h, b⟩⟩
/-! ### in a list of tuples of whole numbers -/
theorem any_tups (m : List Int) (ms : List (List Int)) : ((ms.map fun m => PyData.tuple (m.map .int)).any fun z => PyData.eqv z (.tuple (m.map .int))) = decide (m ∈ ms) := by
  induction ms with
  | nil => rfl
  | cons n ns ih =>
    rw [List.map_cons, List.any_cons, ih]
    simp only [PyData.eqv, eqvAll_ints]
    by_cases h : n = m
    · subst h; simp
    · have h' : ¬ m = n := fun z => h z.symm
      simp [h, h']
theorem tup_shaped (m : List Int) : SeqAt.shaped (.tuple (m.map .int)) = true := (ints_shaped m).1
theorem in_lst_tups (mh : MH) (m : List Int) (ms : List (List Int)) : inA mh (tupI m) (.lst (ms.map tupI)) = some (.bl (decide (m ∈ ms))) := by
  show (isIn mh (.tup (m.map D.int)) (.lst (ms.map tupI))).map D.bl = _
  have a : toPy mh (.tup (m.map D.int)) = some (.tuple (m.map .int)) := toPy_tupI mh m
  have b : toPy mh (.lst (ms.map tupI)) = some (.list (ms.map fun m => PyData.tuple (m.map .int))) := by
    unfold toPy
    rw [D.py, tups_py]
    rfl
  unfold isIn
  dsimp only
  rw [a, b]
  dsimp only
  rw [tup_shaped, tups_shaped]
  rw [if_pos (by rfl), any_tups]
  rfl
theorem notIn_lst_tups (mh : MH) (m : List Int) (ms : List (List Int)) : notInA mh (tupI m) (.lst (ms.map tupI)) = some (.bl (!decide (m ∈ ms))) := by
  unfold notInA
  rw [in_lst_tups]

def isPairEv : EvS := (sRet (eAnd (eT (eIsi "tuple" (eVar 0))) (eAnd (eT (eBin eqO (eCall lenA (aCons (eVar 0) aNil)) (eC (.int 2)))) (eAnd (eT (eCall wholeF (aCons (eBin ixA (eVar 0) (eC (.int 0))) aNil))) (eCall wholeF (aCons (eBin ixA (eVar 0) (eC (.int 1))) aNil))))))
def isPairF : Fn := fnM 1 isPairEv
theorem eq_len (mh : MH) (xs : List D) (m : Nat) : eqO mh (.int (xs.length : Nat)) (.int (m : Nat)) = some (.bl (decide (xs.length = m))) := by
  rw [eqO_int]
  congr 2
  rw [Bool.eq_iff_iff]
  simp
  omega
theorem is_pair_ok {m L k : Nat} {d : D} (hf : fz m L (k + 1) d = true) (mh : MH) : isPairF [d] mh = .ok (.bl (pairB d)) mh := by
  cases ht : isTup d with
  | false =>
    rw [pairB_not ht]
    exact fn_rt (ret_of (eand_of (p := false) (q := false) (eT_of (by rw [← ht]; exact isi_tup rfl hf)) fun z => nomatch z))
  | true =>
    obtain ⟨xs, rfl⟩ : ∃ xs, d = .tup xs := by cases d <;> first | exact ⟨_, rfl⟩ | cases ht
    have c1 : eT (eIsi "tuple" (eVar 0)) (startM 1 [.tup xs]) mh = .ok true mh := eT_of rfl
    have c2 : eT (eBin eqO (eCall lenA (aCons (eVar 0) aNil)) (eC (.int 2))) (startM 1 [.tup xs]) mh = .ok (decide (xs.length = 2)) mh := eT_of (bin_of (x := .int (xs.length : Nat)) (y := .int 2) (h1 := mh) rfl rfl (eq_len mh xs 2))
    rcases pair_cases xs with ⟨a, b, rfl⟩ | ⟨e1, e2⟩
    · obtain ⟨fa, fb⟩ := fz_pair hf
      exact fn_rt (ret_of ((eand_of (p := true) (q := wholeB a && wholeB b) c1 fun _ => (eand_of (p := true) (q := wholeB a && wholeB b) c2 fun _ => eand_of (p := wholeB a) (q := wholeB b) (eT_of (call1_of (x := a) (h1 := mh) (bin_of (x := .tup [a, b]) (y := .int 0) (h1 := mh) rfl rfl rfl) (whole_ok fa mh))) fun _ => call1_of (x := b) (h1 := mh) (bin_of (x := .tup [a, b]) (y := .int 1) (h1 := mh) rfl rfl rfl) (whole_ok fb mh)).trans rfl).trans rfl))
    · rw [e2]
      exact fn_rt (ret_of ((eand_of (p := true) (q := false) c1 fun _ => (eand_of (p := false) (q := false) (c2.trans (by rw [e1])) fun z => nomatch z).trans rfl).trans rfl))
def isLotEv : EvS :=
  (sSeq (sIf (bOr (bNot (eT (eIsi "tuple" (eVar 1)))) (bNot (eT (eCall (seqF allG) (aCons (eComp false (iSeq (eVar 1)) (gVar 3) bYes (eCall isPairF (aCons (eVar 3) aNil)) [3]) aNil))))) (sRet (eC (.bl false))) sSkip)
  (sSeq (sAsg (eCall weightsF (aCons (eVar 0) aNil)) (gVar 2))
  (sSeq (sIf (bOr (bNot (eT (eCall (seqF allG) (aCons (eComp false (iSeq (eVar 1)) (gVar 3) bYes (eBin inA (eVar 3) (eVar 2)) [3]) aNil)))) (eT (eBin neO (eCall (seqF (listG false)) (aCons (eVar 1) aNil)) (eCall (sortedF false) (aCons (eVar 1) aNil))))) (sRet (eC (.bl false))) sSkip)
  (sRet (eBin eqO (eLenSetC2 (iSeq (eVar 1)) (gVar 3) bYes (iSeq (eVar 3)) (gVar 4) bYes (eVar 4) [3, 4] [4]) (eBin mulO (eC (.int 2)) (eCall lenA (aCons (eVar 1) aNil))))))))
def isLotF : Fn := fnM 5 isLotEv
/-- all members, one after another -/
theorem lenSetC2_of {fi f1 : EvI} {g g1 : EvG} {t t1 : EvB} {e : Ev} {vs vs1 : List Nat} {σ : Sl} {h : MH} {it : ItD} (ys : D → List Int) (hi : fi σ h = .ok it h) (hc : it.chk h = true)
    (hd : ∀ d ∈ it.xs, ∃ σ1, g d (wipeM σ vs) h = some (σ1, h) ∧ t σ1 h = .ok true h ∧ ∃ c1, f1 σ1 h = .ok ⟨(ys d).map D.int, c1⟩ h ∧ c1 h = true ∧ ∀ i ∈ ys d, ∃ σ2, g1 (.int i) (wipeM σ1 vs1) h = some (σ2, h) ∧ t1 σ2 h = .ok true h ∧ e σ2 h = .ok (.int i) h)
    (hl : ((it.xs.map ys).flatten).length ≤ 4000) : eLenSetC2 fi g t f1 g1 t1 e vs vs1 σ h = .ok (.int ((setL (it.xs.map ys).flatten).length : Nat)) h := by
  have hin : ∀ (is : List Int) (c1 : MH → Bool) (σ1 : Sl) (acc : List D), c1 h = true → (∀ i ∈ is, ∃ σ2, g1 (.int i) (wipeM σ1 vs1) h = some (σ2, h) ∧ t1 σ2 h = .ok true h ∧ e σ2 h = .ok (.int i) h) → acc.length + is.length ≤ 4000 → compM g1 t1 (eInt e) c1 (wipeM σ1 vs1) (is.map D.int) h acc = .ok (acc ++ is.map D.int) h := by
    intro is
    induction is with
    | nil => intro c1 σ1 acc hc _ _; unfold compM; rw [List.map_nil]; simp [hc]
    | cons i is ih =>
      intro c1 σ1 acc hc hh hl
      obtain ⟨σ2, e1, e2, e3⟩ := hh i (List.mem_cons_self ..)
      rw [List.length_cons] at hl
      rw [List.map_cons]
      unfold compM
      rw [if_pos hc, e1]
      dsimp only
      rw [e2]
      dsimp only
      rw [show eInt e σ2 h = .ok (.int i) h from by unfold eInt; rw [e3]; rfl]
      dsimp only
      rw [if_pos (by unfold lim; omega), ih c1 σ1 (acc ++ [D.int i]) hc (fun x hx => hh x (List.mem_cons_of_mem _ hx)) (by simp; omega)]
      simp
  have hout : ∀ (ds : List D) (acc : List D), (∀ d ∈ ds, d ∈ it.xs) → acc.length + ((ds.map ys).flatten).length ≤ 4000 → compM2 g t f1 g1 t1 (eInt e) vs1 it.chk (wipeM σ vs) ds h acc = .ok (acc ++ ((ds.map ys).flatten).map D.int) h := by
    intro ds
    induction ds with
    | nil => intro acc _ _; unfold compM2; simp [hc]
    | cons d ds ih =>
      intro acc hm hl
      obtain ⟨σ1, e1, e2, c1, e3, e4, e5⟩ := hd d (hm d (List.mem_cons_self ..))
      rw [List.map_cons, List.flatten_cons, List.length_append] at hl
      unfold compM2
      rw [if_pos hc, e1]
      dsimp only
      rw [e2]
      dsimp only
      rw [e3]
      dsimp only
      rw [hin (ys d) c1 σ1 acc e4 e5 (by omega)]
      show compM2 g t f1 g1 t1 (eInt e) vs1 it.chk (wipeM σ vs) ds h (acc ++ (ys d).map D.int) = _
      rw [ih _ (fun x hx => hm x (List.mem_cons_of_mem _ hx)) (by rw [List.length_append, List.length_map]; omega), List.map_cons, List.flatten_cons, List.map_append, List.append_assoc]
  unfold eLenSetC2
  rw [hi]
  show (compM2 g t f1 g1 t1 (eInt e) vs1 it.chk (wipeM σ vs) it.xs h []).bind _ = _
  rw [hout it.xs [] (fun _ z => z) (by simpa using hl), List.nil_append]
  show (match asInts (((it.xs.map ys).flatten).map D.int) with | some ns => _ | none => _) = _
  rw [asInts_map]
  dsimp only
  rw [if_pos hl]
theorem is_lot_ok {m L k : Nat} {n : Int} {ts : List (Int × Int × Int)} {d : D} (hf : fz m L (k + 2) d = true) (hL : L ≤ 1000) (T : NetOk n ts) (h : MH) : ∃ h', isLotF [netD n ts, d] h = .ok (.bl (lotB (ts.map prI) d)) h' ∧ Ex h h' := by
  cases ht : isTup d with
  | false =>
    have : lotB (ts.map prI) d = false := by cases d <;> first | rfl | cases ht
    rw [this]
    exact ⟨h, fn_rt (seq_rt (if_t (h' := h) (or_of (p := true) (q := true) (not_of (p := false) (eT_of (by rw [← ht]; exact isi_tup rfl hf))) fun z => nomatch z) (ret_of rfl))), Ex.refl _⟩
  | true =>
    obtain ⟨xs, rfl⟩ : ∃ xs, d = .tup xs := by cases d <;> first | exact ⟨_, rfl⟩ | cases ht
    have hlen := len_fz hf
    have c1 : bOr (bNot (eT (eIsi "tuple" (eVar 1)))) (bNot (eT (eCall (seqF allG) (aCons (eComp false (iSeq (eVar 1)) (gVar 3) bYes (eCall isPairF (aCons (eVar 3) aNil)) [3]) aNil)))) (startM 5 [netD n ts, .tup xs]) h = .ok (!xs.all pairB) h := by
      refine (or_of (p := false) (q := !xs.all pairB) (not_of (p := true) (eT_of rfl)) fun _ => not_of (eT_of (all_of (xs := xs) (p := pairB) ?_))).trans rfl
      refine (comp_pure (it := ⟨xs, noChk⟩) (fun _ => true) (fun x => D.bl (pairB x)) rfl rfl (fun x hx => ⟨_, rfl, rfl, fun _ => call1_of (x := x) rfl (is_pair_ok (ix_fz hf hx) h)⟩) (lim1 hlen hL)).trans ?_
      rw [List.filter_eq_self.mpr fun _ _ => rfl]
      rfl
    cases ha : xs.all pairB with
    | false =>
      have : lotB (ts.map prI) (.tup xs) = false := by show (xs.all pairB && _) = _; rw [ha]; rfl
      rw [this]
      exact ⟨h, fn_rt (seq_rt (if_t (h' := h) (c1.trans (by rw [ha]; rfl)) (ret_of rfl))), Ex.refl _⟩
    | true =>
      obtain ⟨ms, rfl, h2⟩ := pairs_form ha
      have lml : ms.length ≤ L := by simpa using hlen
      have er : lotB (ts.map prI) (.tup (ms.map tupI)) = lotM (ts.map prI) ms := by show ((ms.map tupI).all pairB && lotM _ ((ms.map tupI).map unI)) = _; rw [ha, unI_map]; rfl
      rw [er, ← lot_test h2]
      refine ⟨h ++ [.dict (wts ts)], fn_rt ?_, Ex.one _ _⟩
      generalize hh : h ++ [O.dict (wts ts)] = h1
      have gd : h1[h.length]? = some (.dict (wts ts)) := by rw [← hh]; simp
      refine ifp false (c1.trans (by rw [ha]; rfl)) (fun z => nomatch z) fun _ => ?_
      refine seq_nx (σ' := [some (netD n ts), some (.tup (ms.map tupI)), some (.ref h.length), none, none]) (h' := h1) (asg_of (d := .ref h.length) (call1_of (x := netD n ts) rfl ((weights_ok T h).trans (by rw [hh]))) rfl) ?_
      have c2 : eCall (seqF allG) (aCons (eComp false (iSeq (eVar 1)) (gVar 3) bYes (eBin inA (eVar 3) (eVar 2)) [3]) aNil) [some (netD n ts), some (.tup (ms.map tupI)), some (.ref h.length), none, none] h1 = .ok (.bl (decide (∀ m ∈ ms, m ∈ ts.map prI))) h1 := by
        have e0 : (decide (∀ m ∈ ms, m ∈ ts.map prI)) = ms.all fun m => decide (m ∈ ts.map prI) := by rw [Bool.eq_iff_iff]; simp [List.all_eq_true]
        rw [e0]
        refine all_of (xs := ms) (p := fun m => decide (m ∈ ts.map prI)) ((comp_pure (it := ⟨ms.map tupI, noChk⟩) (fun _ => true) (fun x => D.bl (decide (unI x ∈ ts.map prI))) rfl rfl (fun x hx => ?_) (by show (ms.map tupI).length ≤ lim; rw [List.length_map]; exact lim1 lml hL)).trans ?_)
        · obtain ⟨m', hm', rfl⟩ := List.mem_map.mp hx
          exact ⟨_, rfl, rfl, fun _ => bin_of (x := tupI m') (y := .ref h.length) (h1 := h1) rfl rfl (by rw [unI_tup]; exact in_wts gd m')⟩
        · rw [List.filter_eq_self.mpr fun _ _ => rfl, List.map_map]
          show Res.ok (D.lst _) h1 = _
          congr 2
          exact List.map_congr_left fun m _ => by show D.bl (decide (unI (tupI m) ∈ _)) = _; rw [unI_tup]
      have c3 : eBin neO (eCall (seqF (listG false)) (aCons (eVar 1) aNil)) (eCall (sortedF false) (aCons (eVar 1) aNil)) [some (netD n ts), some (.tup (ms.map tupI)), some (.ref h.length), none, none] h1 = .ok (.bl (!decide (ms = ms.mergeSort fun a b => decide (a ≤ b)))) h1 := by
        refine bin_of (x := .lst (ms.map tupI)) (y := .lst ((ms.mergeSort fun a b => decide (a ≤ b)).map tupI)) (h1 := h1) rfl (call1_of (x := .tup (ms.map tupI)) (h1 := h1) rfl ?_) (neO_tups _ _ _)
        unfold sortedF
        show (if sortOk h1 (ms.map tupI) = true then mkL false (sortD h1 (ms.map tupI)) h1 else .bad) = _
        rw [if_pos (sortOk_tups h1 ms (lim1 lml hL) fun m hm z => by obtain ⟨a, b, e⟩ := h2 m hm; rw [z] at e; cases e), sortD_tups]
        rfl
      have c4 : bOr (bNot (eT (eCall (seqF allG) (aCons (eComp false (iSeq (eVar 1)) (gVar 3) bYes (eBin inA (eVar 3) (eVar 2)) [3]) aNil)))) (eT (eBin neO (eCall (seqF (listG false)) (aCons (eVar 1) aNil)) (eCall (sortedF false) (aCons (eVar 1) aNil)))) [some (netD n ts), some (.tup (ms.map tupI)), some (.ref h.length), none, none] h1 = .ok (!decide (∀ m ∈ ms, m ∈ ts.map prI) || !decide (ms = ms.mergeSort fun a b => decide (a ≤ b))) h1 := or_of (not_of (eT_of c2)) fun _ => eT_of c3
      refine ifp _ c4 (fun e => seq_rt (ret_of ?_)) fun e => ret_of ?_
      · have : (decide (∀ m ∈ ms, m ∈ ts.map prI) && (decide (ms = ms.mergeSort fun a b => decide (a ≤ b)) && decide ((setL ms.flatten).length = 2 * ms.length))) = false := by
          cases q : decide (∀ m ∈ ms, m ∈ ts.map prI) with
          | false => rfl
          | true =>
            rw [q] at e
            rw [show decide (ms = ms.mergeSort fun a b => decide (a ≤ b)) = false by simpa using e]
            rfl
        rw [this]
        rfl
      · rw [Bool.or_eq_false_iff] at e
        have q1 : decide (∀ m ∈ ms, m ∈ ts.map prI) = true := by simpa using e.1
        have q2 : decide (ms = ms.mergeSort fun a b => decide (a ≤ b)) = true := by simpa using e.2
        rw [q1, q2, Bool.true_and, Bool.true_and]
        have fl := flat_len h2
        refine bin_of (x := .int ((setL ms.flatten).length : Nat)) (y := .int ((2 * ms.length : Nat) : Int)) (h1 := h1) ?_ (bin_of (x := .int 2) (y := .int (ms.length : Nat)) (h1 := h1) rfl (call1_of (x := .tup (ms.map tupI)) (h1 := h1) rfl (by show Res.ok (D.int ((ms.map tupI).length : Nat)) h1 = _; rw [List.length_map])) ?_) ?_
        · have := lenSetC2_of (fi := iSeq (eVar 1)) (g := gVar 3) (t := bYes) (f1 := iSeq (eVar 3)) (g1 := gVar 4) (t1 := bYes) (e := eVar 4) (vs := [3, 4]) (vs1 := [4]) (σ := [some (netD n ts), some (.tup (ms.map tupI)), some (.ref h.length), none, none]) (h := h1) (it := ⟨ms.map tupI, noChk⟩) unI rfl rfl (fun d hd => by
            obtain ⟨m', hm', rfl⟩ := List.mem_map.mp hd
            refine ⟨_, rfl, rfl, noChk, ?_, rfl, fun i hi => ⟨_, rfl, rfl, rfl⟩⟩
            rw [unI_tup]
            rfl) (by show (((ms.map tupI).map unI).flatten).length ≤ 4000; rw [unI_map, fl]; omega)
          rw [this]
          show Res.ok (D.int ((setL (((ms.map tupI).map unI).flatten)).length : Nat)) h1 = _
          rw [unI_map]
        · rw [mul_int]
          · congr 2
          · rfl
        · rw [eqO_int]
          congr 2
          rw [Bool.eq_iff_iff]
          simp
          omega
end MI

/-! MI, part YF: lots, as the laws look at them. -/
namespace MI
open PySem PySem.Spec L2
def enF : Nat → List D → List D
  | _, [] => []
  | i, d :: r => .tup [.int (i : Nat), d] :: enF (i + 1) r
theorem enF_get : ∀ (i j : Nat) (xs : List D), (enF i xs)[j]? = xs[j]?.map fun d => .tup [.int ((i + j : Nat) : Int), d]
  | i, j, [] => by simp [enF]
  | i, 0, d :: r => by simp [enF]
  | i, j + 1, d :: r => by
    rw [enF, List.getElem?_cons_succ, List.getElem?_cons_succ, enF_get]
    congr 1
    funext x
    congr 4
    omega
theorem enum_eq (xs : List D) : enumD xs = enF 0 xs := List.ext_getElem? fun j => by
  rw [enF_get]
  unfold enumD
  rw [List.getElem?_mapIdx]
  congr 1
  funext x
  simp
theorem ienum_of {σ : Sl} {h : MH} {f : Ev} {xs : List D} (e : f σ h = .ok (.tup xs) h) : iEnumM (aCons f aNil) σ h = .ok ⟨enF 0 xs, noChk⟩ h := by
  unfold iEnumM
  rw [acons_of (x := .tup xs) (ds := []) (h1 := h) (h2 := h) e rfl]
  show Res.ok (⟨enumD xs, noChk⟩ : ItD) h = _
  rw [enum_eq]
theorem atI_some {xs : List D} {i : Nat} {d : D} (h : xs[i]? = some d) : atI xs (i : Nat) = some d := by
  have hl := (List.getElem?_eq_some_iff.mp h).1
  have q : ixN xs.length (i : Nat) = some i := by
    unfold ixN
    rw [if_pos (by omega), if_pos (by omega)]
    simp
  unfold atI
  rw [q]
  exact h
theorem lotM_iff {ps ms : List (List Int)} : lotM ps ms = true ↔ (∀ m ∈ ms, m ∈ ps) ∧ ms.Pairwise (· < ·) ∧ ms.flatten.Nodup := by
  unfold lotM
  simp only [Bool.and_eq_true, decide_eq_true_eq]
theorem pairB_tup (xs : List D) : pairB (.tup xs) = (decide (xs.length = 2) && xs.all wholeB) := by
  match xs with
  | [] => rfl
  | [_] => rfl
  | [a, b] => show (wholeB a && wholeB b) = (decide (2 = 2) && (wholeB a && (wholeB b && true))); simp
  | _ :: _ :: _ :: r =>
    rw [show decide ((_ :: _ :: _ :: r : List D).length = 2) = false from by simp]
    unfold pairB
    split <;> first | rfl | (rename_i e; cases e)
theorem lots_lt (ms : List (List Int)) (h : ∀ m ∈ ms, ∃ a b, m = [a, b]) : True := trivial
/-- one pair more -/
theorem lotM_snoc {ps ms : List (List Int)} {a b : Int} (hp : ∀ m ∈ ps, ∀ a b, m = [a, b] → a < b) (h : lotM ps ms = true) (h1 : [a, b] ∈ ps) (h2 : a ∉ ms.flatten) (h3 : b ∉ ms.flatten) (h4 : ∀ l, ms.getLast? = some l → l < [a, b]) : lotM ps (ms ++ [[a, b]]) = true := by
  rw [lotM_iff] at h ⊢
  obtain ⟨q1, q2, q3⟩ := h
  refine ⟨fun m hm => ?_, List.pairwise_append.mpr ⟨q2, List.pairwise_singleton _ _, fun x hx y hy => ?_⟩, ?_⟩
  · rcases List.mem_append.mp hm with z | z
    · exact q1 m z
    · rw [List.mem_singleton.mp z]; exact h1
  · rw [List.mem_singleton.mp hy]
    cases hl : ms.getLast? with
    | none => rw [List.getLast?_eq_none_iff.mp hl] at hx; cases hx
    | some l =>
      have l1 := h4 l hl
      have hne : ms ≠ [] := fun z => by rw [z] at hl; cases hl
      have e0 : ms = ms.dropLast ++ [l] := by
        rw [List.getLast?_eq_some_getLast hne] at hl
        cases hl
        exact (List.dropLast_concat_getLast hne).symm
      rw [e0] at hx q2
      rcases List.mem_append.mp hx with z | z
      · exact List.lt_trans ((List.pairwise_append.mp q2).2.2 x z l (by simp)) l1
      · rw [List.mem_singleton.mp z]; exact l1
  · rw [List.flatten_append, List.nodup_append]
    refine ⟨q3, ?_, fun x hx y hy e => ?_⟩
    · have := hp _ h1 a b rfl
      simp
      omega
    · subst e
      simp at hy
      rcases hy with rfl | rfl
      · exact h2 hx
      · exact h3 hx
theorem prI_lt {n : Int} {ts : List (Int × Int × Int)} (T : NetOk n ts) : ∀ m ∈ ts.map prI, ∀ a b, m = [a, b] → a < b := fun m hm a b e => by
  obtain ⟨t, ht, rfl⟩ := List.mem_map.mp hm
  have := T.ok t ht
  unfold prI at e
  simp only [List.cons.injEq, and_true] at e
  omega
def soG : EvG := gTupM 2 (gsCons (gVar 3) (gsCons (gVar 4) gsNil))
def soC1 : EvB := (bOr (bNot (eT (eIsi "tuple" (eVar 4)))) (bOr (eT (eBin neO (eCall lenA (aCons (eVar 4) aNil)) (eC (.int 2)))) (eT (eBin neO (eComp false (iSeq (eVar 4)) (gVar 5) (bNot (eT (eCall wholeF (aCons (eVar 5) aNil)))) (eVar 5) [5]) (eLst false aNil)))))
def soC2 : EvB := (bOr (eT (eBin notInA (eVar 4) (eComp false (iSeq (eBin ixA (eVar 0) (eC (.int 1)))) (gVar 6) bYes (eSlice false (eVar 6) oNone (oSome (eC (.int 2)))) [6]))) (bOr (eT (eBin inA (eBin ixA (eVar 4) (eC (.int 0))) (eVar 2))) (eT (eBin inA (eBin ixA (eVar 4) (eC (.int 1))) (eVar 2)))))
def soC3 : EvB := (bAnd (eT (eBin gtO (eVar 3) (eC (.int 0)))) (bNot (eT (eBin ltO (eBin ixA (eVar 1) (eBin subO (eVar 3) (eC (.int 1)))) (eVar 4)))))
def soBody : EvS := (sSeq (sIf soC1 (sRet (eC (.bl false))) sSkip)
  (sSeq (sIf soC2 (sRet (eC (.bl false))) sSkip)
  (sSeq (sIf soC3 (sRet (eC (.bl false))) sSkip)
  (sAsg (eBin addO (eVar 2) (eCall (seqF (listG false)) (aCons (eVar 4) aNil))) (gVar 2)))))
def soB : EvS :=
  (sSeq (sIf (bNot (eT (eIsi "tuple" (eVar 1)))) (sRet (eC (.bl false))) sSkip)
  (sSeq (sAsg (eLst false aNil) (gVar 2))
  (sSeq (sFor (iEnumM (aCons (eVar 1) aNil)) soG soBody)
  (sRet (eC (.bl true))))))
def soF : Fn := fnM 7 soB
theorem so_c1 {m L k : Nat} {d : D} (hf : fz m L (k + 1) d = true) (hL : L ≤ 1000) (hk : k ≤ 63) {x0 x1 x2 x3 x5 x6 : Option D} (mh : MH) : soC1 [x0, x1, x2, x3, some d, x5, x6] mh = .ok (!pairB d) mh := by
  cases ht : isTup d with
  | false =>
    rw [pairB_not ht]
    exact or_of (p := true) (q := true) (not_of (p := false) (eT_of (by rw [← ht]; exact isi_tup rfl hf))) fun z => nomatch z
  | true =>
    obtain ⟨xs, rfl⟩ : ∃ xs, d = .tup xs := by cases d <;> first | exact ⟨_, rfl⟩ | cases ht
    rw [pairB_tup]
    have cmp : eBin neO (eComp false (iSeq (eVar 4)) (gVar 5) (bNot (eT (eCall wholeF (aCons (eVar 5) aNil)))) (eVar 5) [5]) (eLst false aNil) [x0, x1, x2, x3, some (.tup xs), x5, x6] mh = .ok (.bl (!xs.all wholeB)) mh := by
      refine bin_of (x := .lst ((xs.filter fun x => !wholeB x).map id)) (y := .lst []) (h1 := mh) ?_ rfl ?_
      · refine (comp_pure (it := ⟨xs, noChk⟩) (fun x => !wholeB x) id rfl rfl (fun x hx => ⟨_, rfl, not_of (eT_of (call1_of (x := x) rfl (whole_ok (ix_fz hf hx) mh))), fun _ => rfl⟩) (lim1 (len_fz hf) hL)).trans rfl
      · rw [List.map_id, neO_nil (m := m) (L := L) (k := k) (fun x hx => ix_fz hf (List.mem_filter.mp hx).1) hk, filter_empty]
    refine ((or_of (p := false) (q := !decide (xs.length = 2) || !xs.all wholeB) (not_of (p := true) (eT_of rfl)) fun _ => or_of (eT_of (bin_of (x := .int (xs.length : Nat)) (y := .int 2) (h1 := mh) rfl rfl (ne_len mh xs 2))) fun _ => eT_of cmp)).trans ?_
    congr 1
    cases decide (xs.length = 2) <;> simp
theorem so_c2 {n : Int} {ts : List (Int × Int × Int)} (T : NetOk n ts) {a b : Int} {fl : List Int} {x1 x3 x5 x6 : Option D} (mh : MH) : soC2 [some (netD n ts), x1, some (.lst (fl.map .int)), x3, some (tupI [a, b]), x5, x6] mh = .ok (!decide ([a, b] ∈ ts.map prI) || (decide (a ∈ fl) || decide (b ∈ fl))) mh := by
  have c : eComp false (iSeq (eBin ixA (eVar 0) (eC (.int 1)))) (gVar 6) bYes (eSlice false (eVar 6) oNone (oSome (eC (.int 2)))) [6] [some (netD n ts), x1, some (.lst (fl.map .int)), x3, some (tupI [a, b]), x5, x6] mh = .ok (.lst ((ts.map prI).map tupI)) mh := by
    refine (comp_pure (it := ⟨(ts.map tri).map tupI, noChk⟩) (fun _ => true) kfT (net_ties rfl) rfl (fun d hd => ?_) (by show ((ts.map tri).map tupI).length ≤ lim; have := T.len; simp; unfold lim; omega)).trans ?_
    · obtain ⟨m, hm, rfl⟩ := List.mem_map.mp hd
      obtain ⟨e, he, rfl⟩ := List.mem_map.mp hm
      exact ⟨_, rfl, rfl, fun _ => slice_of (x := tupI (tri e)) (h1 := mh) (h2 := mh) (h3 := mh) rfl rfl (osome_of (h1 := mh) rfl) rfl⟩
    · show Res.ok (D.lst ((((ts.map tri).map tupI).filter fun _ => true).map _)) mh = _
      rw [List.filter_eq_self.mpr fun _ _ => rfl]
      simp only [List.map_map]
      rfl
  refine or_of (eT_of (bin_of (x := tupI [a, b]) (y := .lst ((ts.map prI).map tupI)) (h1 := mh) rfl c (notIn_lst_tups _ _ _))) fun _ => or_of (eT_of (bin_of (x := .int a) (y := .lst (fl.map .int)) (h1 := mh) (bin_of (x := tupI [a, b]) (y := .int 0) (h1 := mh) rfl rfl rfl) rfl (in_lst_ints _ _ _))) fun _ => eT_of (bin_of (x := .int b) (y := .lst (fl.map .int)) (h1 := mh) (bin_of (x := tupI [a, b]) (y := .int 1) (h1 := mh) rfl rfl rfl) rfl (in_lst_ints _ _ _))
theorem last_get {α : Type} (ms : List α) (r : List α) (h : ms ≠ []) : (ms ++ r)[ms.length - 1]? = ms.getLast? := by
  have : ms.length - 1 < ms.length := by have := List.length_pos_iff.mpr h; omega
  rw [List.getElem?_append_left this, List.getLast?_eq_getElem?]
theorem so_c3 {x0 x2 x5 x6 : Option D} {ms0 : List (List Int)} {rest : List D} {m : List Int} (mh : MH) : soC3 [x0, some (.tup (ms0.map tupI ++ rest)), x2, some (.int (ms0.length : Nat)), some (tupI m), x5, x6] mh = .ok (match ms0.getLast? with | none => false | some l => !decide (l < m)) mh := by
  cases hl : ms0.getLast? with
  | none =>
    have := List.getLast?_eq_none_iff.mp hl
    subst this
    exact and_of (p := false) (q := false) (eT_of (bin_of (x := .int ((0 : Nat) : Int)) (y := .int 0) (h1 := mh) rfl rfl rfl)) fun z => nomatch z
  | some l =>
    have hne : ms0 ≠ [] := fun z => by rw [z] at hl; cases hl
    have hp := List.length_pos_iff.mpr hne
    refine (and_of (p := true) (q := !decide (l < m)) (eT_of (bin_of (x := .int (ms0.length : Nat)) (y := .int 0) (h1 := mh) rfl rfl ?_)) fun _ => not_of (eT_of (bin_of (x := tupI l) (y := tupI m) (h1 := mh) (bin_of (x := .tup (ms0.map tupI ++ rest)) (y := .int ((ms0.length - 1 : Nat) : Int)) (h1 := mh) rfl (bin_of (x := .int (ms0.length : Nat)) (y := .int 1) (h1 := mh) rfl rfl ?_) (atI_some ?_)) rfl ?_))).trans rfl
    · show some (D.bl (decide ((0 : Int) < (ms0.length : Nat)))) = _
      rw [decide_eq_true (by omega)]
    · show some (D.int (((ms0.length : Nat) : Int) - 1)) = _
      congr 2
      omega
    · have := last_get (ms0.map tupI) rest (by simpa using hne)
      rw [List.length_map] at this
      rw [this, List.getLast?_map, hl]
      rfl
    · rw [lt_tups, lex_lt]
theorem so_loop {m L k : Nat} {n : Int} {ts : List (Int × Int × Int)} {full : List D} (hL : L ≤ 1000) (hk : k ≤ 63) (T : NetOk n ts) (mh : MH) (hfl : full.length ≤ L) : ∀ (rest : List D) (ms0 : List (List Int)) (x3 x4 x5 x6 : Option D), full = ms0.map tupI ++ rest → (∀ x ∈ rest, fz m L (k + 1) x = true) → lotM (ts.map prI) ms0 = true → (∀ m ∈ ms0, ∃ a b, m = [a, b]) →
    ((rest.all pairB && lotM (ts.map prI) (ms0 ++ rest.map unI)) = true → ∃ σ', loopM soG soBody noChk (enF ms0.length rest) [some (netD n ts), some (.tup full), some (.lst (ms0.flatten.map .int)), x3, x4, x5, x6] mh = .nx σ' mh) ∧
    ((rest.all pairB && lotM (ts.map prI) (ms0 ++ rest.map unI)) = false → loopM soG soBody noChk (enF ms0.length rest) [some (netD n ts), some (.tup full), some (.lst (ms0.flatten.map .int)), x3, x4, x5, x6] mh = .rt (.bl false) mh)
  | [], ms0, x3, x4, x5, x6, _, _, h0, _ => by
    refine ⟨fun _ => ⟨_, loop_end rfl⟩, fun e => ?_⟩
    rw [List.all_nil, Bool.true_and, List.map_nil, List.append_nil, h0] at e
    cases e
  | d :: rest, ms0, x3, x4, x5, x6, hfull, hf, h0, h2 => by
    have fd := hf d (List.mem_cons_self ..)
    have c1 := so_c1 (x0 := some (netD n ts)) (x1 := some (.tup full)) (x2 := some (.lst (ms0.flatten.map .int))) (x3 := some (.int (ms0.length : Nat))) (x5 := x5) (x6 := x6) fd hL hk mh
    cases hp : pairB d with
    | false =>
      have er : ((d :: rest).all pairB && lotM (ts.map prI) (ms0 ++ (d :: rest).map unI)) = false := by rw [List.all_cons, hp]; rfl
      rw [er]
      exact ⟨fun e => (nomatch e), fun _ => loop_rt (σ1 := [some (netD n ts), some (.tup full), some (.lst (ms0.flatten.map .int)), some (.int (ms0.length : Nat)), some d, x5, x6]) (h1 := mh) rfl rfl (seq_rt (if_t (h' := mh) (c1.trans (by rw [hp]; rfl)) (ret_of rfl)))⟩
    | true =>
      obtain ⟨a, b, rfl⟩ := pair_form hp
      have c2 := so_c2 (a := a) (b := b) (fl := ms0.flatten) (x1 := some (.tup full)) (x3 := some (.int (ms0.length : Nat))) (x5 := x5) (x6 := x6) T mh
      have c3 := so_c3 (x0 := some (netD n ts)) (x2 := some (.lst (ms0.flatten.map .int))) (x5 := x5) (x6 := x6) (ms0 := ms0) (rest := tupI [a, b] :: rest) (m := [a, b]) mh
      rw [← hfull] at c3
      have eu : ms0 ++ (tupI [a, b] :: rest).map unI = (ms0 ++ [[a, b]]) ++ rest.map unI := by rw [List.map_cons, unI_tup]; simp
      cases h3 : (!decide ([a, b] ∈ ts.map prI) || (decide (a ∈ ms0.flatten) || decide (b ∈ ms0.flatten))) with
      | true =>
        have er : ((tupI [a, b] :: rest).all pairB && lotM (ts.map prI) (ms0 ++ (tupI [a, b] :: rest).map unI)) = false := by
          rw [Bool.and_eq_false_iff]
          right
          cases q : lotM (ts.map prI) (ms0 ++ (tupI [a, b] :: rest).map unI) with
          | false => rfl
          | true =>
            exfalso
            rw [eu, lotM_iff] at q
            obtain ⟨q1, q2, q3⟩ := q
            have m1 : [a, b] ∈ ts.map prI := q1 _ (by simp)
            rw [List.flatten_append, List.flatten_append, List.append_assoc, List.nodup_append] at q3
            have na : a ∉ ms0.flatten := fun z => q3.2.2 a z a (by simp) rfl
            have nb : b ∉ ms0.flatten := fun z => q3.2.2 b z b (by simp) rfl
            rw [decide_eq_true m1, decide_eq_false na, decide_eq_false nb] at h3
            cases h3
        rw [er]
        exact ⟨fun e => (nomatch e), fun _ => loop_rt (σ1 := [some (netD n ts), some (.tup full), some (.lst (ms0.flatten.map .int)), some (.int (ms0.length : Nat)), some (tupI [a, b]), x5, x6]) (h1 := mh) rfl rfl (ifp false (c1.trans (by rw [hp]; rfl)) (fun e => nomatch e) fun _ => seq_rt (if_t (h' := mh) (c2.trans (by rw [h3])) (ret_of rfl)))⟩
      | false =>
        rw [Bool.or_eq_false_iff, Bool.or_eq_false_iff] at h3
        have m1 : [a, b] ∈ ts.map prI := by simpa using h3.1
        have na : a ∉ ms0.flatten := by simpa using h3.2.1
        have nb : b ∉ ms0.flatten := by simpa using h3.2.2
        have c2' : soC2 [some (netD n ts), some (.tup full), some (.lst (ms0.flatten.map .int)), some (.int (ms0.length : Nat)), some (tupI [a, b]), x5, x6] mh = .ok false mh := c2.trans (by rw [decide_eq_true m1, decide_eq_false na, decide_eq_false nb]; rfl)
        cases h4 : (match ms0.getLast? with | none => false | some l => !decide (l < [a, b])) with
        | true =>
          have er : ((tupI [a, b] :: rest).all pairB && lotM (ts.map prI) (ms0 ++ (tupI [a, b] :: rest).map unI)) = false := by
            rw [Bool.and_eq_false_iff]
            right
            cases q : lotM (ts.map prI) (ms0 ++ (tupI [a, b] :: rest).map unI) with
            | false => rfl
            | true =>
              exfalso
              rw [eu, List.append_assoc, lotM_iff] at q
              obtain ⟨q1, q2, q3⟩ := q
              cases hl : ms0.getLast? with
              | none => rw [hl] at h4; cases h4
              | some l =>
                rw [hl] at h4
                have lm : l ∈ ms0 := List.mem_of_getLast? hl
                have := (List.pairwise_append.mp q2).2.2 l lm [a, b] (by simp)
                simp [this] at h4
          rw [er]
          exact ⟨fun e => (nomatch e), fun _ => loop_rt (σ1 := [some (netD n ts), some (.tup full), some (.lst (ms0.flatten.map .int)), some (.int (ms0.length : Nat)), some (tupI [a, b]), x5, x6]) (h1 := mh) rfl rfl (ifp false (c1.trans (by rw [hp]; rfl)) (fun e => nomatch e) fun _ => ifp false c2' (fun e => nomatch e) fun _ => seq_rt (if_t (h' := mh) (c3.trans (by rw [h4])) (ret_of rfl)))⟩
        | false =>
          have h0' : lotM (ts.map prI) (ms0 ++ [[a, b]]) = true := lotM_snoc (prI_lt T) h0 m1 na nb fun l hl => by
            rw [hl] at h4
            simpa using h4
          have er : ((tupI [a, b] :: rest).all pairB && lotM (ts.map prI) (ms0 ++ (tupI [a, b] :: rest).map unI)) = (rest.all pairB && lotM (ts.map prI) ((ms0 ++ [[a, b]]) ++ rest.map unI)) := by rw [List.all_cons, hp, Bool.true_and, eu]
          rw [er]
          have ih := so_loop hL hk T mh hfl rest (ms0 ++ [[a, b]]) (some (.int (ms0.length : Nat))) (some (tupI [a, b])) x5 x6 (by rw [hfull]; simp) (fun x hx => hf x (List.mem_cons_of_mem _ hx)) h0' (fun m hm => by
            rcases List.mem_append.mp hm with z | z
            · exact h2 m z
            · exact ⟨a, b, List.mem_singleton.mp z⟩)
          have fl := flat_len h2
          have ml : ms0.length ≤ L := by rw [hfull] at hfl; simp at hfl; omega
          have st : soBody [some (netD n ts), some (.tup full), some (.lst (ms0.flatten.map .int)), some (.int (ms0.length : Nat)), some (tupI [a, b]), x5, x6] mh = .nx [some (netD n ts), some (.tup full), some (.lst ((ms0 ++ [[a, b]]).flatten.map .int)), some (.int (ms0.length : Nat)), some (tupI [a, b]), x5, x6] mh := by
            refine ifp false (c1.trans (by rw [hp]; rfl)) (fun e => nomatch e) fun _ => ifp false c2' (fun e => nomatch e) fun _ => ifp false (c3.trans (by rw [h4])) (fun e => nomatch e) fun _ => asg_of (d := .lst ((ms0 ++ [[a, b]]).flatten.map .int)) (h' := mh) (bin_of (x := .lst (ms0.flatten.map .int)) (y := .lst [.int a, .int b]) (h1 := mh) rfl rfl ?_) rfl
            rw [add_lst mh _ _ (by rw [List.length_map, fl]; show 2 * ms0.length + 2 ≤ lim; unfold lim; omega)]
            simp
          have el : (ms0 ++ [[a, b]]).length = ms0.length + 1 := by simp
          rw [el] at ih
          exact ⟨fun e => by obtain ⟨σ', q⟩ := ih.1 e; exact ⟨σ', loop_nx rfl rfl st q⟩, fun e => loop_nx rfl rfl st (ih.2 e)⟩
theorem so_ok {m L k : Nat} {n : Int} {ts : List (Int × Int × Int)} {d : D} (hf : fz m L (k + 2) d = true) (hL : L ≤ 1000) (hk : k ≤ 60) (T : NetOk n ts) (mh : MH) : soF [netD n ts, d] mh = .ok (.bl (lotB (ts.map prI) d)) mh := by
  cases ht : isTup d with
  | false =>
    have : lotB (ts.map prI) d = false := by cases d <;> first | rfl | cases ht
    rw [this]
    exact fn_rt (seq_rt (if_t (h' := mh) (not_of (p := false) (eT_of (by rw [← ht]; exact isi_tup rfl hf))) (ret_of rfl)))
  | true =>
    obtain ⟨xs, rfl⟩ : ∃ xs, d = .tup xs := by cases d <;> first | exact ⟨_, rfl⟩ | cases ht
    have lp := so_loop (m := m) (L := L) (k := k) (full := xs) hL (by omega) T mh (len_fz hf) xs [] none none none none rfl (fun x hx => ix_fz hf hx) (by rw [lotM_iff]; exact ⟨(fun _ z => nomatch z), List.Pairwise.nil, List.nodup_nil⟩) (fun _ z => nomatch z)
    rw [List.nil_append] at lp
    have go : ∀ {r : Fl}, (sSeq (sFor (iEnumM (aCons (eVar 1) aNil)) soG soBody) (sRet (eC (.bl true)))) [some (netD n ts), some (.tup xs), some (.lst []), none, none, none, none] mh = r → soB (startM 7 [netD n ts, .tup xs]) mh = r := fun e =>
      ifp false (not_of (p := true) (eT_of rfl)) (fun e => nomatch e) fun _ => seq_nx (σ' := [some (netD n ts), some (.tup xs), some (.lst []), none, none, none, none]) (h' := mh) (asg_of (d := .lst []) (h' := mh) rfl rfl) e
    show fnM 7 soB _ mh = .ok (.bl (xs.all pairB && lotM (ts.map prI) (xs.map unI))) mh
    cases hr : (xs.all pairB && lotM (ts.map prI) (xs.map unI)) with
    | true =>
      obtain ⟨σ', e⟩ := lp.1 hr
      exact fn_rt (go (seq_nx (for_of (it := ⟨enF 0 xs, noChk⟩) (h1 := mh) (ienum_of rfl) e) (ret_of rfl)))
    | false => exact fn_rt (go (seq_rt (for_of (it := ⟨enF 0 xs, noChk⟩) (h1 := mh) (ienum_of rfl) (lp.2 hr))))
end MI

namespace K02
open PySem PySem.Spec L2 MI
/-! printed by gen.py -/
def top (i : Nat) : Stmt := PySem.Challenge.pw_weighedpairs_k02_lots_and_ties.main.body.getD i (.Pass ⟨0, 0, 0, 0⟩)
theorem bt_LookupError : bootBuiltins "LookupError" = some (.type "LookupError") := by decide +kernel
theorem bt_abs : bootBuiltins "abs" = some (.builtin "abs") := by decide +kernel
theorem bt_all : bootBuiltins "all" = some (.builtin "all") := by decide +kernel
theorem bt_any : bootBuiltins "any" = some (.builtin "any") := by decide +kernel
theorem bt_bool : bootBuiltins "bool" = some (.type "bool") := by decide +kernel
theorem bt_dict : bootBuiltins "dict" = some (.type "dict") := by decide +kernel
theorem bt_enumerate : bootBuiltins "enumerate" = some (.type "enumerate") := by decide +kernel
theorem bt_int : bootBuiltins "int" = some (.type "int") := by decide +kernel
theorem bt_isinstance : bootBuiltins "isinstance" = some (.builtin "isinstance") := by decide +kernel
theorem bt_len : bootBuiltins "len" = some (.builtin "len") := by decide +kernel
theorem bt_list : bootBuiltins "list" = some (.type "list") := by decide +kernel
theorem bt_max : bootBuiltins "max" = some (.builtin "max") := by decide +kernel
theorem bt_min : bootBuiltins "min" = some (.builtin "min") := by decide +kernel
theorem bt_range : bootBuiltins "range" = some (.type "range") := by decide +kernel
theorem bt_repr : bootBuiltins "repr" = some (.builtin "repr") := by decide +kernel
theorem bt_set : bootBuiltins "set" = some (.type "set") := by decide +kernel
theorem bt_sorted : bootBuiltins "sorted" = some (.builtin "sorted") := by decide +kernel
theorem bt_str : bootBuiltins "str" = some (.type "str") := by decide +kernel
theorem bt_sum : bootBuiltins "sum" = some (.builtin "sum") := by decide +kernel
theorem bt_tuple : bootBuiltins "tuple" = some (.type "tuple") := by decide +kernel
theorem bt_zip : bootBuiltins "zip" = some (.type "zip") := by decide +kernel
def bnames : List Str := ["LookupError", "all", "bool", "dict", "enumerate", "int", "isinstance", "len", "list", "max", "min", "range", "repr", "sorted", "sum", "tuple"]
def Bi (m : Md) : Prop := ∀ x : Str, x ∈ bnames → m.mg x = none
def cn : List Str := ["NoTie", "NoThing", "Full"]
def an : List Str := ["one", "other", "thing"]
def tabT : List (Nat × Nat × Bool) := [(0, 0, true), (0, 1, false), (1, 0, false), (1, 1, true)]
def tabI : List (Nat × Tg × Bool) := [(0, .ty "LookupError", true), (0, .own 1, false), (0, .own 0, true), (0, .own 2, false), (1, .ty "LookupError", true), (1, .own 1, true), (1, .own 0, false), (1, .own 2, false)]
def tabX : List (Nat × Nat) := [(0, 0), (0, 1), (1, 2)]
def tabA : List (Nat × Nat) := []
def tst := lookC tabT
def isx := lookT tabI
def xa := inT tabX
def ia := inT tabA
structure CL (n : Nm) (m : Md) : Prop where
  xd_NoTie : XD m n "NoTie" 0 [0, 1]
  xd_NoThing : XD m n "NoThing" 1 [2]
  xn_NoTie : XN m n "NoTie" 0
  xn_NoThing : XN m n "NoThing" 1
  xn_Full : XN m n "Full" 2
  tst : TSt m n tst
  isx : ISt m n isx
  att : ASt m n xa ia
  an_one : n.an 0 = "one"
  an_other : n.an 1 = "other"
  an_thing : n.an 2 = "thing"
def N_is_whole : List Str := ["thing"]
abbrev sc_is_whole : Scope := defScope (top 5)
def dB_is_whole : EvS :=
  (sRet (eAnd (eT (eIsi "int" (eVar 0))) (eNot (eT (eIsi "bool" (eVar 0))))))
def d_is_whole : Fn := fnM 1 dB_is_whole
def L_is_whole (n : Nm) (m : Md) : Prop := Bi m ∧ CL n m
theorem b_is_whole {n : Nm} {X : Cx} {W : WX} (c : Cc (L_is_whole n) n 0 W (fun _ => true) N_is_whole sc_is_whole X) : SSs X n W (defBody (top 5)) dB_is_whole :=
  (ss_one (s_ret (se_and (se_isi c (T := "int") (by decide) (c.var (i := 0) rfl (by decide +kernel) (by decide) (by decide)) (by decide +kernel) (c.gs.1 "isinstance" (by decide +kernel)) (by decide +kernel) (c.gs.1 "int" (by decide +kernel)) bt_int (by decide) (by decide) rfl rfl) (se_one (se_not (se_isi c (T := "bool") (by decide) (c.var (i := 0) rfl (by decide +kernel) (by decide) (by decide)) (by decide +kernel) (c.gs.1 "isinstance" (by decide +kernel)) (by decide +kernel) (c.gs.1 "bool" (by decide +kernel)) bt_bool (by decide) (by decide) rfl rfl))))))
def N_is_thing : List Str := ["web", "thing"]
abbrev sc_is_thing : Scope := defScope (top 6)
def dB_is_thing : EvS :=
  (sRet (eAnd (eT (eCall d_is_whole (aCons (eVar 1) aNil))) (eChain leO ltO (eC (.int 0)) (eVar 1) (eBin ixA (eVar 0) (eC (.int 0))))))
def d_is_thing : Fn := fnM 2 dB_is_thing
def L_is_thing (n : Nm) (m : Md) : Prop := Bi m ∧ GF m n "is_whole" 1 1 d_is_whole ∧ CL n m
theorem b_is_thing {n : Nm} {X : Cx} {W : WX} (c : Cc (L_is_thing n) n 1 W (fun _ => true) N_is_thing sc_is_thing X) : SSs X n W (defBody (top 6)) dB_is_thing :=
  (ss_one (s_ret (se_and (se_call c (c.gs.2.1) (by decide) (by decide +kernel) (by decide) (sa_cons (c.var (i := 1) rfl (by decide +kernel) (by decide) (by decide)) sa_nil rfl) (aCons_len len0) rfl rfl) (se_one (se_chain (le_ok c.u0) (lt_ok c.u0) se_int (c.var (i := 1) rfl (by decide +kernel) (by decide) (by decide)) (se_ixA c (c.var (i := 0) rfl (by decide +kernel) (by decide) (by decide)) se_int (fun _ _ => rfl)) rfl)))))
def N_weights_in : List Str := ["web", "tie"]
abbrev sc_weights_in : Scope := defScope (top 7)
def dB_weights_in : EvS :=
  (sRet (eDictComp (iSeq (eBin ixA (eVar 0) (eC (.int 1)))) (gVar 1) bYes (eSlice false (eVar 1) oNone (oSome (eC (.int 2)))) (eBin ixA (eVar 1) (eC (.int 2))) [1]))
def d_weights_in : Fn := fnM 2 dB_weights_in
def L_weights_in (n : Nm) (m : Md) : Prop := Bi m ∧ CL n m
theorem b_weights_in {n : Nm} {X : Cx} {W : WX} (c : Cc (L_weights_in n) n 0 W (fun _ => true) N_weights_in sc_weights_in X) : SSs X n W (defBody (top 7)) dB_weights_in :=
  (ss_one (s_ret (se_dictComp c (own := [("tie", 1)]) (si_seq (se_ixA c (c.var (i := 0) rfl (by decide +kernel) (by decide) (by decide)) se_int (fun _ _ => rfl))) (by decide +kernel) (by decide) (fun Y c _ => (g_var c (i := 1) rfl (by decide +kernel))) (fun Y c _ => sts_nil) (fun Y c _ => (se_slice false (c.var (i := 1) rfl (by decide +kernel) (by decide) (by decide)) so_none (so_some se_int))) (fun Y c _ => (se_ixA c (c.var (i := 1) rfl (by decide +kernel) (by decide) (by decide)) se_int (fun _ _ => rfl))) (fun _ => rfl))))
def N_pair_of : List Str := ["one", "other"]
abbrev sc_pair_of : Scope := defScope (top 8)
def dB_pair_of : EvS :=
  (sRet (eTup (aCons (eCall min2F (aCons (eVar 0) (aCons (eVar 1) aNil))) (aCons (eCall max2F (aCons (eVar 0) (aCons (eVar 1) aNil))) aNil))))
def d_pair_of : Fn := fnM 2 dB_pair_of
def L_pair_of (n : Nm) (m : Md) : Prop := Bi m ∧ CL n m
theorem b_pair_of {n : Nm} {X : Cx} {W : WX} (c : Cc (L_pair_of n) n 0 W (fun _ => true) N_pair_of sc_pair_of X) : SSs X n W (defBody (top 8)) dB_pair_of :=
  (ss_one (s_ret (se_tup (sa_cons (se_callB c (min2_ok c.calm) min2_noexc (by decide +kernel) (c.gs.1 "min" (by decide +kernel)) bt_min (sa_cons (c.var (i := 0) rfl (by decide +kernel) (by decide) (by decide)) (sa_cons (c.var (i := 1) rfl (by decide +kernel) (by decide) (by decide)) sa_nil rfl) rfl) (by decide) (by decide) rfl rfl) (sa_cons (se_callB c (max2_ok c.calm) max2_noexc (by decide +kernel) (c.gs.1 "max" (by decide +kernel)) bt_max (sa_cons (c.var (i := 0) rfl (by decide +kernel) (by decide) (by decide)) (sa_cons (c.var (i := 1) rfl (by decide +kernel) (by decide) (by decide)) sa_nil rfl) rfl) (by decide) (by decide) rfl rfl) sa_nil rfl) rfl))))
def N_is_pair : List Str := ["thing"]
abbrev sc_is_pair : Scope := defScope (top 9)
def dB_is_pair : EvS :=
  (sRet (eAnd (eT (eIsi "tuple" (eVar 0))) (eAnd (eT (eBin eqO (eCall lenA (aCons (eVar 0) aNil)) (eC (.int 2)))) (eAnd (eT (eCall d_is_whole (aCons (eBin ixA (eVar 0) (eC (.int 0))) aNil))) (eCall d_is_whole (aCons (eBin ixA (eVar 0) (eC (.int 1))) aNil))))))
def d_is_pair : Fn := fnM 1 dB_is_pair
def L_is_pair (n : Nm) (m : Md) : Prop := Bi m ∧ GF m n "is_whole" 1 1 d_is_whole ∧ CL n m
theorem b_is_pair {n : Nm} {X : Cx} {W : WX} (c : Cc (L_is_pair n) n 1 W (fun _ => true) N_is_pair sc_is_pair X) : SSs X n W (defBody (top 9)) dB_is_pair :=
  (ss_one (s_ret (se_and (se_isi c (T := "tuple") (by decide) (c.var (i := 0) rfl (by decide +kernel) (by decide) (by decide)) (by decide +kernel) (c.gs.1 "isinstance" (by decide +kernel)) (by decide +kernel) (c.gs.1 "tuple" (by decide +kernel)) bt_tuple (by decide) (by decide) rfl rfl) (se_and (se_cmp (eq_ok c.u64) (se_callB c lenA_ok lenA_noexc (by decide +kernel) (c.gs.1 "len" (by decide +kernel)) bt_len (sa_cons (c.var (i := 0) rfl (by decide +kernel) (by decide) (by decide)) sa_nil rfl) (by decide) (by decide) rfl rfl) se_int rfl) (se_and (se_call c (c.gs.2.1) (by decide) (by decide +kernel) (by decide) (sa_cons (se_ixA c (c.var (i := 0) rfl (by decide +kernel) (by decide) (by decide)) se_int (fun _ _ => rfl)) sa_nil rfl) (aCons_len len0) rfl rfl) (se_one (se_call c (c.gs.2.1) (by decide) (by decide +kernel) (by decide) (sa_cons (se_ixA c (c.var (i := 0) rfl (by decide +kernel) (by decide) (by decide)) se_int (fun _ _ => rfl)) sa_nil rfl) (aCons_len len0) rfl rfl)))))))
def N_is_lot : List Str := ["web", "thing", "known", "pair", "one"]
abbrev sc_is_lot : Scope := defScope (top 10)
def dB_is_lot : EvS :=
  (sSeq (sIf (bOr (bNot (eT (eIsi "tuple" (eVar 1)))) (bNot (eT (eCall (seqF allG) (aCons (eComp false (iSeq (eVar 1)) (gVar 3) bYes (eCall d_is_pair (aCons (eVar 3) aNil)) [3]) aNil))))) (sRet (eC (.bl false))) sSkip)
  (sSeq (sAsg (eCall d_weights_in (aCons (eVar 0) aNil)) (gVar 2))
  (sSeq (sIf (bOr (bNot (eT (eCall (seqF allG) (aCons (eComp false (iSeq (eVar 1)) (gVar 3) bYes (eBin inA (eVar 3) (eVar 2)) [3]) aNil)))) (eT (eBin neO (eCall (seqF (listG false)) (aCons (eVar 1) aNil)) (eCall (sortedF false) (aCons (eVar 1) aNil))))) (sRet (eC (.bl false))) sSkip)
  (sRet (eBin eqO (eLenSetC2 (iSeq (eVar 1)) (gVar 3) bYes (iSeq (eVar 3)) (gVar 4) bYes (eVar 4) [3, 4] [4]) (eBin mulO (eC (.int 2)) (eCall lenA (aCons (eVar 1) aNil))))))))
def d_is_lot : Fn := fnM 5 dB_is_lot
def L_is_lot (n : Nm) (m : Md) : Prop := Bi m ∧ GF m n "weights_in" 1 1 d_weights_in ∧ GF m n "is_pair" 2 1 d_is_pair ∧ CL n m
theorem b_is_lot {n : Nm} {X : Cx} {W : WX} (c : Cc (L_is_lot n) n 2 W (fun _ => true) N_is_lot sc_is_lot X) : SSs X n W (defBody (top 10)) dB_is_lot :=
  (ss_cons (s_if (PW.pt (sw_or (st_not (st_val (se_isi c (T := "tuple") (by decide) (c.var (i := 1) rfl (by decide +kernel) (by decide) (by decide)) (by decide +kernel) (c.gs.1 "isinstance" (by decide +kernel)) (by decide +kernel) (c.gs.1 "tuple" (by decide +kernel)) bt_tuple (by decide) (by decide) rfl rfl) (fun _ => rfl))) (sw_or1 (st_not (st_val (se_callB c (all_ok c.calm) all_noexc (by decide +kernel) (c.gs.1 "all" (by decide +kernel)) bt_all (sa_cons (se_comp c (own := [("pair", 3)]) false (si_seq (c.var (i := 1) rfl (by decide +kernel) (by decide) (by decide))) (by decide +kernel) (by decide) (fun Y c _ => (g_var c (i := 3) rfl (by decide +kernel))) (fun Y c _ => sts_nil) (fun Y c _ => (se_call c (c.gs.2.2.1) (by decide) (by decide +kernel) (by decide) (sa_cons (c.var (i := 3) rfl (by decide +kernel) (by decide) (by decide)) sa_nil rfl) (aCons_len len0) rfl rfl)) (fun _ => rfl)) sa_nil rfl) (by decide) (by decide) rfl rfl) (fun _ => rfl)))))) (ss_one (s_ret se_bl)) ss_nil)
  (ss_cons (s_asg (se_call c (c.gs.2.1) (by decide) (by decide +kernel) (by decide) (sa_cons (c.var (i := 0) rfl (by decide +kernel) (by decide) (by decide)) sa_nil rfl) (aCons_len len0) rfl rfl) (g_var c (i := 2) rfl (by decide +kernel)) rfl rfl rfl)
  (ss_cons (s_if (PW.pt (sw_or (st_not (st_val (se_callB c (all_ok c.calm) all_noexc (by decide +kernel) (c.gs.1 "all" (by decide +kernel)) bt_all (sa_cons (se_comp c (own := [("pair", 3)]) false (si_seq (c.var (i := 1) rfl (by decide +kernel) (by decide) (by decide))) (by decide +kernel) (by decide) (fun Y c _ => (g_var c (i := 3) rfl (by decide +kernel))) (fun Y c _ => sts_nil) (fun Y c _ => (se_cmp (in_ok c.u70) (c.var (i := 3) rfl (by decide +kernel) (by decide) (by decide)) (c.var (i := 2) rfl (by decide +kernel) (by decide) (by decide)) rfl)) (fun _ => rfl)) sa_nil rfl) (by decide) (by decide) rfl rfl) (fun _ => rfl))) (sw_or1 (st_cmp (ne_ok c.u64) (se_callT c (list_ok false) list_noexc (by decide +kernel) (c.gs.1 "list" (by decide +kernel)) bt_list (sa_cons (c.var (i := 1) rfl (by decide +kernel) (by decide) (by decide)) sa_nil rfl) (by decide) (by decide) rfl rfl) (se_callB c (sorted_ok c.calm c.u64 false) sorted_noexc (by decide +kernel) (c.gs.1 "sorted" (by decide +kernel)) bt_sorted (sa_cons (c.var (i := 1) rfl (by decide +kernel) (by decide) (by decide)) sa_nil rfl) (by decide) (by decide) rfl rfl) rfl)))) (ss_one (s_ret se_bl)) ss_nil)
  (ss_one (s_ret (se_cmp (eq_ok c.u64) (se_lenSetC2 c (own := [("pair", 3), ("one", 4)]) (vs1 := [4]) (by decide +kernel) (c.gs.1 "len" (by decide +kernel)) (si_seq (c.var (i := 1) rfl (by decide +kernel) (by decide) (by decide))) (by decide +kernel) (by decide) (by decide) (by decide) (fun Y c _ => (g_var c (i := 3) rfl (by decide +kernel))) (fun Y c _ => sts_nil) (fun Y c _ => (si_seq (c.var (i := 3) rfl (by decide +kernel) (by decide) (by decide)))) (fun Y c _ => (g_var c (i := 4) rfl (by decide +kernel))) (fun Y c _ => sts_nil) (fun Y c _ => (c.var (i := 4) rfl (by decide +kernel) (by decide) (by decide))) (fun _ => rfl) (fun _ _ => rfl) rfl) (se_bin mul_ok se_int (se_callB c lenA_ok lenA_noexc (by decide +kernel) (c.gs.1 "len" (by decide +kernel)) bt_len (sa_cons (c.var (i := 1) rfl (by decide +kernel) (by decide) (by decide)) sa_nil rfl) (by decide) (by decide) rfl rfl)) rfl))))))
def N_weight_of : List Str := ["web", "lot", "known", "pair"]
abbrev sc_weight_of : Scope := defScope (top 11)
def dB_weight_of : EvS :=
  (sSeq (sAsg (eCall d_weights_in (aCons (eVar 0) aNil)) (gVar 2))
  (sRet (eCall (seqF sumG) (aCons (eComp false (iSeq (eVar 1)) (gVar 3) bYes (eBin ixA (eVar 2) (eVar 3)) [3]) aNil))))
def d_weight_of : Fn := fnM 4 dB_weight_of
def L_weight_of (n : Nm) (m : Md) : Prop := Bi m ∧ GF m n "weights_in" 1 1 d_weights_in ∧ CL n m
theorem b_weight_of {n : Nm} {X : Cx} {W : WX} (c : Cc (L_weight_of n) n 1 W (fun _ => true) N_weight_of sc_weight_of X) : SSs X n W (defBody (top 11)) dB_weight_of :=
  (ss_cons (s_asg (se_call c (c.gs.2.1) (by decide) (by decide +kernel) (by decide) (sa_cons (c.var (i := 0) rfl (by decide +kernel) (by decide) (by decide)) sa_nil rfl) (aCons_len len0) rfl rfl) (g_var c (i := 2) rfl (by decide +kernel)) rfl rfl rfl)
  (ss_one (s_ret (se_callB c (sum_ok c.calm) sum_noexc (by decide +kernel) (c.gs.1 "sum" (by decide +kernel)) bt_sum (sa_cons (se_comp c (own := [("pair", 3)]) false (si_seq (c.var (i := 1) rfl (by decide +kernel) (by decide) (by decide))) (by decide +kernel) (by decide) (fun Y c _ => (g_var c (i := 3) rfl (by decide +kernel))) (fun Y c _ => sts_nil) (fun Y c _ => (se_ixA c (c.var (i := 2) rfl (by decide +kernel) (by decide) (by decide)) (c.var (i := 3) rfl (by decide +kernel) (by decide) (by decide)) (fun _ _ => rfl))) (fun _ => rfl)) sa_nil rfl) (by decide) (by decide) rfl rfl))))
def N_look_at_tie : List Str := ["web", "one", "other"]
abbrev sc_look_at_tie : Scope := defScope (top 12)
def dB_look_at_tie : EvS :=
  (sSeq (sIf (bOr (bNot (eT (eCall d_is_thing (aCons (eVar 0) (aCons (eVar 1) aNil))))) (bOr (bNot (eT (eCall d_is_thing (aCons (eVar 0) (aCons (eVar 2) aNil))))) (eT (eBin notInA (eCall d_pair_of (aCons (eVar 1) (aCons (eVar 2) aNil))) (eCall d_weights_in (aCons (eVar 0) aNil)))))) (sRaise 0 [0, 1] (aCons (eVar 1) (aCons (eVar 2) aNil))) sSkip)
  (sRet (eCall d_pair_of (aCons (eVar 1) (aCons (eVar 2) aNil)))))
def d_look_at_tie : Fn := fnM 3 dB_look_at_tie
def L_look_at_tie (n : Nm) (m : Md) : Prop := Bi m ∧ GF m n "is_thing" 2 2 d_is_thing ∧ GF m n "weights_in" 1 1 d_weights_in ∧ GF m n "pair_of" 1 2 d_pair_of ∧ CL n m
theorem b_look_at_tie {n : Nm} {X : Cx} {W : WX} (c : Cc (L_look_at_tie n) n 2 W (fun _ => true) N_look_at_tie sc_look_at_tie X) : SSs X n W (defBody (top 12)) dB_look_at_tie :=
  (ss_cons (s_if (PW.pt (sw_or (st_not (st_val (se_call c (c.gs.2.1) (by decide) (by decide +kernel) (by decide) (sa_cons (c.var (i := 0) rfl (by decide +kernel) (by decide) (by decide)) (sa_cons (c.var (i := 1) rfl (by decide +kernel) (by decide) (by decide)) sa_nil rfl) rfl) (aCons_len (aCons_len len0)) rfl rfl) (fun _ => rfl))) (sw_or (st_not (st_val (se_call c (c.gs.2.1) (by decide) (by decide +kernel) (by decide) (sa_cons (c.var (i := 0) rfl (by decide +kernel) (by decide) (by decide)) (sa_cons (c.var (i := 2) rfl (by decide +kernel) (by decide) (by decide)) sa_nil rfl) rfl) (aCons_len (aCons_len len0)) rfl rfl) (fun _ => rfl))) (sw_or1 (st_cmp (notIn_ok c.u70) (se_call c (c.gs.2.2.2.1) (by decide) (by decide +kernel) (by decide) (sa_cons (c.var (i := 1) rfl (by decide +kernel) (by decide) (by decide)) (sa_cons (c.var (i := 2) rfl (by decide +kernel) (by decide) (by decide)) sa_nil rfl) rfl) (aCons_len (aCons_len len0)) rfl rfl) (se_call c (c.gs.2.2.1) (by decide) (by decide +kernel) (by decide) (sa_cons (c.var (i := 0) rfl (by decide +kernel) (by decide) (by decide)) sa_nil rfl) (aCons_len len0) rfl rfl) rfl))))) (ss_one (s_raise c (c.gs.2.2.2.2).xd_NoTie (by decide) (by decide +kernel) (by decide) (sa_cons (c.var (i := 1) rfl (by decide +kernel) (by decide) (by decide)) (sa_cons (c.var (i := 2) rfl (by decide +kernel) (by decide) (by decide)) sa_nil rfl) rfl) rfl rfl)) ss_nil)
  (ss_one (s_ret (se_call c (c.gs.2.2.2.1) (by decide) (by decide +kernel) (by decide) (sa_cons (c.var (i := 1) rfl (by decide +kernel) (by decide) (by decide)) (sa_cons (c.var (i := 2) rfl (by decide +kernel) (by decide) (by decide)) sa_nil rfl) rfl) (aCons_len (aCons_len len0)) rfl rfl))))
def N_look_at_thing : List Str := ["web", "thing"]
abbrev sc_look_at_thing : Scope := defScope (top 13)
def dB_look_at_thing : EvS :=
  (sIf (bNot (eT (eCall d_is_thing (aCons (eVar 0) (aCons (eVar 1) aNil))))) (sRaise 1 [2] (aCons (eVar 1) aNil)) sSkip)
def d_look_at_thing : Fn := fnM 2 dB_look_at_thing
def L_look_at_thing (n : Nm) (m : Md) : Prop := Bi m ∧ GF m n "is_thing" 2 2 d_is_thing ∧ CL n m
theorem b_look_at_thing {n : Nm} {X : Cx} {W : WX} (c : Cc (L_look_at_thing n) n 2 W (fun _ => true) N_look_at_thing sc_look_at_thing X) : SSs X n W (defBody (top 13)) dB_look_at_thing :=
  (ss_one (s_if (st_not (st_val (se_call c (c.gs.2.1) (by decide) (by decide +kernel) (by decide) (sa_cons (c.var (i := 0) rfl (by decide +kernel) (by decide) (by decide)) (sa_cons (c.var (i := 1) rfl (by decide +kernel) (by decide) (by decide)) sa_nil rfl) rfl) (aCons_len (aCons_len len0)) rfl rfl) (fun _ => rfl))) (ss_one (s_raise c (c.gs.2.2).xd_NoThing (by decide) (by decide +kernel) (by decide) (sa_cons (c.var (i := 1) rfl (by decide +kernel) (by decide) (by decide)) sa_nil rfl) rfl rfl)) ss_nil))
def N_tie_weight : List Str := ["web", "one", "other"]
abbrev sc_tie_weight : Scope := defScope (top 14)
def dB_tie_weight : EvS :=
  (sRet (eBin ixA (eCall d_weights_in (aCons (eVar 0) aNil)) (eCall d_look_at_tie (aCons (eVar 0) (aCons (eVar 1) (aCons (eVar 2) aNil))))))
def d_tie_weight : Fn := fnM 3 dB_tie_weight
def L_tie_weight (n : Nm) (m : Md) : Prop := Bi m ∧ GF m n "weights_in" 1 1 d_weights_in ∧ GF m n "look_at_tie" 3 3 d_look_at_tie ∧ CL n m
theorem b_tie_weight {n : Nm} {X : Cx} {W : WX} (c : Cc (L_tie_weight n) n 3 W (fun _ => true) N_tie_weight sc_tie_weight X) : SSs X n W (defBody (top 14)) dB_tie_weight :=
  (ss_one (s_ret (se_ixA c (se_call c (c.gs.2.1) (by decide) (by decide +kernel) (by decide) (sa_cons (c.var (i := 0) rfl (by decide +kernel) (by decide) (by decide)) sa_nil rfl) (aCons_len len0) rfl rfl) (se_call c (c.gs.2.2.1) (by decide) (by decide +kernel) (by decide) (sa_cons (c.var (i := 0) rfl (by decide +kernel) (by decide) (by decide)) (sa_cons (c.var (i := 1) rfl (by decide +kernel) (by decide) (by decide)) (sa_cons (c.var (i := 2) rfl (by decide +kernel) (by decide) (by decide)) sa_nil rfl) rfl) rfl) (aCons_len (aCons_len (aCons_len len0))) rfl rfl) (fun _ _ => rfl))))
def N_beside : List Str := ["web", "thing", "tie"]
abbrev sc_beside : Scope := defScope (top 15)
def dB_beside : EvS :=
  (sSeq (sDrop (eCall d_look_at_thing (aCons (eVar 0) (aCons (eVar 1) aNil))))
  (sRet (eCall (sortedF true) (aCons (eComp false (iSeq (eBin ixA (eVar 0) (eC (.int 1)))) (gVar 2) (eT (eBin inA (eVar 1) (eSlice false (eVar 2) oNone (oSome (eC (.int 2)))))) (eBin subO (eBin addO (eBin ixA (eVar 2) (eC (.int 0))) (eBin ixA (eVar 2) (eC (.int 1)))) (eVar 1)) [2]) aNil))))
def d_beside : Fn := fnM 3 dB_beside
def L_beside (n : Nm) (m : Md) : Prop := Bi m ∧ GF m n "look_at_thing" 3 2 d_look_at_thing ∧ CL n m
theorem b_beside {n : Nm} {X : Cx} {W : WX} (c : Cc (L_beside n) n 3 W (fun _ => true) N_beside sc_beside X) : SSs X n W (defBody (top 15)) dB_beside :=
  (ss_cons (s_drop (se_call c (c.gs.2.1) (by decide) (by decide +kernel) (by decide) (sa_cons (c.var (i := 0) rfl (by decide +kernel) (by decide) (by decide)) (sa_cons (c.var (i := 1) rfl (by decide +kernel) (by decide) (by decide)) sa_nil rfl) rfl) (aCons_len (aCons_len len0)) rfl rfl) rfl)
  (ss_one (s_ret (se_callB c (sorted_ok c.calm c.u64 true) sorted_noexc (by decide +kernel) (c.gs.1 "sorted" (by decide +kernel)) bt_sorted (sa_cons (se_comp c (own := [("tie", 2)]) false (si_seq (se_ixA c (c.var (i := 0) rfl (by decide +kernel) (by decide) (by decide)) se_int (fun _ _ => rfl))) (by decide +kernel) (by decide) (fun Y c _ => (g_var c (i := 2) rfl (by decide +kernel))) (fun Y c _ => sts_one (st_cmp (in_ok c.u70) (c.var (i := 1) rfl (by decide +kernel) (by decide) (by decide)) (se_slice false (c.var (i := 2) rfl (by decide +kernel) (by decide) (by decide)) so_none (so_some se_int)) rfl)) (fun Y c _ => (se_bin sub_ok (se_bin add_ok (se_ixA c (c.var (i := 2) rfl (by decide +kernel) (by decide) (by decide)) se_int (fun _ _ => rfl)) (se_ixA c (c.var (i := 2) rfl (by decide +kernel) (by decide) (by decide)) se_int (fun _ _ => rfl))) (c.var (i := 1) rfl (by decide +kernel) (by decide) (by decide)))) (fun _ => rfl)) sa_nil rfl) (by decide) (by decide) rfl rfl))))
def N_l_is_whole : List Str := ["_law_what"]
abbrev sc_l_is_whole : Scope := defScope (top 17)
def dB_l_is_whole : EvS :=
  (sRet (eAnd (eT (eIsi "int" (eVar 0))) (eNot (eT (eIsi "bool" (eVar 0))))))
def d_l_is_whole : Fn := fnM 1 dB_l_is_whole
def L_l_is_whole (n : Nm) (m : Md) : Prop := Bi m ∧ CL n m
theorem b_l_is_whole {n : Nm} {X : Cx} {W : WX} (c : Cc (L_l_is_whole n) n 0 W (fun _ => true) N_l_is_whole sc_l_is_whole X) : SSs X n W (defBody (top 17)) dB_l_is_whole :=
  (ss_one (s_ret (se_and (se_isi c (T := "int") (by decide) (c.var (i := 0) rfl (by decide +kernel) (by decide) (by decide)) (by decide +kernel) (c.gs.1 "isinstance" (by decide +kernel)) (by decide +kernel) (c.gs.1 "int" (by decide +kernel)) bt_int (by decide) (by decide) rfl rfl) (se_one (se_not (se_isi c (T := "bool") (by decide) (c.var (i := 0) rfl (by decide +kernel) (by decide) (by decide)) (by decide +kernel) (c.gs.1 "isinstance" (by decide +kernel)) (by decide +kernel) (c.gs.1 "bool" (by decide +kernel)) bt_bool (by decide) (by decide) rfl rfl))))))
def N_l_draw : List Str := ["_law_pool_here", "_law_many", "_law_found"]
abbrev sc_l_draw : Scope := defScope (top 18)
def dB_l_draw : EvS :=
  (sSeq (sIf (eT (eBin gtO (eBin ixA (eVar 0) (eC (.int 0))) (eC (.int 0)))) (sSeq (sAsg (eBin modO (eBin ixA (eVar 0) (eC (.int 0))) (eVar 1)) (gVar 2))
  (sSeq (sAsg (eBin fdivO (eBin ixA (eVar 0) (eC (.int 0))) (eVar 1)) (gSubM (eVar 0) (eC (.int 0)) setAF))
  (sRet (eVar 2)))) sSkip)
  (sSeq (sAsg (eBin modO (eBin addO (eBin mulO (eBin ixA (eVar 0) (eC (.int 1))) (eC (.int 69621))) (eC (.int 7))) (eC (.int 2147483647))) (gSubM (eVar 0) (eC (.int 1)) setAF))
  (sRet (eBin modO (eBin fdivO (eBin modO (eBin mulO (eBin ixA (eVar 0) (eC (.int 1))) (eBin ixA (eVar 0) (eC (.int 1)))) (eC (.int 2147483629))) (eC (.int 32))) (eVar 1)))))
def d_l_draw : Fn := fnM 3 dB_l_draw
def L_l_draw (n : Nm) (m : Md) : Prop := Bi m ∧ CL n m
theorem b_l_draw {n : Nm} {X : Cx} {W : WX} (c : Cc (L_l_draw n) n 0 W (fun _ => true) N_l_draw sc_l_draw X) : SSs X n W (defBody (top 18)) dB_l_draw :=
  (ss_cons (s_if (st_cmp gt_ok (se_ixA c (c.var (i := 0) rfl (by decide +kernel) (by decide) (by decide)) se_int (fun _ _ => rfl)) se_int rfl) (ss_cons (s_asg (se_bin mod_ok (se_ixA c (c.var (i := 0) rfl (by decide +kernel) (by decide) (by decide)) se_int (fun _ _ => rfl)) (c.var (i := 1) rfl (by decide +kernel) (by decide) (by decide))) (g_var c (i := 2) rfl (by decide +kernel)) rfl rfl rfl)
  (ss_cons (s_asg (se_bin fdiv_ok (se_ixA c (c.var (i := 0) rfl (by decide +kernel) (by decide) (by decide)) se_int (fun _ _ => rfl)) (c.var (i := 1) rfl (by decide +kernel) (by decide) (by decide))) (g_sub (c.var (i := 0) rfl (by decide +kernel) (by decide) (by decide)) se_int (setA_ok c.u64) (fun _ => rfl)) rfl rfl rfl)
  (ss_one (s_ret (c.var (i := 2) rfl (by decide +kernel) (by decide) (by decide)))))) ss_nil)
  (ss_cons (s_asg (se_bin mod_ok (se_bin add_ok (se_bin mul_ok (se_ixA c (c.var (i := 0) rfl (by decide +kernel) (by decide) (by decide)) se_int (fun _ _ => rfl)) se_int) se_int) se_int) (g_sub (c.var (i := 0) rfl (by decide +kernel) (by decide) (by decide)) se_int (setA_ok c.u64) (fun _ => rfl)) rfl rfl rfl)
  (ss_one (s_ret (se_bin mod_ok (se_bin fdiv_ok (se_bin mod_ok (se_bin mul_ok (se_ixA c (c.var (i := 0) rfl (by decide +kernel) (by decide) (by decide)) se_int (fun _ _ => rfl)) (se_ixA c (c.var (i := 0) rfl (by decide +kernel) (by decide) (by decide)) se_int (fun _ _ => rfl))) se_int) se_int) (c.var (i := 1) rfl (by decide +kernel) (by decide) (by decide)))))))
def N_l_hefts : List Str := ["_law_net_here", "_law_tie"]
abbrev sc_l_hefts : Scope := defScope (top 19)
def dB_l_hefts : EvS :=
  (sRet (eCall (seqF dictG) (aCons (eComp false (iSeq (eBin ixA (eVar 0) (eC (.int 1)))) (gVar 1) bYes (eTup (aCons (eSlice false (eVar 1) oNone (oSome (eC (.int 2)))) (aCons (eBin ixA (eVar 1) (eC (.int 2))) aNil))) [1]) aNil)))
def d_l_hefts : Fn := fnM 2 dB_l_hefts
def L_l_hefts (n : Nm) (m : Md) : Prop := Bi m ∧ CL n m
theorem b_l_hefts {n : Nm} {X : Cx} {W : WX} (c : Cc (L_l_hefts n) n 0 W (fun _ => true) N_l_hefts sc_l_hefts X) : SSs X n W (defBody (top 19)) dB_l_hefts :=
  (ss_one (s_ret (se_callT c (dict_ok c.calm c.u64) dict_noexc (by decide +kernel) (c.gs.1 "dict" (by decide +kernel)) bt_dict (sa_cons (se_comp c (own := [("_law_tie", 1)]) false (si_seq (se_ixA c (c.var (i := 0) rfl (by decide +kernel) (by decide) (by decide)) se_int (fun _ _ => rfl))) (by decide +kernel) (by decide) (fun Y c _ => (g_var c (i := 1) rfl (by decide +kernel))) (fun Y c _ => sts_nil) (fun Y c _ => (se_tup (sa_cons (se_slice false (c.var (i := 1) rfl (by decide +kernel) (by decide) (by decide)) so_none (so_some se_int)) (sa_cons (se_ixA c (c.var (i := 1) rfl (by decide +kernel) (by decide) (by decide)) se_int (fun _ _ => rfl)) sa_nil rfl) rfl))) (fun _ => rfl)) sa_nil rfl) (by decide) (by decide) rfl rfl)))
def N_l_pool : List Str := ["_law_script", "_law_k", "_law_cell", "_law_tall", "_law_mixed"]
abbrev sc_l_pool : Scope := defScope (top 20)
def dB_l_pool : EvS :=
  (sSeq (sAsg (eC (.int 0)) (gVar 2))
  (sSeq (sIf (eT (eBin ltO (eVar 1) (eCall lenA (aCons (eVar 0) aNil)))) (sAsg (eBin ixA (eVar 0) (eVar 1)) (gVar 2)) sSkip)
  (sSeq (sAsg (eCall max2F (aCons (eVar 2) (aCons (eBin subO (eNeg (eC (.int 1))) (eVar 2)) aNil))) (gVar 3))
  (sSeq (sAsg (eBin modO (eBin mulO (eBin addO (eBin addO (eBin addO (eBin modO (eVar 3) (eC (.int 2147483629))) (eBin mulO (eBin mulO (eC (.int 7919)) (eVar 1)) (eVar 1))) (eBin mulO (eC (.int 31)) (eVar 1))) (eC (.int 17))) (eC (.int 48271))) (eC (.int 2147483647))) (gVar 4))
  (sRet (eLst true (aCons (eBin mulO (eVar 3) (eCall intF (aCons (eBin geO (eVar 3) (eBin powO (eC (.int 10)) (eC (.int 18)))) aNil))) (aCons (eVar 4) aNil))))))))
def d_l_pool : Fn := fnM 5 dB_l_pool
def L_l_pool (n : Nm) (m : Md) : Prop := Bi m ∧ CL n m
theorem b_l_pool {n : Nm} {X : Cx} {W : WX} (c : Cc (L_l_pool n) n 0 W (fun _ => true) N_l_pool sc_l_pool X) : SSs X n W (defBody (top 20)) dB_l_pool :=
  (ss_cons (s_asg se_int (g_var c (i := 2) rfl (by decide +kernel)) rfl rfl rfl)
  (ss_cons (s_if (st_cmp (lt_ok c.u0) (c.var (i := 1) rfl (by decide +kernel) (by decide) (by decide)) (se_callB c lenA_ok lenA_noexc (by decide +kernel) (c.gs.1 "len" (by decide +kernel)) bt_len (sa_cons (c.var (i := 0) rfl (by decide +kernel) (by decide) (by decide)) sa_nil rfl) (by decide) (by decide) rfl rfl) rfl) (ss_one (s_asg (se_ixA c (c.var (i := 0) rfl (by decide +kernel) (by decide) (by decide)) (c.var (i := 1) rfl (by decide +kernel) (by decide) (by decide)) (fun _ _ => rfl)) (g_var c (i := 2) rfl (by decide +kernel)) rfl rfl rfl)) ss_nil)
  (ss_cons (s_asg (se_callB c (max2_ok c.calm) max2_noexc (by decide +kernel) (c.gs.1 "max" (by decide +kernel)) bt_max (sa_cons (c.var (i := 2) rfl (by decide +kernel) (by decide) (by decide)) (sa_cons (se_bin sub_ok (se_neg se_int) (c.var (i := 2) rfl (by decide +kernel) (by decide) (by decide))) sa_nil rfl) rfl) (by decide) (by decide) rfl rfl) (g_var c (i := 3) rfl (by decide +kernel)) rfl rfl rfl)
  (ss_cons (s_asg (se_bin mod_ok (se_bin mul_ok (se_bin add_ok (se_bin add_ok (se_bin add_ok (se_bin mod_ok (c.var (i := 3) rfl (by decide +kernel) (by decide) (by decide)) se_int) (se_bin mul_ok (se_bin mul_ok se_int (c.var (i := 1) rfl (by decide +kernel) (by decide) (by decide))) (c.var (i := 1) rfl (by decide +kernel) (by decide) (by decide)))) (se_bin mul_ok se_int (c.var (i := 1) rfl (by decide +kernel) (by decide) (by decide)))) se_int) se_int) se_int) (g_var c (i := 4) rfl (by decide +kernel)) rfl rfl rfl)
  (ss_one (s_ret (se_lst true (sa_cons (se_bin mul_ok (c.var (i := 3) rfl (by decide +kernel) (by decide) (by decide)) (se_callT c int_ok int_noexc (by decide +kernel) (c.gs.1 "int" (by decide +kernel)) bt_int (sa_cons (se_cmp ge_ok (c.var (i := 3) rfl (by decide +kernel) (by decide) (by decide)) (se_bin pow_ok se_int se_int) rfl) sa_nil rfl) (by decide) (by decide) rfl rfl)) (sa_cons (c.var (i := 4) rfl (by decide +kernel) (by decide) (by decide)) sa_nil rfl) rfl))))))))
def N_l_heft : List Str := ["_law_pool_here", "_law_some"]
abbrev sc_l_heft : Scope := defScope (top 21)
def dB_l_heft : EvS :=
  (sSeq (sAsg (eLst false (aCons (eC (.int 0)) (aCons (eC (.int 1)) (aCons (eC (.int 2)) (aCons (eC (.int 3)) (aCons (eC (.int 5)) (aCons (eC (.int 7)) (aCons (eNeg (eC (.int 1))) (aCons (eNeg (eC (.int 4))) (aCons (eBin powO (eC (.int 10)) (eC (.int 6))) (aCons (eBin subO (eC (.int 0)) (eBin powO (eC (.int 10)) (eC (.int 6)))) (aCons (eCall d_l_draw (aCons (eVar 0) (aCons (eC (.int 30)) aNil))) (aCons (eCall d_l_draw (aCons (eVar 0) (aCons (eC (.int 9)) aNil))) aNil))))))))))))) (gVar 1))
  (sRet (eBin ixA (eVar 1) (eCall d_l_draw (aCons (eVar 0) (aCons (eC (.int 12)) aNil))))))
def d_l_heft : Fn := fnM 2 dB_l_heft
def L_l_heft (n : Nm) (m : Md) : Prop := Bi m ∧ GF m n "_law_draw" 1 2 d_l_draw ∧ CL n m
theorem b_l_heft {n : Nm} {X : Cx} {W : WX} (c : Cc (L_l_heft n) n 1 W (fun _ => true) N_l_heft sc_l_heft X) : SSs X n W (defBody (top 21)) dB_l_heft :=
  (ss_cons (s_asg (se_lst false (sa_cons se_int (sa_cons se_int (sa_cons se_int (sa_cons se_int (sa_cons se_int (sa_cons se_int (sa_cons (se_neg se_int) (sa_cons (se_neg se_int) (sa_cons (se_bin pow_ok se_int se_int) (sa_cons (se_bin sub_ok se_int (se_bin pow_ok se_int se_int)) (sa_cons (se_call c (c.gs.2.1) (by decide) (by decide +kernel) (by decide) (sa_cons (c.var (i := 0) rfl (by decide +kernel) (by decide) (by decide)) (sa_cons se_int sa_nil rfl) rfl) (aCons_len (aCons_len len0)) rfl rfl) (sa_cons (se_call c (c.gs.2.1) (by decide) (by decide +kernel) (by decide) (sa_cons (c.var (i := 0) rfl (by decide +kernel) (by decide) (by decide)) (sa_cons se_int sa_nil rfl) rfl) (aCons_len (aCons_len len0)) rfl rfl) sa_nil rfl) rfl) rfl) rfl) rfl) rfl) rfl) rfl) rfl) rfl) rfl) rfl)) (g_var c (i := 1) rfl (by decide +kernel)) rfl rfl rfl)
  (ss_one (s_ret (se_ixA c (c.var (i := 1) rfl (by decide +kernel) (by decide) (by decide)) (se_call c (c.gs.2.1) (by decide) (by decide +kernel) (by decide) (sa_cons (c.var (i := 0) rfl (by decide +kernel) (by decide) (by decide)) (sa_cons se_int sa_nil rfl) rfl) (aCons_len (aCons_len len0)) rfl rfl) (fun _ _ => rfl)))))
def N_l_net : List Str := ["_law_pool_here", "_law_limit", "_law_size", "_law_dense", "_law_ties", "_law_low", "_law_high"]
abbrev sc_l_net : Scope := defScope (top 22)
def dB_l_net : EvS :=
  (sSeq (sAsg (eCall d_l_draw (aCons (eVar 0) (aCons (eBin addO (eVar 1) (eC (.int 1))) aNil))) (gVar 2))
  (sSeq (sAsg (eBin addO (eC (.int 1)) (eCall d_l_draw (aCons (eVar 0) (aCons (eC (.int 4)) aNil)))) (gVar 3))
  (sSeq (sAsg (eLst true aNil) (gVar 4))
  (sSeq (sFor (iRange (aCons (eVar 2) aNil)) (gVar 5) (sFor (iRange (aCons (eBin addO (eVar 5) (eC (.int 1))) (aCons (eVar 2) aNil))) (gVar 6) (sIf (bAnd (eT (eBin ltO (eCall d_l_draw (aCons (eVar 0) (aCons (eC (.int 5)) aNil))) (eVar 3))) (eT (eBin ltO (eCall lenA (aCons (eVar 4) aNil)) (eC (.int 60))))) (sDrop (eMeth "list" appendF (eVar 4) (aCons (eTup (aCons (eVar 5) (aCons (eVar 6) (aCons (eCall d_l_heft (aCons (eVar 0) aNil)) aNil)))) aNil))) sSkip)))
  (sRet (eTup (aCons (eVar 2) (aCons (eCall (seqF tupG) (aCons (eVar 4) aNil)) aNil))))))))
def d_l_net : Fn := fnM 7 dB_l_net
def L_l_net (n : Nm) (m : Md) : Prop := Bi m ∧ GF m n "_law_draw" 1 2 d_l_draw ∧ GF m n "_law_heft" 2 1 d_l_heft ∧ CL n m
theorem b_l_net {n : Nm} {X : Cx} {W : WX} (c : Cc (L_l_net n) n 2 W (fun _ => true) N_l_net sc_l_net X) : SSs X n W (defBody (top 22)) dB_l_net :=
  (ss_cons (s_asg (se_call c (c.gs.2.1) (by decide) (by decide +kernel) (by decide) (sa_cons (c.var (i := 0) rfl (by decide +kernel) (by decide) (by decide)) (sa_cons (se_bin add_ok (c.var (i := 1) rfl (by decide +kernel) (by decide) (by decide)) se_int) sa_nil rfl) rfl) (aCons_len (aCons_len len0)) rfl rfl) (g_var c (i := 2) rfl (by decide +kernel)) rfl rfl rfl)
  (ss_cons (s_asg (se_bin add_ok se_int (se_call c (c.gs.2.1) (by decide) (by decide +kernel) (by decide) (sa_cons (c.var (i := 0) rfl (by decide +kernel) (by decide) (by decide)) (sa_cons se_int sa_nil rfl) rfl) (aCons_len (aCons_len len0)) rfl rfl)) (g_var c (i := 3) rfl (by decide +kernel)) rfl rfl rfl)
  (ss_cons (s_asg (se_lst true sa_nil) (g_var c (i := 4) rfl (by decide +kernel)) rfl rfl rfl)
  (ss_cons (s_for c (si_range1 c (by decide +kernel) (c.gs.1 "range" (by decide +kernel)) (sa_cons (c.var (i := 2) rfl (by decide +kernel) (by decide) (by decide)) sa_nil rfl) rfl (aCons_len len0)) (g_var c (i := 5) rfl (by decide +kernel)) (ss_one (s_for c (si_range2 c (by decide +kernel) (c.gs.1 "range" (by decide +kernel)) (sa_cons (se_bin add_ok (c.var (i := 5) rfl (by decide +kernel) (by decide) (by decide)) se_int) (sa_cons (c.var (i := 2) rfl (by decide +kernel) (by decide) (by decide)) sa_nil rfl) rfl) rfl rfl (aCons_len (aCons_len len0))) (g_var c (i := 6) rfl (by decide +kernel)) (ss_one (s_if (PW.pt (sw_and (st_cmp (lt_ok c.u0) (se_call c (c.gs.2.1) (by decide) (by decide +kernel) (by decide) (sa_cons (c.var (i := 0) rfl (by decide +kernel) (by decide) (by decide)) (sa_cons se_int sa_nil rfl) rfl) (aCons_len (aCons_len len0)) rfl rfl) (c.var (i := 3) rfl (by decide +kernel) (by decide) (by decide)) rfl) (sw_and1 (st_cmp (lt_ok c.u0) (se_callB c lenA_ok lenA_noexc (by decide +kernel) (c.gs.1 "len" (by decide +kernel)) bt_len (sa_cons (c.var (i := 4) rfl (by decide +kernel) (by decide) (by decide)) sa_nil rfl) (by decide) (by decide) rfl rfl) se_int rfl)))) (ss_one (s_drop (se_meth PySem.F.plainAttrs_list PySem.F.slot_list_append PySem.F.type_list_append rfl append_ok append_noexc (c.var (i := 4) rfl (by decide +kernel) (by decide) (by decide)) (sa_cons (se_tup (sa_cons (c.var (i := 5) rfl (by decide +kernel) (by decide) (by decide)) (sa_cons (c.var (i := 6) rfl (by decide +kernel) (by decide) (by decide)) (sa_cons (se_call c (c.gs.2.2.1) (by decide) (by decide +kernel) (by decide) (sa_cons (c.var (i := 0) rfl (by decide +kernel) (by decide) (by decide)) sa_nil rfl) (aCons_len len0) rfl rfl) sa_nil rfl) rfl) rfl)) sa_nil rfl) rfl rfl rfl rfl rfl) rfl)) ss_nil)) (fun _ => rfl))) (fun _ => rfl))
  (ss_one (s_ret (se_tup (sa_cons (c.var (i := 2) rfl (by decide +kernel) (by decide) (by decide)) (sa_cons (se_callT c tuple_ok tup_noexc (by decide +kernel) (c.gs.1 "tuple" (by decide +kernel)) bt_tuple (sa_cons (c.var (i := 4) rfl (by decide +kernel) (by decide) (by decide)) sa_nil rfl) (by decide) (by decide) rfl rfl) sa_nil rfl) rfl))))))))
def N_l_all_lots : List Str := ["_law_net_here", "_law_found", "_law_tie", "_law_more", "_law_own", "_law_taken", "_law_pair"]
abbrev sc_l_all_lots : Scope := defScope (top 23)
def dB_l_all_lots : EvS :=
  (sSeq (sAsg (eLst false (aCons (eTup aNil) aNil)) (gVar 1))
  (sSeq (sFor (iSeq (eBin ixA (eVar 0) (eC (.int 1)))) (gVar 2) (sSeq (sAsg (eLst true aNil) (gVar 3))
  (sSeq (sFor (iSeq (eVar 1)) (gVar 4) (sSeq (sAsg (eCall sumLF (aCons (eComp false (iSeq (eVar 4)) (gVar 6) bYes (eCall (seqF (listG false)) (aCons (eVar 6) aNil)) [6]) (aCons (eLst false aNil) aNil))) (gVar 5))
  (sIf (bAnd (eT (eBin notInA (eBin ixA (eVar 2) (eC (.int 0))) (eVar 5))) (eT (eBin notInA (eBin ixA (eVar 2) (eC (.int 1))) (eVar 5)))) (sDrop (eMeth "list" appendF (eVar 3) (aCons (eBin addO (eVar 4) (eTup (aCons (eSlice false (eVar 2) oNone (oSome (eC (.int 2)))) aNil))) aNil))) sSkip)))
  (sAsg (eBin addO (eVar 1) (eVar 3)) (gVar 1)))))
  (sRet (eCall (sortedEF false) (aCons (eVar 1) aNil)))))
def d_l_all_lots : Fn := fnM 7 dB_l_all_lots
def L_l_all_lots (n : Nm) (m : Md) : Prop := Bi m ∧ CL n m
theorem b_l_all_lots {n : Nm} {X : Cx} {W : WX} (c : Cc (L_l_all_lots n) n 0 W (fun _ => true) N_l_all_lots sc_l_all_lots X) : SSs X n W (defBody (top 23)) dB_l_all_lots :=
  (ss_cons (s_asg (se_lst false (sa_cons (se_tup sa_nil) sa_nil rfl)) (g_var c (i := 1) rfl (by decide +kernel)) rfl rfl rfl)
  (ss_cons (s_for c (si_seq (se_ixA c (c.var (i := 0) rfl (by decide +kernel) (by decide) (by decide)) se_int (fun _ _ => rfl))) (g_var c (i := 2) rfl (by decide +kernel)) (ss_cons (s_asg (se_lst true sa_nil) (g_var c (i := 3) rfl (by decide +kernel)) rfl rfl rfl)
  (ss_cons (s_for c (si_seq (c.var (i := 1) rfl (by decide +kernel) (by decide) (by decide))) (g_var c (i := 4) rfl (by decide +kernel)) (ss_cons (s_asg (se_callB c (sumL_ok c.calm) sumL_noexc (by decide +kernel) (c.gs.1 "sum" (by decide +kernel)) bt_sum (sa_cons (se_comp c (own := [("_law_pair", 6)]) false (si_seq (c.var (i := 4) rfl (by decide +kernel) (by decide) (by decide))) (by decide +kernel) (by decide) (fun Y c _ => (g_var c (i := 6) rfl (by decide +kernel))) (fun Y c _ => sts_nil) (fun Y c _ => (se_callT c (list_ok false) list_noexc (by decide +kernel) (c.gs.1 "list" (by decide +kernel)) bt_list (sa_cons (c.var (i := 6) rfl (by decide +kernel) (by decide) (by decide)) sa_nil rfl) (by decide) (by decide) rfl rfl)) (fun _ => rfl)) (sa_cons (se_lst false sa_nil) sa_nil rfl) rfl) (by decide) (by decide) rfl rfl) (g_var c (i := 5) rfl (by decide +kernel)) rfl rfl rfl)
  (ss_one (s_if (PW.pt (sw_and (st_cmp (notIn_ok c.u70) (se_ixA c (c.var (i := 2) rfl (by decide +kernel) (by decide) (by decide)) se_int (fun _ _ => rfl)) (c.var (i := 5) rfl (by decide +kernel) (by decide) (by decide)) rfl) (sw_and1 (st_cmp (notIn_ok c.u70) (se_ixA c (c.var (i := 2) rfl (by decide +kernel) (by decide) (by decide)) se_int (fun _ _ => rfl)) (c.var (i := 5) rfl (by decide +kernel) (by decide) (by decide)) rfl)))) (ss_one (s_drop (se_meth PySem.F.plainAttrs_list PySem.F.slot_list_append PySem.F.type_list_append rfl append_ok append_noexc (c.var (i := 3) rfl (by decide +kernel) (by decide) (by decide)) (sa_cons (se_bin add_ok (c.var (i := 4) rfl (by decide +kernel) (by decide) (by decide)) (se_tup (sa_cons (se_slice false (c.var (i := 2) rfl (by decide +kernel) (by decide) (by decide)) so_none (so_some se_int)) sa_nil rfl))) sa_nil rfl) rfl rfl rfl rfl rfl) rfl)) ss_nil))) (fun _ => rfl))
  (ss_one (s_asg (se_bin add_ok (c.var (i := 1) rfl (by decide +kernel) (by decide) (by decide)) (c.var (i := 3) rfl (by decide +kernel) (by decide) (by decide))) (g_var c (i := 1) rfl (by decide +kernel)) rfl rfl rfl)))) (fun _ => rfl))
  (ss_one (s_ret (se_callB c (sortedE_ok c.u64 false) sortedE_noexc (by decide +kernel) (c.gs.1 "sorted" (by decide +kernel)) bt_sorted (sa_cons (c.var (i := 1) rfl (by decide +kernel) (by decide) (by decide)) sa_nil rfl) (by decide) (by decide) rfl rfl)))))
def N_l_sum : List Str := ["_law_net_here", "_law_own", "_law_known", "_law_pair"]
abbrev sc_l_sum : Scope := defScope (top 24)
def dB_l_sum : EvS :=
  (sSeq (sAsg (eCall d_l_hefts (aCons (eVar 0) aNil)) (gVar 2))
  (sRet (eCall (seqF sumG) (aCons (eComp false (iSeq (eVar 1)) (gVar 3) bYes (eBin ixA (eVar 2) (eVar 3)) [3]) aNil))))
def d_l_sum : Fn := fnM 4 dB_l_sum
def L_l_sum (n : Nm) (m : Md) : Prop := Bi m ∧ GF m n "_law_hefts" 1 1 d_l_hefts ∧ CL n m
theorem b_l_sum {n : Nm} {X : Cx} {W : WX} (c : Cc (L_l_sum n) n 1 W (fun _ => true) N_l_sum sc_l_sum X) : SSs X n W (defBody (top 24)) dB_l_sum :=
  (ss_cons (s_asg (se_call c (c.gs.2.1) (by decide) (by decide +kernel) (by decide) (sa_cons (c.var (i := 0) rfl (by decide +kernel) (by decide) (by decide)) sa_nil rfl) (aCons_len len0) rfl rfl) (g_var c (i := 2) rfl (by decide +kernel)) rfl rfl rfl)
  (ss_one (s_ret (se_callB c (sum_ok c.calm) sum_noexc (by decide +kernel) (c.gs.1 "sum" (by decide +kernel)) bt_sum (sa_cons (se_comp c (own := [("_law_pair", 3)]) false (si_seq (c.var (i := 1) rfl (by decide +kernel) (by decide) (by decide))) (by decide +kernel) (by decide) (fun Y c _ => (g_var c (i := 3) rfl (by decide +kernel))) (fun Y c _ => sts_nil) (fun Y c _ => (se_ixA c (c.var (i := 2) rfl (by decide +kernel) (by decide) (by decide)) (c.var (i := 3) rfl (by decide +kernel) (by decide) (by decide)) (fun _ _ => rfl))) (fun _ => rfl)) sa_nil rfl) (by decide) (by decide) rfl rfl))))
def N_l_one_lot : List Str := ["_law_pool_here", "_law_net_here", "_law_taken", "_law_found", "_law_low", "_law_high", "_law_heft_here"]
abbrev sc_l_one_lot : Scope := defScope (top 25)
def dB_l_one_lot : EvS :=
  (sSeq (sAsg (eLst false aNil) (gVar 2))
  (sSeq (sAsg (eLst true aNil) (gVar 3))
  (sSeq (sFor (iSeq (eBin ixA (eVar 1) (eC (.int 1)))) (gTupM 3 (gsCons (gVar 4) (gsCons (gVar 5) (gsCons (gVar 6) gsNil)))) (sIf (bAnd (eT (eBin notInA (eVar 4) (eVar 2))) (bAnd (eT (eBin notInA (eVar 5) (eVar 2))) (eT (eBin gtO (eCall d_l_draw (aCons (eVar 0) (aCons (eC (.int 3)) aNil))) (eC (.int 0)))))) (sSeq (sDrop (eMeth "list" appendF (eVar 3) (aCons (eTup (aCons (eVar 4) (aCons (eVar 5) aNil))) aNil)))
  (sAsg (eBin addO (eVar 2) (eLst false (aCons (eVar 4) (aCons (eVar 5) aNil)))) (gVar 2))) sSkip))
  (sRet (eCall (seqF tupG) (aCons (eVar 3) aNil))))))
def d_l_one_lot : Fn := fnM 7 dB_l_one_lot
def L_l_one_lot (n : Nm) (m : Md) : Prop := Bi m ∧ GF m n "_law_draw" 1 2 d_l_draw ∧ CL n m
theorem b_l_one_lot {n : Nm} {X : Cx} {W : WX} (c : Cc (L_l_one_lot n) n 1 W (fun _ => true) N_l_one_lot sc_l_one_lot X) : SSs X n W (defBody (top 25)) dB_l_one_lot :=
  (ss_cons (s_asg (se_lst false sa_nil) (g_var c (i := 2) rfl (by decide +kernel)) rfl rfl rfl)
  (ss_cons (s_asg (se_lst true sa_nil) (g_var c (i := 3) rfl (by decide +kernel)) rfl rfl rfl)
  (ss_cons (s_for c (si_seq (se_ixA c (c.var (i := 1) rfl (by decide +kernel) (by decide) (by decide)) se_int (fun _ _ => rfl))) (g_tup c (gs_cons (g_var c (i := 4) rfl (by decide +kernel)) (gs_cons (g_var c (i := 5) rfl (by decide +kernel)) (gs_cons (g_var c (i := 6) rfl (by decide +kernel)) gs_nil rfl) rfl) rfl) rfl rfl) (ss_one (s_if (PW.pt (sw_and (st_cmp (notIn_ok c.u70) (c.var (i := 4) rfl (by decide +kernel) (by decide) (by decide)) (c.var (i := 2) rfl (by decide +kernel) (by decide) (by decide)) rfl) (sw_and (st_cmp (notIn_ok c.u70) (c.var (i := 5) rfl (by decide +kernel) (by decide) (by decide)) (c.var (i := 2) rfl (by decide +kernel) (by decide) (by decide)) rfl) (sw_and1 (st_cmp gt_ok (se_call c (c.gs.2.1) (by decide) (by decide +kernel) (by decide) (sa_cons (c.var (i := 0) rfl (by decide +kernel) (by decide) (by decide)) (sa_cons se_int sa_nil rfl) rfl) (aCons_len (aCons_len len0)) rfl rfl) se_int rfl))))) (ss_cons (s_drop (se_meth PySem.F.plainAttrs_list PySem.F.slot_list_append PySem.F.type_list_append rfl append_ok append_noexc (c.var (i := 3) rfl (by decide +kernel) (by decide) (by decide)) (sa_cons (se_tup (sa_cons (c.var (i := 4) rfl (by decide +kernel) (by decide) (by decide)) (sa_cons (c.var (i := 5) rfl (by decide +kernel) (by decide) (by decide)) sa_nil rfl) rfl)) sa_nil rfl) rfl rfl rfl rfl rfl) rfl)
  (ss_one (s_asg (se_bin add_ok (c.var (i := 2) rfl (by decide +kernel) (by decide) (by decide)) (se_lst false (sa_cons (c.var (i := 4) rfl (by decide +kernel) (by decide) (by decide)) (sa_cons (c.var (i := 5) rfl (by decide +kernel) (by decide) (by decide)) sa_nil rfl) rfl))) (g_var c (i := 2) rfl (by decide +kernel)) rfl rfl rfl))) ss_nil)) (fun _ => rfl))
  (ss_one (s_ret (se_callT c tuple_ok tup_noexc (by decide +kernel) (c.gs.1 "tuple" (by decide +kernel)) bt_tuple (sa_cons (c.var (i := 3) rfl (by decide +kernel) (by decide) (by decide)) sa_nil rfl) (by decide) (by decide) rfl rfl))))))
def N_l_lot_so : List Str := ["_law_net_here", "_law_what", "_law_taken", "_law_at", "_law_pair", "_law_part", "_law_tie"]
abbrev sc_l_lot_so : Scope := defScope (top 26)
def dB_l_lot_so : EvS :=
  (sSeq (sIf (bNot (eT (eIsi "tuple" (eVar 1)))) (sRet (eC (.bl false))) sSkip)
  (sSeq (sAsg (eLst false aNil) (gVar 2))
  (sSeq (sFor (iEnumM (aCons (eVar 1) aNil)) (gTupM 2 (gsCons (gVar 3) (gsCons (gVar 4) gsNil))) (sSeq (sIf (bOr (bNot (eT (eIsi "tuple" (eVar 4)))) (bOr (eT (eBin neO (eCall lenA (aCons (eVar 4) aNil)) (eC (.int 2)))) (eT (eBin neO (eComp false (iSeq (eVar 4)) (gVar 5) (bNot (eT (eCall d_l_is_whole (aCons (eVar 5) aNil)))) (eVar 5) [5]) (eLst false aNil))))) (sRet (eC (.bl false))) sSkip)
  (sSeq (sIf (bOr (eT (eBin notInA (eVar 4) (eComp false (iSeq (eBin ixA (eVar 0) (eC (.int 1)))) (gVar 6) bYes (eSlice false (eVar 6) oNone (oSome (eC (.int 2)))) [6]))) (bOr (eT (eBin inA (eBin ixA (eVar 4) (eC (.int 0))) (eVar 2))) (eT (eBin inA (eBin ixA (eVar 4) (eC (.int 1))) (eVar 2))))) (sRet (eC (.bl false))) sSkip)
  (sSeq (sIf (bAnd (eT (eBin gtO (eVar 3) (eC (.int 0)))) (bNot (eT (eBin ltO (eBin ixA (eVar 1) (eBin subO (eVar 3) (eC (.int 1)))) (eVar 4))))) (sRet (eC (.bl false))) sSkip)
  (sAsg (eBin addO (eVar 2) (eCall (seqF (listG false)) (aCons (eVar 4) aNil))) (gVar 2))))))
  (sRet (eC (.bl true))))))
def d_l_lot_so : Fn := fnM 7 dB_l_lot_so
def L_l_lot_so (n : Nm) (m : Md) : Prop := Bi m ∧ GF m n "_law_is_whole" 1 1 d_l_is_whole ∧ CL n m
theorem b_l_lot_so {n : Nm} {X : Cx} {W : WX} (c : Cc (L_l_lot_so n) n 1 W (fun _ => true) N_l_lot_so sc_l_lot_so X) : SSs X n W (defBody (top 26)) dB_l_lot_so :=
  (ss_cons (s_if (st_not (st_val (se_isi c (T := "tuple") (by decide) (c.var (i := 1) rfl (by decide +kernel) (by decide) (by decide)) (by decide +kernel) (c.gs.1 "isinstance" (by decide +kernel)) (by decide +kernel) (c.gs.1 "tuple" (by decide +kernel)) bt_tuple (by decide) (by decide) rfl rfl) (fun _ => rfl))) (ss_one (s_ret se_bl)) ss_nil)
  (ss_cons (s_asg (se_lst false sa_nil) (g_var c (i := 2) rfl (by decide +kernel)) rfl rfl rfl)
  (ss_cons (s_for c (si_enum c (by decide +kernel) (c.gs.1 "enumerate" (by decide +kernel)) (sa_cons (c.var (i := 1) rfl (by decide +kernel) (by decide) (by decide)) sa_nil rfl) rfl (aCons_len len0)) (g_tup c (gs_cons (g_var c (i := 3) rfl (by decide +kernel)) (gs_cons (g_var c (i := 4) rfl (by decide +kernel)) gs_nil rfl) rfl) rfl rfl) (ss_cons (s_if (PW.pt (sw_or (st_not (st_val (se_isi c (T := "tuple") (by decide) (c.var (i := 4) rfl (by decide +kernel) (by decide) (by decide)) (by decide +kernel) (c.gs.1 "isinstance" (by decide +kernel)) (by decide +kernel) (c.gs.1 "tuple" (by decide +kernel)) bt_tuple (by decide) (by decide) rfl rfl) (fun _ => rfl))) (sw_or (st_cmp (ne_ok c.u64) (se_callB c lenA_ok lenA_noexc (by decide +kernel) (c.gs.1 "len" (by decide +kernel)) bt_len (sa_cons (c.var (i := 4) rfl (by decide +kernel) (by decide) (by decide)) sa_nil rfl) (by decide) (by decide) rfl rfl) se_int rfl) (sw_or1 (st_cmp (ne_ok c.u64) (se_comp c (own := [("_law_part", 5)]) false (si_seq (c.var (i := 4) rfl (by decide +kernel) (by decide) (by decide))) (by decide +kernel) (by decide) (fun Y c _ => (g_var c (i := 5) rfl (by decide +kernel))) (fun Y c _ => sts_one (st_not (st_val (se_call c (c.gs.2.1) (by decide) (by decide +kernel) (by decide) (sa_cons (c.var (i := 5) rfl (by decide +kernel) (by decide) (by decide)) sa_nil rfl) (aCons_len len0) rfl rfl) (fun _ => rfl)))) (fun Y c _ => (c.var (i := 5) rfl (by decide +kernel) (by decide) (by decide))) (fun _ => rfl)) (se_lst false sa_nil) rfl))))) (ss_one (s_ret se_bl)) ss_nil)
  (ss_cons (s_if (PW.pt (sw_or (st_cmp (notIn_ok c.u70) (c.var (i := 4) rfl (by decide +kernel) (by decide) (by decide)) (se_comp c (own := [("_law_tie", 6)]) false (si_seq (se_ixA c (c.var (i := 0) rfl (by decide +kernel) (by decide) (by decide)) se_int (fun _ _ => rfl))) (by decide +kernel) (by decide) (fun Y c _ => (g_var c (i := 6) rfl (by decide +kernel))) (fun Y c _ => sts_nil) (fun Y c _ => (se_slice false (c.var (i := 6) rfl (by decide +kernel) (by decide) (by decide)) so_none (so_some se_int))) (fun _ => rfl)) rfl) (sw_or (st_cmp (in_ok c.u70) (se_ixA c (c.var (i := 4) rfl (by decide +kernel) (by decide) (by decide)) se_int (fun _ _ => rfl)) (c.var (i := 2) rfl (by decide +kernel) (by decide) (by decide)) rfl) (sw_or1 (st_cmp (in_ok c.u70) (se_ixA c (c.var (i := 4) rfl (by decide +kernel) (by decide) (by decide)) se_int (fun _ _ => rfl)) (c.var (i := 2) rfl (by decide +kernel) (by decide) (by decide)) rfl))))) (ss_one (s_ret se_bl)) ss_nil)
  (ss_cons (s_if (PW.pt (sw_and (st_cmp gt_ok (c.var (i := 3) rfl (by decide +kernel) (by decide) (by decide)) se_int rfl) (sw_and1 (st_not (st_cmp (lt_ok c.u0) (se_ixA c (c.var (i := 1) rfl (by decide +kernel) (by decide) (by decide)) (se_bin sub_ok (c.var (i := 3) rfl (by decide +kernel) (by decide) (by decide)) se_int) (fun _ _ => rfl)) (c.var (i := 4) rfl (by decide +kernel) (by decide) (by decide)) rfl))))) (ss_one (s_ret se_bl)) ss_nil)
  (ss_one (s_asg (se_bin add_ok (c.var (i := 2) rfl (by decide +kernel) (by decide) (by decide)) (se_callT c (list_ok false) list_noexc (by decide +kernel) (c.gs.1 "list" (by decide +kernel)) bt_list (sa_cons (c.var (i := 4) rfl (by decide +kernel) (by decide) (by decide)) sa_nil rfl) (by decide) (by decide) rfl rfl)) (g_var c (i := 2) rfl (by decide +kernel)) rfl rfl rfl))))) (fun _ => rfl))
  (ss_one (s_ret se_bl)))))
def N_l_bent : List Str := ["_law_pool_here", "_law_net_here", "_law_own", "_law_at", "_law_pairs", "_law_way", "_law_tie"]
abbrev sc_l_bent : Scope := defScope (top 27)
def dB_l_bent : EvS :=
  (sSeq (sAsg (eCall d_l_draw (aCons (eVar 0) (aCons (eBin addO (eCall lenA (aCons (eVar 2) aNil)) (eC (.int 1))) aNil))) (gVar 3))
  (sSeq (sAsg (eBin addO (eComp false (iSeq (eBin ixA (eVar 1) (eC (.int 1)))) (gVar 6) bYes (eSlice false (eVar 6) oNone (oSome (eC (.int 2)))) [6]) (eLst false (aCons (eTup (aCons (eC (.int 0)) (aCons (eC (.int 1)) aNil))) (aCons (eTup (aCons (eC (.int 1)) (aCons (eC (.int 0)) aNil))) (aCons (eTup (aCons (eC (.int 0)) (aCons (eC (.int 9)) aNil))) (aCons (eTup (aCons (eC (.bl true)) (aCons (eC (.int 2)) aNil))) (aCons (eTup (aCons (eC (.int 0)) (aCons (eC (.int 0)) aNil))) (aCons (eLst false (aCons (eC (.int 0)) (aCons (eC (.int 1)) aNil))) (aCons (eTup (aCons (eC (.int 0)) (aCons (eC (.int 1)) (aCons (eC (.int 1)) aNil)))) (aCons (eC .non) aNil)))))))))) (gVar 4))
  (sSeq (sAsg (eCall d_l_draw (aCons (eVar 0) (aCons (eC (.int 6)) aNil))) (gVar 5))
  (sSeq (sIf (eT (eBin ltO (eVar 5) (eC (.int 3)))) (sRet (eBin addO (eBin addO (eSlice false (eVar 2) oNone (oSome (eVar 3))) (eTup (aCons (eBin ixA (eVar 4) (eCall d_l_draw (aCons (eVar 0) (aCons (eCall lenA (aCons (eVar 4) aNil)) aNil)))) aNil))) (eSlice false (eVar 2) (oSome (eBin addO (eVar 3) (eBin modO (eVar 5) (eC (.int 2))))) oNone))) sSkip)
  (sSeq (sIf (eT (eBin eqO (eVar 5) (eC (.int 3)))) (sRet (eBin addO (eBin addO (eSlice false (eVar 2) oNone (oSome (eVar 3))) (eSlice false (eVar 2) (oSome (eVar 3)) (oSome (eBin addO (eVar 3) (eC (.int 1)))))) (eSlice false (eVar 2) (oSome (eVar 3)) oNone))) sSkip)
  (sRet (eBin ixA (eLst false (aCons (eRev (eVar 2)) (aCons (eBin ixA (eLst false (aCons (eVar 2) (aCons (eCall (seqF (listG false)) (aCons (eVar 2) aNil)) (aCons (eC .non) (aCons (eC (.str "lot")) (aCons (eTup (aCons (eVar 2) aNil)) (aCons (eC (.int 5)) aNil))))))) (eCall d_l_draw (aCons (eVar 0) (aCons (eC (.int 6)) aNil)))) aNil))) (eBin subO (eVar 5) (eC (.int 4))))))))))
def d_l_bent : Fn := fnM 7 dB_l_bent
def L_l_bent (n : Nm) (m : Md) : Prop := Bi m ∧ GF m n "_law_draw" 1 2 d_l_draw ∧ CL n m
theorem b_l_bent {n : Nm} {X : Cx} {W : WX} (c : Cc (L_l_bent n) n 1 W (fun _ => true) N_l_bent sc_l_bent X) : SSs X n W (defBody (top 27)) dB_l_bent :=
  (ss_cons (s_asg (se_call c (c.gs.2.1) (by decide) (by decide +kernel) (by decide) (sa_cons (c.var (i := 0) rfl (by decide +kernel) (by decide) (by decide)) (sa_cons (se_bin add_ok (se_callB c lenA_ok lenA_noexc (by decide +kernel) (c.gs.1 "len" (by decide +kernel)) bt_len (sa_cons (c.var (i := 2) rfl (by decide +kernel) (by decide) (by decide)) sa_nil rfl) (by decide) (by decide) rfl rfl) se_int) sa_nil rfl) rfl) (aCons_len (aCons_len len0)) rfl rfl) (g_var c (i := 3) rfl (by decide +kernel)) rfl rfl rfl)
  (ss_cons (s_asg (se_bin add_ok (se_comp c (own := [("_law_tie", 6)]) false (si_seq (se_ixA c (c.var (i := 1) rfl (by decide +kernel) (by decide) (by decide)) se_int (fun _ _ => rfl))) (by decide +kernel) (by decide) (fun Y c _ => (g_var c (i := 6) rfl (by decide +kernel))) (fun Y c _ => sts_nil) (fun Y c _ => (se_slice false (c.var (i := 6) rfl (by decide +kernel) (by decide) (by decide)) so_none (so_some se_int))) (fun _ => rfl)) (se_lst false (sa_cons (se_tup (sa_cons se_int (sa_cons se_int sa_nil rfl) rfl)) (sa_cons (se_tup (sa_cons se_int (sa_cons se_int sa_nil rfl) rfl)) (sa_cons (se_tup (sa_cons se_int (sa_cons se_int sa_nil rfl) rfl)) (sa_cons (se_tup (sa_cons se_bl (sa_cons se_int sa_nil rfl) rfl)) (sa_cons (se_tup (sa_cons se_int (sa_cons se_int sa_nil rfl) rfl)) (sa_cons (se_lst false (sa_cons se_int (sa_cons se_int sa_nil rfl) rfl)) (sa_cons (se_tup (sa_cons se_int (sa_cons se_int (sa_cons se_int sa_nil rfl) rfl) rfl)) (sa_cons se_non sa_nil rfl) rfl) rfl) rfl) rfl) rfl) rfl) rfl))) (g_var c (i := 4) rfl (by decide +kernel)) rfl rfl rfl)
  (ss_cons (s_asg (se_call c (c.gs.2.1) (by decide) (by decide +kernel) (by decide) (sa_cons (c.var (i := 0) rfl (by decide +kernel) (by decide) (by decide)) (sa_cons se_int sa_nil rfl) rfl) (aCons_len (aCons_len len0)) rfl rfl) (g_var c (i := 5) rfl (by decide +kernel)) rfl rfl rfl)
  (ss_cons (s_if (st_cmp (lt_ok c.u0) (c.var (i := 5) rfl (by decide +kernel) (by decide) (by decide)) se_int rfl) (ss_one (s_ret (se_bin add_ok (se_bin add_ok (se_slice false (c.var (i := 2) rfl (by decide +kernel) (by decide) (by decide)) so_none (so_some (c.var (i := 3) rfl (by decide +kernel) (by decide) (by decide)))) (se_tup (sa_cons (se_ixA c (c.var (i := 4) rfl (by decide +kernel) (by decide) (by decide)) (se_call c (c.gs.2.1) (by decide) (by decide +kernel) (by decide) (sa_cons (c.var (i := 0) rfl (by decide +kernel) (by decide) (by decide)) (sa_cons (se_callB c lenA_ok lenA_noexc (by decide +kernel) (c.gs.1 "len" (by decide +kernel)) bt_len (sa_cons (c.var (i := 4) rfl (by decide +kernel) (by decide) (by decide)) sa_nil rfl) (by decide) (by decide) rfl rfl) sa_nil rfl) rfl) (aCons_len (aCons_len len0)) rfl rfl) (fun _ _ => rfl)) sa_nil rfl))) (se_slice false (c.var (i := 2) rfl (by decide +kernel) (by decide) (by decide)) (so_some (se_bin add_ok (c.var (i := 3) rfl (by decide +kernel) (by decide) (by decide)) (se_bin mod_ok (c.var (i := 5) rfl (by decide +kernel) (by decide) (by decide)) se_int))) so_none)))) ss_nil)
  (ss_cons (s_if (st_cmp (eq_ok c.u64) (c.var (i := 5) rfl (by decide +kernel) (by decide) (by decide)) se_int rfl) (ss_one (s_ret (se_bin add_ok (se_bin add_ok (se_slice false (c.var (i := 2) rfl (by decide +kernel) (by decide) (by decide)) so_none (so_some (c.var (i := 3) rfl (by decide +kernel) (by decide) (by decide)))) (se_slice false (c.var (i := 2) rfl (by decide +kernel) (by decide) (by decide)) (so_some (c.var (i := 3) rfl (by decide +kernel) (by decide) (by decide))) (so_some (se_bin add_ok (c.var (i := 3) rfl (by decide +kernel) (by decide) (by decide)) se_int)))) (se_slice false (c.var (i := 2) rfl (by decide +kernel) (by decide) (by decide)) (so_some (c.var (i := 3) rfl (by decide +kernel) (by decide) (by decide))) so_none)))) ss_nil)
  (ss_one (s_ret (se_ixA c (se_lst false (sa_cons (se_rev (c.var (i := 2) rfl (by decide +kernel) (by decide) (by decide))) (sa_cons (se_ixA c (se_lst false (sa_cons (c.var (i := 2) rfl (by decide +kernel) (by decide) (by decide)) (sa_cons (se_callT c (list_ok false) list_noexc (by decide +kernel) (c.gs.1 "list" (by decide +kernel)) bt_list (sa_cons (c.var (i := 2) rfl (by decide +kernel) (by decide) (by decide)) sa_nil rfl) (by decide) (by decide) rfl rfl) (sa_cons se_non (sa_cons se_str (sa_cons (se_tup (sa_cons (c.var (i := 2) rfl (by decide +kernel) (by decide) (by decide)) sa_nil rfl)) (sa_cons se_int sa_nil rfl) rfl) rfl) rfl) rfl) rfl)) (se_call c (c.gs.2.1) (by decide) (by decide +kernel) (by decide) (sa_cons (c.var (i := 0) rfl (by decide +kernel) (by decide) (by decide)) (sa_cons se_int sa_nil rfl) rfl) (aCons_len (aCons_len len0)) rfl rfl) (fun _ _ => rfl)) sa_nil rfl) rfl)) (se_bin sub_ok (c.var (i := 5) rfl (by decide +kernel) (by decide) (by decide)) se_int) (fun _ _ => rfl)))))))))
def N_l_tie_told : List Str := ["_law_net_here", "_law_low", "_law_high", "_law_kept", "e"]
abbrev sc_l_tie_told : Scope := defScope (top 28)
def dB_l_tie_told : EvS :=
  (sSeq (sAsg (eC .non) (gVar 3))
  (sSeq (sTry tst (sRet (eCall d_tie_weight (aCons (eVar 0) (aCons (eVar 1) (aCons (eVar 2) aNil))))) ((0, some 4, (sAsg (eVar 4) (gVar 3))) :: []))
  (sSeq (sIf (bOr (bNot (eT (eIsX isx (.ty "LookupError") (eVar 3)))) (eT (eIsX isx (.own 1) (eVar 3)))) (sRet (eC (.str "odd"))) sSkip)
  (sRet (eLst false (aCons (eCall reprF (aCons (eAtt xa ia 0 (eVar 3)) aNil)) (aCons (eCall reprF (aCons (eAtt xa ia 1 (eVar 3)) aNil)) aNil)))))))
def d_l_tie_told : Fn := fnM 5 dB_l_tie_told
def L_l_tie_told (n : Nm) (m : Md) : Prop := Bi m ∧ GF m n "tie_weight" 4 3 d_tie_weight ∧ CL n m
theorem b_l_tie_told {n : Nm} {X : Cx} {W : WX} (c : Cc (L_l_tie_told n) n 4 W (fun _ => true) N_l_tie_told sc_l_tie_told X) (e1 : X.stack = X.env :: X.outer) (e2 : X.env.frame = some X.env.locals) : SSs X n W (defBody (top 28)) dB_l_tie_told :=
  (ss_cons (s_asg se_non (g_var c (i := 3) rfl (by decide +kernel)) rfl rfl rfl)
  (ss_cons (s_try c e1 e2 (c.gs.2.2).tst (fun _ _ _ c => (ss_one (s_ret (se_call c (c.gs.2.1) (by decide) (by decide +kernel) (by decide) (sa_cons (c.var (i := 0) rfl (by decide +kernel) (by decide) (by decide)) (sa_cons (c.var (i := 1) rfl (by decide +kernel) (by decide) (by decide)) (sa_cons (c.var (i := 2) rfl (by decide +kernel) (by decide) (by decide)) sa_nil rfl) rfl) rfl) (aCons_len (aCons_len (aCons_len len0))) rfl rfl)))) (.as_ (names_of c (c.gs.2.2).xn_NoTie (by decide +kernel) (by decide)) (c.ix (i := 4) rfl) (c.kl (by decide +kernel)) (fun a pn => (fun c => (ss_one (s_asg (c.var (i := 4) rfl (by decide +kernel) (by decide) (by decide)) (g_varW c (i := 3) rfl (by decide +kernel)) rfl rfl rfl))) (c.cw a pn)) .nil))
  (ss_cons (s_if (PW.pt (sw_or (st_not (st_val (se_isX (c.gs.2.2).isx (t := (.ty "LookupError")) (c.var (i := 3) rfl (by decide +kernel) (by decide) (by decide)) (c.glo (by decide +kernel)) (c.gs.1 "isinstance" (by decide +kernel)) (c.glo (by decide +kernel)) (by decide) ⟨(c.gs.1 "LookupError" (by decide +kernel)), by decide +kernel, by decide⟩ rfl rfl) (fun _ => rfl))) (sw_or1 (st_val (se_isX (c.gs.2.2).isx (t := (.own 1)) (c.var (i := 3) rfl (by decide +kernel) (by decide) (by decide)) (c.glo (by decide +kernel)) (c.gs.1 "isinstance" (by decide +kernel)) (c.glo (by decide +kernel)) (by decide) (c.gs.2.2).xn_NoThing rfl rfl) (fun _ => rfl))))) (ss_one (s_ret se_str)) ss_nil)
  (ss_one (s_ret (se_lst false (sa_cons (se_callB c (repr_ok c.grd c.u64) repr_noexc (by decide +kernel) (c.gs.1 "repr" (by decide +kernel)) bt_repr (sa_cons (se_att (c.gs.2.2).att (i := 0) (c.gs.2.2).an_one (c.var (i := 3) rfl (by decide +kernel) (by decide) (by decide)) rfl) sa_nil rfl) (by decide) (by decide) rfl rfl) (sa_cons (se_callB c (repr_ok c.grd c.u64) repr_noexc (by decide +kernel) (c.gs.1 "repr" (by decide +kernel)) bt_repr (sa_cons (se_att (c.gs.2.2).att (i := 1) (c.gs.2.2).an_other (c.var (i := 3) rfl (by decide +kernel) (by decide) (by decide)) rfl) sa_nil rfl) (by decide) (by decide) rfl rfl) sa_nil rfl) rfl)))))))
def N_l_near_told : List Str := ["_law_net_here", "_law_item", "_law_kept", "e"]
abbrev sc_l_near_told : Scope := defScope (top 29)
def dB_l_near_told : EvS :=
  (sSeq (sAsg (eC .non) (gVar 2))
  (sSeq (sTry tst (sRet (eCall d_beside (aCons (eVar 0) (aCons (eVar 1) aNil)))) ((1, some 3, (sAsg (eVar 3) (gVar 2))) :: []))
  (sRet (eIf (bAnd (eT (eIsX isx (.ty "LookupError") (eVar 2))) (bNot (eT (eIsXT isx [(.own 0), (.own 2)] (eVar 2))))) (eCall reprF (aCons (eAtt xa ia 2 (eVar 2)) aNil)) (eC (.str "odd"))))))
def d_l_near_told : Fn := fnM 4 dB_l_near_told
def L_l_near_told (n : Nm) (m : Md) : Prop := Bi m ∧ GF m n "beside" 4 2 d_beside ∧ CL n m
theorem b_l_near_told {n : Nm} {X : Cx} {W : WX} (c : Cc (L_l_near_told n) n 4 W (fun _ => true) N_l_near_told sc_l_near_told X) (e1 : X.stack = X.env :: X.outer) (e2 : X.env.frame = some X.env.locals) : SSs X n W (defBody (top 29)) dB_l_near_told :=
  (ss_cons (s_asg se_non (g_var c (i := 2) rfl (by decide +kernel)) rfl rfl rfl)
  (ss_cons (s_try c e1 e2 (c.gs.2.2).tst (fun _ _ _ c => (ss_one (s_ret (se_call c (c.gs.2.1) (by decide) (by decide +kernel) (by decide) (sa_cons (c.var (i := 0) rfl (by decide +kernel) (by decide) (by decide)) (sa_cons (c.var (i := 1) rfl (by decide +kernel) (by decide) (by decide)) sa_nil rfl) rfl) (aCons_len (aCons_len len0)) rfl rfl)))) (.as_ (names_of c (c.gs.2.2).xn_NoThing (by decide +kernel) (by decide)) (c.ix (i := 3) rfl) (c.kl (by decide +kernel)) (fun a pn => (fun c => (ss_one (s_asg (c.var (i := 3) rfl (by decide +kernel) (by decide) (by decide)) (g_varW c (i := 2) rfl (by decide +kernel)) rfl rfl rfl))) (c.cw a pn)) .nil))
  (ss_one (s_ret (se_ifExp (PW.pt (sw_and (st_val (se_isX (c.gs.2.2).isx (t := (.ty "LookupError")) (c.var (i := 2) rfl (by decide +kernel) (by decide) (by decide)) (c.glo (by decide +kernel)) (c.gs.1 "isinstance" (by decide +kernel)) (c.glo (by decide +kernel)) (by decide) ⟨(c.gs.1 "LookupError" (by decide +kernel)), by decide +kernel, by decide⟩ rfl rfl) (fun _ => rfl)) (sw_and1 (st_not (st_val (se_isXT (c.gs.2.2).isx (ts := [(.own 0), (.own 2)]) (c.var (i := 2) rfl (by decide +kernel) (by decide) (by decide)) (c.glo (by decide +kernel)) (c.gs.1 "isinstance" (by decide +kernel)) (.cons (c.glo (by decide +kernel)) (by decide) (c.gs.2.2).xn_NoTie rfl (.cons (c.glo (by decide +kernel)) (by decide) (c.gs.2.2).xn_Full rfl .nil)) (by decide) rfl rfl rfl) (fun _ => rfl)))))) (se_callB c (repr_ok c.grd c.u64) repr_noexc (by decide +kernel) (c.gs.1 "repr" (by decide +kernel)) bt_repr (sa_cons (se_att (c.gs.2.2).att (i := 2) (c.gs.2.2).an_thing (c.var (i := 2) rfl (by decide +kernel) (by decide) (by decide)) rfl) sa_nil rfl) (by decide) (by decide) rfl rfl) se_str)))))
def N_l_is_item : List Str := ["_law_net_here", "_law_item"]
abbrev sc_l_is_item : Scope := defScope (top 30)
def dB_l_is_item : EvS :=
  (sRet (eAnd (eT (eCall d_l_is_whole (aCons (eVar 1) aNil))) (eChain leO ltO (eC (.int 0)) (eVar 1) (eBin ixA (eVar 0) (eC (.int 0))))))
def d_l_is_item : Fn := fnM 2 dB_l_is_item
def L_l_is_item (n : Nm) (m : Md) : Prop := Bi m ∧ GF m n "_law_is_whole" 1 1 d_l_is_whole ∧ CL n m
theorem b_l_is_item {n : Nm} {X : Cx} {W : WX} (c : Cc (L_l_is_item n) n 1 W (fun _ => true) N_l_is_item sc_l_is_item X) : SSs X n W (defBody (top 30)) dB_l_is_item :=
  (ss_one (s_ret (se_and (se_call c (c.gs.2.1) (by decide) (by decide +kernel) (by decide) (sa_cons (c.var (i := 1) rfl (by decide +kernel) (by decide) (by decide)) sa_nil rfl) (aCons_len len0) rfl rfl) (se_one (se_chain (le_ok c.u0) (lt_ok c.u0) se_int (c.var (i := 1) rfl (by decide +kernel) (by decide) (by decide)) (se_ixA c (c.var (i := 0) rfl (by decide +kernel) (by decide) (by decide)) se_int (fun _ _ => rfl)) rfl)))))
def N_l_ties_right : List Str := ["_law_net_here", "_law_known", "_law_odd", "_law_low", "_law_due", "_law_found", "_law_high", "_law_pair"]
abbrev sc_l_ties_right : Scope := defScope (top 31)
def dB_l_ties_right : EvS :=
  (sSeq (sAsg (eCall d_l_hefts (aCons (eVar 0) aNil)) (gVar 1))
  (sSeq (sAsg (eLst false (aCons (eNeg (eC (.int 1))) (aCons (eBin ixA (eVar 0) (eC (.int 0))) (aCons (eC .non) (aCons (eC (.bl true)) (aCons (eC (.str "0")) (aCons (eTup (aCons (eC (.int 0)) aNil)) (aCons (eLst false aNil) aNil)))))))) (gVar 2))
  (sSeq (sFor (iSeq (eBin addO (eRgL false (aCons (eBin ixA (eVar 0) (eC (.int 0))) aNil)) (eVar 2))) (gVar 3) (sSeq (sAsg (eCall reprF (aCons (eVar 3) aNil)) (gVar 4))
  (sSeq (sIf (eT (eCall d_l_is_item (aCons (eVar 0) (aCons (eVar 3) aNil)))) (sAsg (eCall (sortedF false) (aCons (eComp false (iKeysM (eVar 1)) (gVar 7) (eT (eBin inA (eVar 3) (eVar 7))) (eBin subO (eBin addO (eBin ixA (eVar 7) (eC (.int 0))) (eBin ixA (eVar 7) (eC (.int 1)))) (eVar 3)) [7]) aNil)) (gVar 4)) sSkip)
  (sSeq (sAsg (eCall d_l_near_told (aCons (eVar 0) (aCons (eVar 3) aNil))) (gVar 5))
  (sSeq (sIf (eT (eBin neO (eVar 5) (eVar 4))) (sRet (eC (.bl false))) sSkip)
  (sSeq (sIf (eT (eIsi "list" (eVar 5))) (sDrop (eMeth "list" appendF (eVar 5) (aCons (eC .non) aNil))) sSkip)
  (sSeq (sIf (eT (eBin neO (eCall d_l_near_told (aCons (eVar 0) (aCons (eVar 3) aNil))) (eVar 4))) (sRet (eC (.bl false))) sSkip)
  (sFor (iSeq (eBin addO (eRgL false (aCons (eBin ixA (eVar 0) (eC (.int 0))) aNil)) (eVar 2))) (gVar 6) (sSeq (sAsg (eLst false (aCons (eCall reprF (aCons (eVar 3) aNil)) (aCons (eCall reprF (aCons (eVar 6) aNil)) aNil))) (gVar 4))
  (sSeq (sIf (bAnd (eT (eCall d_l_is_item (aCons (eVar 0) (aCons (eVar 3) aNil)))) (eT (eCall d_l_is_item (aCons (eVar 0) (aCons (eVar 6) aNil))))) (sAsg (eMeth "dict" dgetF (eVar 1) (aCons (eTup (aCons (eCall min2F (aCons (eVar 3) (aCons (eVar 6) aNil))) (aCons (eCall max2F (aCons (eVar 3) (aCons (eVar 6) aNil))) aNil))) (aCons (eVar 4) aNil))) (gVar 4)) sSkip)
  (sIf (eT (eBin neO (eCall d_l_tie_told (aCons (eVar 0) (aCons (eVar 3) (aCons (eVar 6) aNil)))) (eVar 4))) (sRet (eC (.bl false))) sSkip)))))))))))
  (sRet (eC (.bl true))))))
def d_l_ties_right : Fn := fnM 8 dB_l_ties_right
def L_l_ties_right (n : Nm) (m : Md) : Prop := Bi m ∧ GF m n "_law_hefts" 1 1 d_l_hefts ∧ GF m n "_law_tie_told" 5 3 d_l_tie_told ∧ GF m n "_law_near_told" 5 2 d_l_near_told ∧ GF m n "_law_is_item" 2 2 d_l_is_item ∧ CL n m
theorem b_l_ties_right {n : Nm} {X : Cx} {W : WX} (c : Cc (L_l_ties_right n) n 5 W (fun _ => true) N_l_ties_right sc_l_ties_right X) : SSs X n W (defBody (top 31)) dB_l_ties_right :=
  (ss_cons (s_asg (se_call c (c.gs.2.1) (by decide) (by decide +kernel) (by decide) (sa_cons (c.var (i := 0) rfl (by decide +kernel) (by decide) (by decide)) sa_nil rfl) (aCons_len len0) rfl rfl) (g_var c (i := 1) rfl (by decide +kernel)) rfl rfl rfl)
  (ss_cons (s_asg (se_lst false (sa_cons (se_neg se_int) (sa_cons (se_ixA c (c.var (i := 0) rfl (by decide +kernel) (by decide) (by decide)) se_int (fun _ _ => rfl)) (sa_cons se_non (sa_cons se_bl (sa_cons se_str (sa_cons (se_tup (sa_cons se_int sa_nil rfl)) (sa_cons (se_lst false sa_nil) sa_nil rfl) rfl) rfl) rfl) rfl) rfl) rfl)) (g_var c (i := 2) rfl (by decide +kernel)) rfl rfl rfl)
  (ss_cons (s_for c (si_seq (se_bin add_ok (se_rgL1 c false (by decide +kernel) (c.gs.1 "list" (by decide +kernel)) (by decide +kernel) (c.gs.1 "range" (by decide +kernel)) (se_ixA c (c.var (i := 0) rfl (by decide +kernel) (by decide) (by decide)) se_int (fun _ _ => rfl)) rfl rfl) (c.var (i := 2) rfl (by decide +kernel) (by decide) (by decide)))) (g_var c (i := 3) rfl (by decide +kernel)) (ss_cons (s_asg (se_callB c (repr_ok c.grd c.u64) repr_noexc (by decide +kernel) (c.gs.1 "repr" (by decide +kernel)) bt_repr (sa_cons (c.var (i := 3) rfl (by decide +kernel) (by decide) (by decide)) sa_nil rfl) (by decide) (by decide) rfl rfl) (g_var c (i := 4) rfl (by decide +kernel)) rfl rfl rfl)
  (ss_cons (s_if (st_val (se_call c (c.gs.2.2.2.2.1) (by decide) (by decide +kernel) (by decide) (sa_cons (c.var (i := 0) rfl (by decide +kernel) (by decide) (by decide)) (sa_cons (c.var (i := 3) rfl (by decide +kernel) (by decide) (by decide)) sa_nil rfl) rfl) (aCons_len (aCons_len len0)) rfl rfl) (fun _ => rfl)) (ss_one (s_asg (se_callB c (sorted_ok c.calm c.u64 false) sorted_noexc (by decide +kernel) (c.gs.1 "sorted" (by decide +kernel)) bt_sorted (sa_cons (se_comp c (own := [("_law_pair", 7)]) false (si_keys (c.var (i := 1) rfl (by decide +kernel) (by decide) (by decide))) (by decide +kernel) (by decide) (fun Y c _ => (g_var c (i := 7) rfl (by decide +kernel))) (fun Y c _ => sts_one (st_cmp (in_ok c.u70) (c.var (i := 3) rfl (by decide +kernel) (by decide) (by decide)) (c.var (i := 7) rfl (by decide +kernel) (by decide) (by decide)) rfl)) (fun Y c _ => (se_bin sub_ok (se_bin add_ok (se_ixA c (c.var (i := 7) rfl (by decide +kernel) (by decide) (by decide)) se_int (fun _ _ => rfl)) (se_ixA c (c.var (i := 7) rfl (by decide +kernel) (by decide) (by decide)) se_int (fun _ _ => rfl))) (c.var (i := 3) rfl (by decide +kernel) (by decide) (by decide)))) (fun _ => rfl)) sa_nil rfl) (by decide) (by decide) rfl rfl) (g_var c (i := 4) rfl (by decide +kernel)) rfl rfl rfl)) ss_nil)
  (ss_cons (s_asg (se_call c (c.gs.2.2.2.1) (by decide) (by decide +kernel) (by decide) (sa_cons (c.var (i := 0) rfl (by decide +kernel) (by decide) (by decide)) (sa_cons (c.var (i := 3) rfl (by decide +kernel) (by decide) (by decide)) sa_nil rfl) rfl) (aCons_len (aCons_len len0)) rfl rfl) (g_var c (i := 5) rfl (by decide +kernel)) rfl rfl rfl)
  (ss_cons (s_if (st_cmp (ne_ok c.u64) (c.var (i := 5) rfl (by decide +kernel) (by decide) (by decide)) (c.var (i := 4) rfl (by decide +kernel) (by decide) (by decide)) rfl) (ss_one (s_ret se_bl)) ss_nil)
  (ss_cons (s_if (st_val (se_isi c (T := "list") (by decide) (c.var (i := 5) rfl (by decide +kernel) (by decide) (by decide)) (by decide +kernel) (c.gs.1 "isinstance" (by decide +kernel)) (by decide +kernel) (c.gs.1 "list" (by decide +kernel)) bt_list (by decide) (by decide) rfl rfl) (fun _ => rfl)) (ss_one (s_drop (se_meth PySem.F.plainAttrs_list PySem.F.slot_list_append PySem.F.type_list_append rfl append_ok append_noexc (c.var (i := 5) rfl (by decide +kernel) (by decide) (by decide)) (sa_cons se_non sa_nil rfl) rfl rfl rfl rfl rfl) rfl)) ss_nil)
  (ss_cons (s_if (st_cmp (ne_ok c.u64) (se_call c (c.gs.2.2.2.1) (by decide) (by decide +kernel) (by decide) (sa_cons (c.var (i := 0) rfl (by decide +kernel) (by decide) (by decide)) (sa_cons (c.var (i := 3) rfl (by decide +kernel) (by decide) (by decide)) sa_nil rfl) rfl) (aCons_len (aCons_len len0)) rfl rfl) (c.var (i := 4) rfl (by decide +kernel) (by decide) (by decide)) rfl) (ss_one (s_ret se_bl)) ss_nil)
  (ss_one (s_for c (si_seq (se_bin add_ok (se_rgL1 c false (by decide +kernel) (c.gs.1 "list" (by decide +kernel)) (by decide +kernel) (c.gs.1 "range" (by decide +kernel)) (se_ixA c (c.var (i := 0) rfl (by decide +kernel) (by decide) (by decide)) se_int (fun _ _ => rfl)) rfl rfl) (c.var (i := 2) rfl (by decide +kernel) (by decide) (by decide)))) (g_var c (i := 6) rfl (by decide +kernel)) (ss_cons (s_asg (se_lst false (sa_cons (se_callB c (repr_ok c.grd c.u64) repr_noexc (by decide +kernel) (c.gs.1 "repr" (by decide +kernel)) bt_repr (sa_cons (c.var (i := 3) rfl (by decide +kernel) (by decide) (by decide)) sa_nil rfl) (by decide) (by decide) rfl rfl) (sa_cons (se_callB c (repr_ok c.grd c.u64) repr_noexc (by decide +kernel) (c.gs.1 "repr" (by decide +kernel)) bt_repr (sa_cons (c.var (i := 6) rfl (by decide +kernel) (by decide) (by decide)) sa_nil rfl) (by decide) (by decide) rfl rfl) sa_nil rfl) rfl)) (g_var c (i := 4) rfl (by decide +kernel)) rfl rfl rfl)
  (ss_cons (s_if (PW.pt (sw_and (st_val (se_call c (c.gs.2.2.2.2.1) (by decide) (by decide +kernel) (by decide) (sa_cons (c.var (i := 0) rfl (by decide +kernel) (by decide) (by decide)) (sa_cons (c.var (i := 3) rfl (by decide +kernel) (by decide) (by decide)) sa_nil rfl) rfl) (aCons_len (aCons_len len0)) rfl rfl) (fun _ => rfl)) (sw_and1 (st_val (se_call c (c.gs.2.2.2.2.1) (by decide) (by decide +kernel) (by decide) (sa_cons (c.var (i := 0) rfl (by decide +kernel) (by decide) (by decide)) (sa_cons (c.var (i := 6) rfl (by decide +kernel) (by decide) (by decide)) sa_nil rfl) rfl) (aCons_len (aCons_len len0)) rfl rfl) (fun _ => rfl))))) (ss_one (s_asg (se_meth PySem.F.plainAttrs_dict PySem.F.slot_dict_get PySem.F.type_dict_get rfl (dget_ok c.u64) dget_noexc (c.var (i := 1) rfl (by decide +kernel) (by decide) (by decide)) (sa_cons (se_tup (sa_cons (se_callB c (min2_ok c.calm) min2_noexc (by decide +kernel) (c.gs.1 "min" (by decide +kernel)) bt_min (sa_cons (c.var (i := 3) rfl (by decide +kernel) (by decide) (by decide)) (sa_cons (c.var (i := 6) rfl (by decide +kernel) (by decide) (by decide)) sa_nil rfl) rfl) (by decide) (by decide) rfl rfl) (sa_cons (se_callB c (max2_ok c.calm) max2_noexc (by decide +kernel) (c.gs.1 "max" (by decide +kernel)) bt_max (sa_cons (c.var (i := 3) rfl (by decide +kernel) (by decide) (by decide)) (sa_cons (c.var (i := 6) rfl (by decide +kernel) (by decide) (by decide)) sa_nil rfl) rfl) (by decide) (by decide) rfl rfl) sa_nil rfl) rfl)) (sa_cons (c.var (i := 4) rfl (by decide +kernel) (by decide) (by decide)) sa_nil rfl) rfl) rfl rfl rfl rfl rfl) (g_var c (i := 4) rfl (by decide +kernel)) rfl rfl rfl)) ss_nil)
  (ss_one (s_if (st_cmp (ne_ok c.u64) (se_call c (c.gs.2.2.1) (by decide) (by decide +kernel) (by decide) (sa_cons (c.var (i := 0) rfl (by decide +kernel) (by decide) (by decide)) (sa_cons (c.var (i := 3) rfl (by decide +kernel) (by decide) (by decide)) (sa_cons (c.var (i := 6) rfl (by decide +kernel) (by decide) (by decide)) sa_nil rfl) rfl) rfl) (aCons_len (aCons_len (aCons_len len0))) rfl rfl) (c.var (i := 4) rfl (by decide +kernel) (by decide) (by decide)) rfl) (ss_one (s_ret se_bl)) ss_nil)))) (fun _ => rfl))))))))) (fun _ => rfl))
  (ss_one (s_ret se_bl)))))
def N_law : List Str := ["_law_script", "_law_k", "_law_pool_here", "_law_net_here", "_law_kept", "_law_own", "_law_turn", "_law_what", "_law_low", "_law_high", "_law_heft_here", "_law_far"]
abbrev sc_law : Scope := defScope (top 32)
def dB_law : EvS :=
  (sSeq (sFor (iRange (aCons (eCall max2F (aCons (eC (.int 1)) (aCons (eCall min2F (aCons (eCall lenA (aCons (eVar 0) aNil)) (aCons (eC (.int 16)) aNil))) aNil))) aNil)) (gVar 1) (sSeq (sAsg (eCall d_l_pool (aCons (eVar 0) (aCons (eVar 1) aNil))) (gVar 2))
  (sSeq (sAsg (eCall d_l_net (aCons (eVar 2) (aCons (eC (.int 7)) aNil))) (gVar 3))
  (sSeq (sAsg (eCall reprF (aCons (eVar 3) aNil)) (gVar 4))
  (sSeq (sIf (bNot (eT (eCall d_l_ties_right (aCons (eVar 3) aNil)))) (sRet (eC (.bl false))) sSkip)
  (sSeq (sFor (iSeq (eSlice false (eCall d_l_all_lots (aCons (eVar 3) aNil)) oNone (oSome (eC (.int 30))))) (gVar 5) (sSeq (sIf (bOr (eT (eBin isNotO (eCall d_is_lot (aCons (eVar 3) (aCons (eVar 5) aNil))) (eC (.bl true)))) (eT (eBin neO (eCall d_weight_of (aCons (eVar 3) (aCons (eVar 5) aNil))) (eCall d_l_sum (aCons (eVar 3) (aCons (eVar 5) aNil)))))) (sRet (eC (.bl false))) sSkip)
  (sFor (iRange (aCons (eC (.int 2)) aNil)) (gVar 6) (sSeq (sAsg (eCall d_l_bent (aCons (eVar 2) (aCons (eVar 3) (aCons (eVar 5) aNil)))) (gVar 7))
  (sIf (eT (eBin neO (eCall reprF (aCons (eCall d_is_lot (aCons (eVar 3) (aCons (eVar 7) aNil))) aNil)) (eCall reprF (aCons (eCall d_l_lot_so (aCons (eVar 3) (aCons (eVar 7) aNil))) aNil)))) (sRet (eC (.bl false))) sSkip)))))
  (sSeq (sAsg (eCall d_l_one_lot (aCons (eVar 2) (aCons (eVar 3) aNil))) (gVar 5))
  (sSeq (sIf (bOr (eT (eBin isNotO (eCallK [1, 0] d_is_lot (aCons (eVar 5) (aCons (eVar 3) aNil))) (eC (.bl true)))) (eT (eBin neO (eCallK [1, 0] d_weight_of (aCons (eVar 5) (aCons (eVar 3) aNil))) (eCall d_l_sum (aCons (eVar 3) (aCons (eVar 5) aNil)))))) (sRet (eC (.bl false))) sSkip)
  (sSeq (sFor (iSeq (eSlice false (eBin ixA (eVar 3) (eC (.int 1))) oNone (oSome (eC (.int 3))))) (gTupM 3 (gsCons (gVar 8) (gsCons (gVar 9) (gsCons (gVar 10) gsNil)))) (sIf (bOr (eT (eBin neO (eCallK [2, 1, 0] d_tie_weight (aCons (eVar 8) (aCons (eVar 9) (aCons (eVar 3) aNil)))) (eVar 10))) (eT (eBin notInA (eVar 9) (eCallK [1, 0] d_beside (aCons (eVar 8) (aCons (eVar 3) aNil)))))) (sRet (eC (.bl false))) sSkip))
  (sIf (eT (eBin neO (eCall reprF (aCons (eVar 3) aNil)) (eVar 4))) (sRet (eC (.bl false))) sSkip))))))))))
  (sSeq (sAsg (eTup (aCons (eC (.int 16)) (aCons (eTup (aCons (eTup (aCons (eC (.int 2)) (aCons (eC (.int 10)) (aCons (eC (.int 1)) aNil)))) (aCons (eTup (aCons (eC (.int 3)) (aCons (eC (.int 9)) (aCons (eC (.int 4)) aNil)))) (aCons (eTup (aCons (eC (.int 3)) (aCons (eC (.int 10)) (aCons (eC (.int 2)) aNil)))) (aCons (eTup (aCons (eC (.int 3)) (aCons (eC (.int 15)) (aCons (eC (.int 0)) aNil)))) aNil))))) aNil))) (gVar 11))
  (sSeq (sIf (bOr (eT (eBin neO (eCall d_beside (aCons (eVar 11) (aCons (eC (.int 3)) aNil))) (eLst false (aCons (eC (.int 9)) (aCons (eC (.int 10)) (aCons (eC (.int 15)) aNil)))))) (bOr (eT (eBin neO (eCall d_beside (aCons (eVar 11) (aCons (eC (.int 10)) aNil))) (eLst false (aCons (eC (.int 2)) (aCons (eC (.int 3)) aNil))))) (bNot (eT (eCall d_is_lot (aCons (eVar 11) (aCons (eTup (aCons (eTup (aCons (eC (.int 2)) (aCons (eC (.int 10)) aNil))) (aCons (eTup (aCons (eC (.int 3)) (aCons (eC (.int 9)) aNil))) aNil))) aNil))))))) (sRet (eC (.bl false))) sSkip)
  (sSeq (sIf (bOr (eT (eCall d_is_lot (aCons (eVar 11) (aCons (eTup (aCons (eTup (aCons (eC (.int 3)) (aCons (eC (.int 9)) aNil))) (aCons (eTup (aCons (eC (.int 2)) (aCons (eC (.int 10)) aNil))) aNil))) aNil)))) (bOr (bNot (eT (eCall d_is_lot (aCons (eVar 11) (aCons (eTup (aCons (eTup (aCons (eC (.int 2)) (aCons (eC (.int 10)) aNil))) (aCons (eTup (aCons (eC (.int 3)) (aCons (eC (.int 15)) aNil))) aNil))) aNil))))) (eT (eBin neO (eCall d_tie_weight (aCons (eVar 11) (aCons (eC (.int 10)) (aCons (eC (.int 3)) aNil)))) (eC (.int 2)))))) (sRet (eC (.bl false))) sSkip)
  (sRet (eAnd (eT (eBin isO (eCall d_is_lot (aCons (eTup (aCons (eC (.int 0)) (aCons (eTup aNil) aNil))) (aCons (eTup aNil) aNil))) (eC (.bl true)))) (eBin isO (eCall d_is_lot (aCons (eTup (aCons (eC (.int 2)) (aCons (eTup (aCons (eTup (aCons (eC (.int 0)) (aCons (eC (.int 1)) (aCons (eC (.int 1)) aNil)))) aNil)) aNil))) (aCons (eTup (aCons (eTup (aCons (eC (.int 0)) (aCons (eC (.bl true)) aNil))) aNil)) aNil))) (eC (.bl false)))))))))
def d_law : Fn := fnM 12 dB_law
def L_law (n : Nm) (m : Md) : Prop := Bi m ∧ GF m n "is_lot" 3 2 d_is_lot ∧ GF m n "weight_of" 2 2 d_weight_of ∧ GF m n "tie_weight" 4 3 d_tie_weight ∧ GF m n "beside" 4 2 d_beside ∧ GF m n "_law_pool" 1 2 d_l_pool ∧ GF m n "_law_net" 3 2 d_l_net ∧ GF m n "_law_all_lots" 1 1 d_l_all_lots ∧ GF m n "_law_sum" 2 2 d_l_sum ∧ GF m n "_law_one_lot" 2 2 d_l_one_lot ∧ GF m n "_law_lot_so" 2 2 d_l_lot_so ∧ GF m n "_law_bent" 2 3 d_l_bent ∧ GF m n "_law_ties_right" 6 1 d_l_ties_right ∧ GFK m n "is_lot" 3 0 ["thing", "web"] [1, 0] d_is_lot ∧ GFK m n "weight_of" 2 0 ["lot", "web"] [1, 0] d_weight_of ∧ GFK m n "tie_weight" 4 0 ["other", "one", "web"] [2, 1, 0] d_tie_weight ∧ GFK m n "beside" 4 0 ["thing", "web"] [1, 0] d_beside ∧ CL n m
theorem b_law {n : Nm} {X : Cx} {W : WX} (c : Cc (L_law n) n 6 W (fun _ => true) N_law sc_law X) : SSs X n W (defBody (top 32)) dB_law :=
  (ss_cons (s_for c (si_range1 c (by decide +kernel) (c.gs.1 "range" (by decide +kernel)) (sa_cons (se_callB c (max2_ok c.calm) max2_noexc (by decide +kernel) (c.gs.1 "max" (by decide +kernel)) bt_max (sa_cons se_int (sa_cons (se_callB c (min2_ok c.calm) min2_noexc (by decide +kernel) (c.gs.1 "min" (by decide +kernel)) bt_min (sa_cons (se_callB c lenA_ok lenA_noexc (by decide +kernel) (c.gs.1 "len" (by decide +kernel)) bt_len (sa_cons (c.var (i := 0) rfl (by decide +kernel) (by decide) (by decide)) sa_nil rfl) (by decide) (by decide) rfl rfl) (sa_cons se_int sa_nil rfl) rfl) (by decide) (by decide) rfl rfl) sa_nil rfl) rfl) (by decide) (by decide) rfl rfl) sa_nil rfl) rfl (aCons_len len0)) (g_var c (i := 1) rfl (by decide +kernel)) (ss_cons (s_asg (se_call c (c.gs.2.2.2.2.2.1) (by decide) (by decide +kernel) (by decide) (sa_cons (c.var (i := 0) rfl (by decide +kernel) (by decide) (by decide)) (sa_cons (c.var (i := 1) rfl (by decide +kernel) (by decide) (by decide)) sa_nil rfl) rfl) (aCons_len (aCons_len len0)) rfl rfl) (g_var c (i := 2) rfl (by decide +kernel)) rfl rfl rfl)
  (ss_cons (s_asg (se_call c (c.gs.2.2.2.2.2.2.1) (by decide) (by decide +kernel) (by decide) (sa_cons (c.var (i := 2) rfl (by decide +kernel) (by decide) (by decide)) (sa_cons se_int sa_nil rfl) rfl) (aCons_len (aCons_len len0)) rfl rfl) (g_var c (i := 3) rfl (by decide +kernel)) rfl rfl rfl)
  (ss_cons (s_asg (se_callB c (repr_ok c.grd c.u64) repr_noexc (by decide +kernel) (c.gs.1 "repr" (by decide +kernel)) bt_repr (sa_cons (c.var (i := 3) rfl (by decide +kernel) (by decide) (by decide)) sa_nil rfl) (by decide) (by decide) rfl rfl) (g_var c (i := 4) rfl (by decide +kernel)) rfl rfl rfl)
  (ss_cons (s_if (st_not (st_val (se_call c (c.gs.2.2.2.2.2.2.2.2.2.2.2.2.1) (by decide) (by decide +kernel) (by decide) (sa_cons (c.var (i := 3) rfl (by decide +kernel) (by decide) (by decide)) sa_nil rfl) (aCons_len len0) rfl rfl) (fun _ => rfl))) (ss_one (s_ret se_bl)) ss_nil)
  (ss_cons (s_for c (si_seq (se_slice false (se_call c (c.gs.2.2.2.2.2.2.2.1) (by decide) (by decide +kernel) (by decide) (sa_cons (c.var (i := 3) rfl (by decide +kernel) (by decide) (by decide)) sa_nil rfl) (aCons_len len0) rfl rfl) so_none (so_some se_int))) (g_var c (i := 5) rfl (by decide +kernel)) (ss_cons (s_if (PW.pt (sw_or (st_cmp isNot_ok (se_call c (c.gs.2.1) (by decide) (by decide +kernel) (by decide) (sa_cons (c.var (i := 3) rfl (by decide +kernel) (by decide) (by decide)) (sa_cons (c.var (i := 5) rfl (by decide +kernel) (by decide) (by decide)) sa_nil rfl) rfl) (aCons_len (aCons_len len0)) rfl rfl) se_bl rfl) (sw_or1 (st_cmp (ne_ok c.u64) (se_call c (c.gs.2.2.1) (by decide) (by decide +kernel) (by decide) (sa_cons (c.var (i := 3) rfl (by decide +kernel) (by decide) (by decide)) (sa_cons (c.var (i := 5) rfl (by decide +kernel) (by decide) (by decide)) sa_nil rfl) rfl) (aCons_len (aCons_len len0)) rfl rfl) (se_call c (c.gs.2.2.2.2.2.2.2.2.1) (by decide) (by decide +kernel) (by decide) (sa_cons (c.var (i := 3) rfl (by decide +kernel) (by decide) (by decide)) (sa_cons (c.var (i := 5) rfl (by decide +kernel) (by decide) (by decide)) sa_nil rfl) rfl) (aCons_len (aCons_len len0)) rfl rfl) rfl)))) (ss_one (s_ret se_bl)) ss_nil)
  (ss_one (s_for c (si_range1 c (by decide +kernel) (c.gs.1 "range" (by decide +kernel)) (sa_cons se_int sa_nil rfl) rfl (aCons_len len0)) (g_var c (i := 6) rfl (by decide +kernel)) (ss_cons (s_asg (se_call c (c.gs.2.2.2.2.2.2.2.2.2.2.2.1) (by decide) (by decide +kernel) (by decide) (sa_cons (c.var (i := 2) rfl (by decide +kernel) (by decide) (by decide)) (sa_cons (c.var (i := 3) rfl (by decide +kernel) (by decide) (by decide)) (sa_cons (c.var (i := 5) rfl (by decide +kernel) (by decide) (by decide)) sa_nil rfl) rfl) rfl) (aCons_len (aCons_len (aCons_len len0))) rfl rfl) (g_var c (i := 7) rfl (by decide +kernel)) rfl rfl rfl)
  (ss_one (s_if (st_cmp (ne_ok c.u64) (se_callB c (repr_ok c.grd c.u64) repr_noexc (by decide +kernel) (c.gs.1 "repr" (by decide +kernel)) bt_repr (sa_cons (se_call c (c.gs.2.1) (by decide) (by decide +kernel) (by decide) (sa_cons (c.var (i := 3) rfl (by decide +kernel) (by decide) (by decide)) (sa_cons (c.var (i := 7) rfl (by decide +kernel) (by decide) (by decide)) sa_nil rfl) rfl) (aCons_len (aCons_len len0)) rfl rfl) sa_nil rfl) (by decide) (by decide) rfl rfl) (se_callB c (repr_ok c.grd c.u64) repr_noexc (by decide +kernel) (c.gs.1 "repr" (by decide +kernel)) bt_repr (sa_cons (se_call c (c.gs.2.2.2.2.2.2.2.2.2.2.1) (by decide) (by decide +kernel) (by decide) (sa_cons (c.var (i := 3) rfl (by decide +kernel) (by decide) (by decide)) (sa_cons (c.var (i := 7) rfl (by decide +kernel) (by decide) (by decide)) sa_nil rfl) rfl) (aCons_len (aCons_len len0)) rfl rfl) sa_nil rfl) (by decide) (by decide) rfl rfl) rfl) (ss_one (s_ret se_bl)) ss_nil))) (fun _ => rfl)))) (fun _ => rfl))
  (ss_cons (s_asg (se_call c (c.gs.2.2.2.2.2.2.2.2.2.1) (by decide) (by decide +kernel) (by decide) (sa_cons (c.var (i := 2) rfl (by decide +kernel) (by decide) (by decide)) (sa_cons (c.var (i := 3) rfl (by decide +kernel) (by decide) (by decide)) sa_nil rfl) rfl) (aCons_len (aCons_len len0)) rfl rfl) (g_var c (i := 5) rfl (by decide +kernel)) rfl rfl rfl)
  (ss_cons (s_if (PW.pt (sw_or (st_cmp isNot_ok (se_callK0 c (c.gs.2.2.2.2.2.2.2.2.2.2.2.2.2.1) (by decide) (by decide +kernel) (by decide) (sk_cons (c.var (i := 5) rfl (by decide +kernel) (by decide) (by decide)) (sk_cons (c.var (i := 3) rfl (by decide +kernel) (by decide) (by decide)) sk_nil)) (aCons_len (aCons_len len0)) rfl rfl rfl) se_bl rfl) (sw_or1 (st_cmp (ne_ok c.u64) (se_callK0 c (c.gs.2.2.2.2.2.2.2.2.2.2.2.2.2.2.1) (by decide) (by decide +kernel) (by decide) (sk_cons (c.var (i := 5) rfl (by decide +kernel) (by decide) (by decide)) (sk_cons (c.var (i := 3) rfl (by decide +kernel) (by decide) (by decide)) sk_nil)) (aCons_len (aCons_len len0)) rfl rfl rfl) (se_call c (c.gs.2.2.2.2.2.2.2.2.1) (by decide) (by decide +kernel) (by decide) (sa_cons (c.var (i := 3) rfl (by decide +kernel) (by decide) (by decide)) (sa_cons (c.var (i := 5) rfl (by decide +kernel) (by decide) (by decide)) sa_nil rfl) rfl) (aCons_len (aCons_len len0)) rfl rfl) rfl)))) (ss_one (s_ret se_bl)) ss_nil)
  (ss_cons (s_for c (si_seq (se_slice false (se_ixA c (c.var (i := 3) rfl (by decide +kernel) (by decide) (by decide)) se_int (fun _ _ => rfl)) so_none (so_some se_int))) (g_tup c (gs_cons (g_var c (i := 8) rfl (by decide +kernel)) (gs_cons (g_var c (i := 9) rfl (by decide +kernel)) (gs_cons (g_var c (i := 10) rfl (by decide +kernel)) gs_nil rfl) rfl) rfl) rfl rfl) (ss_one (s_if (PW.pt (sw_or (st_cmp (ne_ok c.u64) (se_callK0 c (c.gs.2.2.2.2.2.2.2.2.2.2.2.2.2.2.2.1) (by decide) (by decide +kernel) (by decide) (sk_cons (c.var (i := 8) rfl (by decide +kernel) (by decide) (by decide)) (sk_cons (c.var (i := 9) rfl (by decide +kernel) (by decide) (by decide)) (sk_cons (c.var (i := 3) rfl (by decide +kernel) (by decide) (by decide)) sk_nil))) (aCons_len (aCons_len (aCons_len len0))) rfl rfl rfl) (c.var (i := 10) rfl (by decide +kernel) (by decide) (by decide)) rfl) (sw_or1 (st_cmp (notIn_ok c.u70) (c.var (i := 9) rfl (by decide +kernel) (by decide) (by decide)) (se_callK0 c (c.gs.2.2.2.2.2.2.2.2.2.2.2.2.2.2.2.2.1) (by decide) (by decide +kernel) (by decide) (sk_cons (c.var (i := 8) rfl (by decide +kernel) (by decide) (by decide)) (sk_cons (c.var (i := 3) rfl (by decide +kernel) (by decide) (by decide)) sk_nil)) (aCons_len (aCons_len len0)) rfl rfl rfl) rfl)))) (ss_one (s_ret se_bl)) ss_nil)) (fun _ => rfl))
  (ss_one (s_if (st_cmp (ne_ok c.u64) (se_callB c (repr_ok c.grd c.u64) repr_noexc (by decide +kernel) (c.gs.1 "repr" (by decide +kernel)) bt_repr (sa_cons (c.var (i := 3) rfl (by decide +kernel) (by decide) (by decide)) sa_nil rfl) (by decide) (by decide) rfl rfl) (c.var (i := 4) rfl (by decide +kernel) (by decide) (by decide)) rfl) (ss_one (s_ret se_bl)) ss_nil)))))))))) (fun _ => rfl))
  (ss_cons (s_asg (se_tup (sa_cons se_int (sa_cons (se_tup (sa_cons (se_tup (sa_cons se_int (sa_cons se_int (sa_cons se_int sa_nil rfl) rfl) rfl)) (sa_cons (se_tup (sa_cons se_int (sa_cons se_int (sa_cons se_int sa_nil rfl) rfl) rfl)) (sa_cons (se_tup (sa_cons se_int (sa_cons se_int (sa_cons se_int sa_nil rfl) rfl) rfl)) (sa_cons (se_tup (sa_cons se_int (sa_cons se_int (sa_cons se_int sa_nil rfl) rfl) rfl)) sa_nil rfl) rfl) rfl) rfl)) sa_nil rfl) rfl)) (g_var c (i := 11) rfl (by decide +kernel)) rfl rfl rfl)
  (ss_cons (s_if (PW.pt (sw_or (st_cmp (ne_ok c.u64) (se_call c (c.gs.2.2.2.2.1) (by decide) (by decide +kernel) (by decide) (sa_cons (c.var (i := 11) rfl (by decide +kernel) (by decide) (by decide)) (sa_cons se_int sa_nil rfl) rfl) (aCons_len (aCons_len len0)) rfl rfl) (se_lst false (sa_cons se_int (sa_cons se_int (sa_cons se_int sa_nil rfl) rfl) rfl)) rfl) (sw_or (st_cmp (ne_ok c.u64) (se_call c (c.gs.2.2.2.2.1) (by decide) (by decide +kernel) (by decide) (sa_cons (c.var (i := 11) rfl (by decide +kernel) (by decide) (by decide)) (sa_cons se_int sa_nil rfl) rfl) (aCons_len (aCons_len len0)) rfl rfl) (se_lst false (sa_cons se_int (sa_cons se_int sa_nil rfl) rfl)) rfl) (sw_or1 (st_not (st_val (se_call c (c.gs.2.1) (by decide) (by decide +kernel) (by decide) (sa_cons (c.var (i := 11) rfl (by decide +kernel) (by decide) (by decide)) (sa_cons (se_tup (sa_cons (se_tup (sa_cons se_int (sa_cons se_int sa_nil rfl) rfl)) (sa_cons (se_tup (sa_cons se_int (sa_cons se_int sa_nil rfl) rfl)) sa_nil rfl) rfl)) sa_nil rfl) rfl) (aCons_len (aCons_len len0)) rfl rfl) (fun _ => rfl))))))) (ss_one (s_ret se_bl)) ss_nil)
  (ss_cons (s_if (PW.pt (sw_or (st_val (se_call c (c.gs.2.1) (by decide) (by decide +kernel) (by decide) (sa_cons (c.var (i := 11) rfl (by decide +kernel) (by decide) (by decide)) (sa_cons (se_tup (sa_cons (se_tup (sa_cons se_int (sa_cons se_int sa_nil rfl) rfl)) (sa_cons (se_tup (sa_cons se_int (sa_cons se_int sa_nil rfl) rfl)) sa_nil rfl) rfl)) sa_nil rfl) rfl) (aCons_len (aCons_len len0)) rfl rfl) (fun _ => rfl)) (sw_or (st_not (st_val (se_call c (c.gs.2.1) (by decide) (by decide +kernel) (by decide) (sa_cons (c.var (i := 11) rfl (by decide +kernel) (by decide) (by decide)) (sa_cons (se_tup (sa_cons (se_tup (sa_cons se_int (sa_cons se_int sa_nil rfl) rfl)) (sa_cons (se_tup (sa_cons se_int (sa_cons se_int sa_nil rfl) rfl)) sa_nil rfl) rfl)) sa_nil rfl) rfl) (aCons_len (aCons_len len0)) rfl rfl) (fun _ => rfl))) (sw_or1 (st_cmp (ne_ok c.u64) (se_call c (c.gs.2.2.2.1) (by decide) (by decide +kernel) (by decide) (sa_cons (c.var (i := 11) rfl (by decide +kernel) (by decide) (by decide)) (sa_cons se_int (sa_cons se_int sa_nil rfl) rfl) rfl) (aCons_len (aCons_len (aCons_len len0))) rfl rfl) se_int rfl))))) (ss_one (s_ret se_bl)) ss_nil)
  (ss_one (s_ret (se_and (se_cmp is_ok (se_call c (c.gs.2.1) (by decide) (by decide +kernel) (by decide) (sa_cons (se_tup (sa_cons se_int (sa_cons (se_tup sa_nil) sa_nil rfl) rfl)) (sa_cons (se_tup sa_nil) sa_nil rfl) rfl) (aCons_len (aCons_len len0)) rfl rfl) se_bl rfl) (se_one (se_cmp is_ok (se_call c (c.gs.2.1) (by decide) (by decide +kernel) (by decide) (sa_cons (se_tup (sa_cons se_int (sa_cons (se_tup (sa_cons (se_tup (sa_cons se_int (sa_cons se_int (sa_cons se_int sa_nil rfl) rfl) rfl)) sa_nil rfl)) sa_nil rfl) rfl)) (sa_cons (se_tup (sa_cons (se_tup (sa_cons se_int (sa_cons se_bl sa_nil rfl) rfl)) sa_nil rfl)) sa_nil rfl) rfl) (aCons_len (aCons_len len0)) rfl rfl) se_bl rfl)))))))))
/-! the end -/
def D_is_whole : He.DefD := ⟨("is_whole", none), "is_whole", "is_whole", defArgs (top 5), defBody (top 5), defScope (top 5), [], []⟩
theorem S_is_whole : FnScope N_is_whole ["thing"] sc_is_whole := ⟨rfl, rfl, rfl, by decide +kernel, rfl, by decide +kernel, by decide +kernel⟩
def D_is_thing : He.DefD := ⟨("is_thing", none), "is_thing", "is_thing", defArgs (top 6), defBody (top 6), defScope (top 6), [], []⟩
theorem S_is_thing : FnScope N_is_thing ["web", "thing"] sc_is_thing := ⟨rfl, rfl, rfl, by decide +kernel, rfl, by decide +kernel, by decide +kernel⟩
def D_weights_in : He.DefD := ⟨("weights_in", none), "weights_in", "weights_in", defArgs (top 7), defBody (top 7), defScope (top 7), [], []⟩
theorem S_weights_in : FnScope N_weights_in ["web"] sc_weights_in := ⟨rfl, rfl, rfl, by decide +kernel, rfl, by decide +kernel, by decide +kernel⟩
def D_pair_of : He.DefD := ⟨("pair_of", none), "pair_of", "pair_of", defArgs (top 8), defBody (top 8), defScope (top 8), [], []⟩
theorem S_pair_of : FnScope N_pair_of ["one", "other"] sc_pair_of := ⟨rfl, rfl, rfl, by decide +kernel, rfl, by decide +kernel, by decide +kernel⟩
def D_is_pair : He.DefD := ⟨("is_pair", none), "is_pair", "is_pair", defArgs (top 9), defBody (top 9), defScope (top 9), [], []⟩
theorem S_is_pair : FnScope N_is_pair ["thing"] sc_is_pair := ⟨rfl, rfl, rfl, by decide +kernel, rfl, by decide +kernel, by decide +kernel⟩
def D_is_lot : He.DefD := ⟨("is_lot", none), "is_lot", "is_lot", defArgs (top 10), defBody (top 10), defScope (top 10), [], []⟩
theorem S_is_lot : FnScope N_is_lot ["web", "thing"] sc_is_lot := ⟨rfl, rfl, rfl, by decide +kernel, rfl, by decide +kernel, by decide +kernel⟩
def D_weight_of : He.DefD := ⟨("weight_of", none), "weight_of", "weight_of", defArgs (top 11), defBody (top 11), defScope (top 11), [], []⟩
theorem S_weight_of : FnScope N_weight_of ["web", "lot"] sc_weight_of := ⟨rfl, rfl, rfl, by decide +kernel, rfl, by decide +kernel, by decide +kernel⟩
def D_look_at_tie : He.DefD := ⟨("look_at_tie", none), "look_at_tie", "look_at_tie", defArgs (top 12), defBody (top 12), defScope (top 12), [], []⟩
theorem S_look_at_tie : FnScope N_look_at_tie ["web", "one", "other"] sc_look_at_tie := ⟨rfl, rfl, rfl, by decide +kernel, rfl, by decide +kernel, by decide +kernel⟩
def D_look_at_thing : He.DefD := ⟨("look_at_thing", none), "look_at_thing", "look_at_thing", defArgs (top 13), defBody (top 13), defScope (top 13), [], []⟩
theorem S_look_at_thing : FnScope N_look_at_thing ["web", "thing"] sc_look_at_thing := ⟨rfl, rfl, rfl, by decide +kernel, rfl, by decide +kernel, by decide +kernel⟩
def D_tie_weight : He.DefD := ⟨("tie_weight", none), "tie_weight", "tie_weight", defArgs (top 14), defBody (top 14), defScope (top 14), [], []⟩
theorem S_tie_weight : FnScope N_tie_weight ["web", "one", "other"] sc_tie_weight := ⟨rfl, rfl, rfl, by decide +kernel, rfl, by decide +kernel, by decide +kernel⟩
def D_beside : He.DefD := ⟨("beside", none), "beside", "beside", defArgs (top 15), defBody (top 15), defScope (top 15), [], []⟩
theorem S_beside : FnScope N_beside ["web", "thing"] sc_beside := ⟨rfl, rfl, rfl, by decide +kernel, rfl, by decide +kernel, by decide +kernel⟩
def D_l_is_whole : He.DefD := ⟨("_law_is_whole", none), "_law_is_whole", "_law_is_whole", defArgs (top 17), defBody (top 17), defScope (top 17), [], []⟩
theorem S_l_is_whole : FnScope N_l_is_whole ["_law_what"] sc_l_is_whole := ⟨rfl, rfl, rfl, by decide +kernel, rfl, by decide +kernel, by decide +kernel⟩
def D_l_draw : He.DefD := ⟨("_law_draw", none), "_law_draw", "_law_draw", defArgs (top 18), defBody (top 18), defScope (top 18), [], []⟩
theorem S_l_draw : FnScope N_l_draw ["_law_pool_here", "_law_many"] sc_l_draw := ⟨rfl, rfl, rfl, by decide +kernel, rfl, by decide +kernel, by decide +kernel⟩
def D_l_hefts : He.DefD := ⟨("_law_hefts", none), "_law_hefts", "_law_hefts", defArgs (top 19), defBody (top 19), defScope (top 19), [], []⟩
theorem S_l_hefts : FnScope N_l_hefts ["_law_net_here"] sc_l_hefts := ⟨rfl, rfl, rfl, by decide +kernel, rfl, by decide +kernel, by decide +kernel⟩
def D_l_pool : He.DefD := ⟨("_law_pool", none), "_law_pool", "_law_pool", defArgs (top 20), defBody (top 20), defScope (top 20), [], []⟩
theorem S_l_pool : FnScope N_l_pool ["_law_script", "_law_k"] sc_l_pool := ⟨rfl, rfl, rfl, by decide +kernel, rfl, by decide +kernel, by decide +kernel⟩
def D_l_heft : He.DefD := ⟨("_law_heft", none), "_law_heft", "_law_heft", defArgs (top 21), defBody (top 21), defScope (top 21), [], []⟩
theorem S_l_heft : FnScope N_l_heft ["_law_pool_here"] sc_l_heft := ⟨rfl, rfl, rfl, by decide +kernel, rfl, by decide +kernel, by decide +kernel⟩
def D_l_net : He.DefD := ⟨("_law_net", none), "_law_net", "_law_net", defArgs (top 22), defBody (top 22), defScope (top 22), [], []⟩
theorem S_l_net : FnScope N_l_net ["_law_pool_here", "_law_limit"] sc_l_net := ⟨rfl, rfl, rfl, by decide +kernel, rfl, by decide +kernel, by decide +kernel⟩
def D_l_all_lots : He.DefD := ⟨("_law_all_lots", none), "_law_all_lots", "_law_all_lots", defArgs (top 23), defBody (top 23), defScope (top 23), [], []⟩
theorem S_l_all_lots : FnScope N_l_all_lots ["_law_net_here"] sc_l_all_lots := ⟨rfl, rfl, rfl, by decide +kernel, rfl, by decide +kernel, by decide +kernel⟩
def D_l_sum : He.DefD := ⟨("_law_sum", none), "_law_sum", "_law_sum", defArgs (top 24), defBody (top 24), defScope (top 24), [], []⟩
theorem S_l_sum : FnScope N_l_sum ["_law_net_here", "_law_own"] sc_l_sum := ⟨rfl, rfl, rfl, by decide +kernel, rfl, by decide +kernel, by decide +kernel⟩
def D_l_one_lot : He.DefD := ⟨("_law_one_lot", none), "_law_one_lot", "_law_one_lot", defArgs (top 25), defBody (top 25), defScope (top 25), [], []⟩
theorem S_l_one_lot : FnScope N_l_one_lot ["_law_pool_here", "_law_net_here"] sc_l_one_lot := ⟨rfl, rfl, rfl, by decide +kernel, rfl, by decide +kernel, by decide +kernel⟩
def D_l_lot_so : He.DefD := ⟨("_law_lot_so", none), "_law_lot_so", "_law_lot_so", defArgs (top 26), defBody (top 26), defScope (top 26), [], []⟩
theorem S_l_lot_so : FnScope N_l_lot_so ["_law_net_here", "_law_what"] sc_l_lot_so := ⟨rfl, rfl, rfl, by decide +kernel, rfl, by decide +kernel, by decide +kernel⟩
def D_l_bent : He.DefD := ⟨("_law_bent", none), "_law_bent", "_law_bent", defArgs (top 27), defBody (top 27), defScope (top 27), [], []⟩
theorem S_l_bent : FnScope N_l_bent ["_law_pool_here", "_law_net_here", "_law_own"] sc_l_bent := ⟨rfl, rfl, rfl, by decide +kernel, rfl, by decide +kernel, by decide +kernel⟩
def D_l_tie_told : He.DefD := ⟨("_law_tie_told", none), "_law_tie_told", "_law_tie_told", defArgs (top 28), defBody (top 28), defScope (top 28), [], []⟩
theorem S_l_tie_told : FnScope N_l_tie_told ["_law_net_here", "_law_low", "_law_high"] sc_l_tie_told := ⟨rfl, rfl, rfl, by decide +kernel, rfl, by decide +kernel, by decide +kernel⟩
def D_l_near_told : He.DefD := ⟨("_law_near_told", none), "_law_near_told", "_law_near_told", defArgs (top 29), defBody (top 29), defScope (top 29), [], []⟩
theorem S_l_near_told : FnScope N_l_near_told ["_law_net_here", "_law_item"] sc_l_near_told := ⟨rfl, rfl, rfl, by decide +kernel, rfl, by decide +kernel, by decide +kernel⟩
def D_l_is_item : He.DefD := ⟨("_law_is_item", none), "_law_is_item", "_law_is_item", defArgs (top 30), defBody (top 30), defScope (top 30), [], []⟩
theorem S_l_is_item : FnScope N_l_is_item ["_law_net_here", "_law_item"] sc_l_is_item := ⟨rfl, rfl, rfl, by decide +kernel, rfl, by decide +kernel, by decide +kernel⟩
def D_l_ties_right : He.DefD := ⟨("_law_ties_right", none), "_law_ties_right", "_law_ties_right", defArgs (top 31), defBody (top 31), defScope (top 31), [], []⟩
theorem S_l_ties_right : FnScope N_l_ties_right ["_law_net_here"] sc_l_ties_right := ⟨rfl, rfl, rfl, by decide +kernel, rfl, by decide +kernel, by decide +kernel⟩
def D_law : He.DefD := ⟨("law", none), "law", "law", defArgs (top 32), defBody (top 32), defScope (top 32), [], []⟩
theorem S_law : FnScope N_law ["_law_script"] sc_law := ⟨rfl, rfl, rfl, by decide +kernel, rfl, by decide +kernel, by decide +kernel⟩
def DX_NoTie : He.DefD := ⟨("NoTie", some "__init__"), "__init__", "NoTie.__init__", defArgs (methOf (top 1) 0), defBody (methOf (top 1) 0), defScope (methOf (top 1) 0), [], []⟩
theorem SX_NoTie : FnScope ["self", "one", "other"] ["self", "one", "other"] (defScope (methOf (top 1) 0)) := ⟨rfl, rfl, rfl, by decide +kernel, rfl, by decide +kernel, by decide +kernel⟩
def DX_NoThing : He.DefD := ⟨("NoThing", some "__init__"), "__init__", "NoThing.__init__", defArgs (methOf (top 2) 0), defBody (methOf (top 2) 0), defScope (methOf (top 2) 0), [], []⟩
theorem SX_NoThing : FnScope ["self", "thing"] ["self", "thing"] (defScope (methOf (top 2) 0)) := ⟨rfl, rfl, rfl, by decide +kernel, rfl, by decide +kernel, by decide +kernel⟩
def fn : List He.DefD := [D_is_whole, D_is_thing, D_weights_in, D_pair_of, D_is_pair, D_is_lot, D_weight_of, D_look_at_tie, D_look_at_thing, D_tie_weight, D_beside, D_l_is_whole, D_l_draw, D_l_hefts, D_l_pool, D_l_heft, D_l_net, D_l_all_lots, D_l_sum, D_l_one_lot, D_l_lot_so, D_l_bent, D_l_tie_told, D_l_near_told, D_l_is_item, D_l_ties_right, D_law, DX_NoTie, DX_NoThing]
def fa : List He.Fa := [.glo "is_whole", .glo "is_thing", .glo "weights_in", .glo "pair_of", .glo "is_pair", .glo "is_lot", .glo "weight_of", .glo "look_at_tie", .glo "look_at_thing", .glo "tie_weight", .glo "beside", .glo "_law_is_whole", .glo "_law_draw", .glo "_law_hefts", .glo "_law_pool", .glo "_law_heft", .glo "_law_net", .glo "_law_all_lots", .glo "_law_sum", .glo "_law_one_lot", .glo "_law_lot_so", .glo "_law_bent", .glo "_law_tie_told", .glo "_law_near_told", .glo "_law_is_item", .glo "_law_ties_right", .glo "law", .free "LookupError", .free "all", .free "bool", .free "dict", .free "enumerate", .free "int", .free "isinstance", .free "len", .free "list", .free "max", .free "min", .free "range", .free "repr", .free "sorted", .free "sum", .free "tuple", .glo "NoTie", .glo "NoThing", .glo "Full"]
abbrev R : PySem.W.OpenRow := PySem.W.OpenLaw.row PySem.Challenge.rw_weighedpairs_k02_lots_and_ties
def fb : List (PySem.W.Frag → Bool) := [xcB .le "NoTie", inB "NoTie", noB "NoTie" "one", noB "NoTie" "other", xtB .le, xcB .le "NoThing", inB "NoThing", noB "NoThing" "thing", tstB cn tabT, isxB cn tabI, axB cn an tabX, aiB cn an tabA]
abbrev hk : PySem.W.Hook := hookX 4 fb fa fn
def ob (s : PySem.W.SharedT) : AlX := obsXG 4 fb fa fn (HandSHeadRun.getT s)
theorem ob_eq (s : PySem.W.SharedT) : ob s = hk.obs s.abs := obsXG_eq (HandSHeadRun.getT_eq s)
def loose : List Str := ["__name__", "NoTie", "NoThing", "Full", "is_whole", "is_thing", "weights_in", "pair_of", "is_pair", "is_lot", "weight_of", "look_at_tie", "look_at_thing", "tie_weight", "beside", "_law_is_whole", "_law_draw", "_law_hefts", "_law_pool", "_law_heft", "_law_net", "_law_all_lots", "_law_sum", "_law_one_lot", "_law_lot_so", "_law_bent", "_law_tie_told", "_law_near_told", "_law_is_item", "_law_ties_right"]
theorem run (w : World) : HandSHeadRun.RunEq R (PySem.W.view R.prog [32]) hk ob 4000 loose w := by
  intro os
  kernel_rfl
def nm0 (K : PySem.W.Frag) : Nm := nmOf cn an K
theorem facts {P : Program} {w : World} {K : PySem.W.Frag} {h : Heap} {mg : Str → Option Value} {f : Addr} (X : K.In h) (G : h.Ns mainGlobals mg) (hfa : mg ("law" : Str) = some (.ref f)) (c : SaysX fb fa fn K) :
    ∃ fd : FuncData, (∀ (s : Shared) (v : Value), BindsTo s fd ⟨[v], []⟩ [("_law_script", v)]) ∧ ∀ base : Heap, K.In base → base.Ns mainGlobals mg → FnG ⟨P, w, K, mg, base⟩ (nm0 K) 7 f fd ["_law_script"] d_law := by
  obtain ⟨fd_is_whole, F_is_whole⟩ := c.kit.def_ 0 (d := D_is_whole) rfl
  have m_is_whole := He.glo_ok X G (c.kit.fact 0 (f := .glo "is_whole") rfl)
  obtain ⟨fd_is_thing, F_is_thing⟩ := c.kit.def_ 1 (d := D_is_thing) rfl
  have m_is_thing := He.glo_ok X G (c.kit.fact 1 (f := .glo "is_thing") rfl)
  obtain ⟨fd_weights_in, F_weights_in⟩ := c.kit.def_ 2 (d := D_weights_in) rfl
  have m_weights_in := He.glo_ok X G (c.kit.fact 2 (f := .glo "weights_in") rfl)
  obtain ⟨fd_pair_of, F_pair_of⟩ := c.kit.def_ 3 (d := D_pair_of) rfl
  have m_pair_of := He.glo_ok X G (c.kit.fact 3 (f := .glo "pair_of") rfl)
  obtain ⟨fd_is_pair, F_is_pair⟩ := c.kit.def_ 4 (d := D_is_pair) rfl
  have m_is_pair := He.glo_ok X G (c.kit.fact 4 (f := .glo "is_pair") rfl)
  obtain ⟨fd_is_lot, F_is_lot⟩ := c.kit.def_ 5 (d := D_is_lot) rfl
  have m_is_lot := He.glo_ok X G (c.kit.fact 5 (f := .glo "is_lot") rfl)
  obtain ⟨fd_weight_of, F_weight_of⟩ := c.kit.def_ 6 (d := D_weight_of) rfl
  have m_weight_of := He.glo_ok X G (c.kit.fact 6 (f := .glo "weight_of") rfl)
  obtain ⟨fd_look_at_tie, F_look_at_tie⟩ := c.kit.def_ 7 (d := D_look_at_tie) rfl
  have m_look_at_tie := He.glo_ok X G (c.kit.fact 7 (f := .glo "look_at_tie") rfl)
  obtain ⟨fd_look_at_thing, F_look_at_thing⟩ := c.kit.def_ 8 (d := D_look_at_thing) rfl
  have m_look_at_thing := He.glo_ok X G (c.kit.fact 8 (f := .glo "look_at_thing") rfl)
  obtain ⟨fd_tie_weight, F_tie_weight⟩ := c.kit.def_ 9 (d := D_tie_weight) rfl
  have m_tie_weight := He.glo_ok X G (c.kit.fact 9 (f := .glo "tie_weight") rfl)
  obtain ⟨fd_beside, F_beside⟩ := c.kit.def_ 10 (d := D_beside) rfl
  have m_beside := He.glo_ok X G (c.kit.fact 10 (f := .glo "beside") rfl)
  obtain ⟨fd_l_is_whole, F_l_is_whole⟩ := c.kit.def_ 11 (d := D_l_is_whole) rfl
  have m_l_is_whole := He.glo_ok X G (c.kit.fact 11 (f := .glo "_law_is_whole") rfl)
  obtain ⟨fd_l_draw, F_l_draw⟩ := c.kit.def_ 12 (d := D_l_draw) rfl
  have m_l_draw := He.glo_ok X G (c.kit.fact 12 (f := .glo "_law_draw") rfl)
  obtain ⟨fd_l_hefts, F_l_hefts⟩ := c.kit.def_ 13 (d := D_l_hefts) rfl
  have m_l_hefts := He.glo_ok X G (c.kit.fact 13 (f := .glo "_law_hefts") rfl)
  obtain ⟨fd_l_pool, F_l_pool⟩ := c.kit.def_ 14 (d := D_l_pool) rfl
  have m_l_pool := He.glo_ok X G (c.kit.fact 14 (f := .glo "_law_pool") rfl)
  obtain ⟨fd_l_heft, F_l_heft⟩ := c.kit.def_ 15 (d := D_l_heft) rfl
  have m_l_heft := He.glo_ok X G (c.kit.fact 15 (f := .glo "_law_heft") rfl)
  obtain ⟨fd_l_net, F_l_net⟩ := c.kit.def_ 16 (d := D_l_net) rfl
  have m_l_net := He.glo_ok X G (c.kit.fact 16 (f := .glo "_law_net") rfl)
  obtain ⟨fd_l_all_lots, F_l_all_lots⟩ := c.kit.def_ 17 (d := D_l_all_lots) rfl
  have m_l_all_lots := He.glo_ok X G (c.kit.fact 17 (f := .glo "_law_all_lots") rfl)
  obtain ⟨fd_l_sum, F_l_sum⟩ := c.kit.def_ 18 (d := D_l_sum) rfl
  have m_l_sum := He.glo_ok X G (c.kit.fact 18 (f := .glo "_law_sum") rfl)
  obtain ⟨fd_l_one_lot, F_l_one_lot⟩ := c.kit.def_ 19 (d := D_l_one_lot) rfl
  have m_l_one_lot := He.glo_ok X G (c.kit.fact 19 (f := .glo "_law_one_lot") rfl)
  obtain ⟨fd_l_lot_so, F_l_lot_so⟩ := c.kit.def_ 20 (d := D_l_lot_so) rfl
  have m_l_lot_so := He.glo_ok X G (c.kit.fact 20 (f := .glo "_law_lot_so") rfl)
  obtain ⟨fd_l_bent, F_l_bent⟩ := c.kit.def_ 21 (d := D_l_bent) rfl
  have m_l_bent := He.glo_ok X G (c.kit.fact 21 (f := .glo "_law_bent") rfl)
  obtain ⟨fd_l_tie_told, F_l_tie_told⟩ := c.kit.def_ 22 (d := D_l_tie_told) rfl
  have m_l_tie_told := He.glo_ok X G (c.kit.fact 22 (f := .glo "_law_tie_told") rfl)
  obtain ⟨fd_l_near_told, F_l_near_told⟩ := c.kit.def_ 23 (d := D_l_near_told) rfl
  have m_l_near_told := He.glo_ok X G (c.kit.fact 23 (f := .glo "_law_near_told") rfl)
  obtain ⟨fd_l_is_item, F_l_is_item⟩ := c.kit.def_ 24 (d := D_l_is_item) rfl
  have m_l_is_item := He.glo_ok X G (c.kit.fact 24 (f := .glo "_law_is_item") rfl)
  obtain ⟨fd_l_ties_right, F_l_ties_right⟩ := c.kit.def_ 25 (d := D_l_ties_right) rfl
  have m_l_ties_right := He.glo_ok X G (c.kit.fact 25 (f := .glo "_law_ties_right") rfl)
  obtain ⟨fd_law, F_law⟩ := c.kit.def_ 26 (d := D_law) rfl
  have e := hfa.symm.trans (He.glo_ok X G (c.kit.fact 26 (f := .glo "law") rfl))
  cases e
  have bi : ∀ base : Heap, Bi ⟨P, w, K, mg, base⟩ := fun base => by
    intro x hx
    simp only [bnames, List.mem_cons, List.not_mem_nil, or_false] at hx
    rcases hx with rfl | rfl | rfl | rfl | rfl | rfl | rfl | rfl | rfl | rfl | rfl | rfl | rfl | rfl | rfl | rfl
    · exact He.free_ok X G (c.kit.fact 27 (f := .free "LookupError") rfl)
    · exact He.free_ok X G (c.kit.fact 28 (f := .free "all") rfl)
    · exact He.free_ok X G (c.kit.fact 29 (f := .free "bool") rfl)
    · exact He.free_ok X G (c.kit.fact 30 (f := .free "dict") rfl)
    · exact He.free_ok X G (c.kit.fact 31 (f := .free "enumerate") rfl)
    · exact He.free_ok X G (c.kit.fact 32 (f := .free "int") rfl)
    · exact He.free_ok X G (c.kit.fact 33 (f := .free "isinstance") rfl)
    · exact He.free_ok X G (c.kit.fact 34 (f := .free "len") rfl)
    · exact He.free_ok X G (c.kit.fact 35 (f := .free "list") rfl)
    · exact He.free_ok X G (c.kit.fact 36 (f := .free "max") rfl)
    · exact He.free_ok X G (c.kit.fact 37 (f := .free "min") rfl)
    · exact He.free_ok X G (c.kit.fact 38 (f := .free "range") rfl)
    · exact He.free_ok X G (c.kit.fact 39 (f := .free "repr") rfl)
    · exact He.free_ok X G (c.kit.fact 40 (f := .free "sorted") rfl)
    · exact He.free_ok X G (c.kit.fact 41 (f := .free "sum") rfl)
    · exact He.free_ok X G (c.kit.fact 42 (f := .free "tuple") rfl)
  have mc_NoTie := He.glo_ok X G (c.kit.fact 43 (f := .glo "NoTie") rfl)
  have mc_NoThing := He.glo_ok X G (c.kit.fact 44 (f := .glo "NoThing") rfl)
  have mc_Full := He.glo_ok X G (c.kit.fact 45 (f := .glo "Full") rfl)
  have cl : ∀ base : Heap, CL (nm0 K) ⟨P, w, K, mg, base⟩ := fun base => by
    obtain ⟨fdX_NoTie, FX_NoTie⟩ := c.kit.def_ 27 (d := DX_NoTie) rfl
    have xd_NoTie : XD ⟨P, w, K, mg, base⟩ (nm0 K) "NoTie" 0 [0, 1] := xd_of rfl mc_NoTie (c.fact 0 (f := xcB .le "NoTie") rfl) (c.fact 1 (f := inB "NoTie") rfl)
      (x_init2 (f := "one") (f2 := "other") FX_NoTie SX_NoTie (xcB_ok (c.fact 0 (f := xcB .le "NoTie") rfl)) (xtB_ok (k := .le) (c.fact 4 (f := xtB .le) rfl) (bi base "LookupError" (by decide +kernel))) (Bk.hand .le) (fun env _ => ⟨_, rfl⟩) (by decide +kernel) (by decide +kernel) (by decide +kernel) (by decide +kernel) (noB_ok (c.fact 2 (f := noB "NoTie" "one") rfl)) (noB_ok (c.fact 3 (f := noB "NoTie" "other") rfl)) (by decide) (by decide) (by decide) (by decide) (by decide))
      (FunD.bindsN FX_NoTie fun _ _ _ _ _ _ us hl => match us, hl with | [_, _, _], _ => rfl)
    obtain ⟨fdX_NoThing, FX_NoThing⟩ := c.kit.def_ 28 (d := DX_NoThing) rfl
    have xd_NoThing : XD ⟨P, w, K, mg, base⟩ (nm0 K) "NoThing" 1 [2] := xd_of rfl mc_NoThing (c.fact 5 (f := xcB .le "NoThing") rfl) (c.fact 6 (f := inB "NoThing") rfl)
      (x_init1 (f := "thing") FX_NoThing SX_NoThing (xcB_ok (c.fact 5 (f := xcB .le "NoThing") rfl)) (xtB_ok (k := .le) (c.fact 4 (f := xtB .le) rfl) (bi base "LookupError" (by decide +kernel))) (Bk.hand .le) (fun env _ => ⟨_, rfl⟩) (by decide +kernel) (by decide +kernel) (by decide +kernel) (noB_ok (c.fact 7 (f := noB "NoThing" "thing") rfl)) (by decide) (by decide) (by decide))
      (FunD.bindsN FX_NoThing fun _ _ _ _ _ _ us hl => match us, hl with | [_, _], _ => rfl)
    exact ⟨xd_NoTie, xd_NoThing, mc_NoTie, mc_NoThing, mc_Full, (tstB_ok (c.fact 8 (f := tstB cn tabT) rfl)), (isxB_ok (c.fact 9 (f := isxB cn tabI) rfl)), (aB_ok (by decide +kernel) (by decide +kernel) (c.fact 10 (f := axB cn an tabX) rfl) (c.fact 11 (f := aiB cn an tabA) rfl)), rfl, rfl, rfl⟩
  refine ⟨fd_law, fun s v => FunD.bindsA (ps := ["_law_script"]) F_law (fun _ _ _ _ _ _ us hl => match us, hl with | [_], _ => rfl) s [v] rfl, fun base _ _ => ?_⟩
  have g_is_whole : GF ⟨P, w, K, mg, base⟩ (nm0 K) "is_whole" 1 1 d_is_whole := gf_of (ps := ["thing"]) F_is_whole S_is_whole (L := L_is_whole (nm0 K)) ⟨bi base, cl base⟩ m_is_whole 1 rfl (FunD.bindsN F_is_whole fun _ _ _ _ _ _ us hl => match us, hl with | [_], _ => rfl) fun X W c _ _ _ _ => b_is_whole c
  have g_is_thing : GF ⟨P, w, K, mg, base⟩ (nm0 K) "is_thing" 2 2 d_is_thing := gf_of (ps := ["web", "thing"]) F_is_thing S_is_thing (L := L_is_thing (nm0 K)) ⟨bi base, g_is_whole, cl base⟩ m_is_thing 2 rfl (FunD.bindsN F_is_thing fun _ _ _ _ _ _ us hl => match us, hl with | [_, _], _ => rfl) fun X W c _ _ _ _ => b_is_thing c
  have g_weights_in : GF ⟨P, w, K, mg, base⟩ (nm0 K) "weights_in" 1 1 d_weights_in := gf_of (ps := ["web"]) F_weights_in S_weights_in (L := L_weights_in (nm0 K)) ⟨bi base, cl base⟩ m_weights_in 1 rfl (FunD.bindsN F_weights_in fun _ _ _ _ _ _ us hl => match us, hl with | [_], _ => rfl) fun X W c _ _ _ _ => b_weights_in c
  have g_pair_of : GF ⟨P, w, K, mg, base⟩ (nm0 K) "pair_of" 1 2 d_pair_of := gf_of (ps := ["one", "other"]) F_pair_of S_pair_of (L := L_pair_of (nm0 K)) ⟨bi base, cl base⟩ m_pair_of 2 rfl (FunD.bindsN F_pair_of fun _ _ _ _ _ _ us hl => match us, hl with | [_, _], _ => rfl) fun X W c _ _ _ _ => b_pair_of c
  have g_is_pair : GF ⟨P, w, K, mg, base⟩ (nm0 K) "is_pair" 2 1 d_is_pair := gf_of (ps := ["thing"]) F_is_pair S_is_pair (L := L_is_pair (nm0 K)) ⟨bi base, g_is_whole, cl base⟩ m_is_pair 1 rfl (FunD.bindsN F_is_pair fun _ _ _ _ _ _ us hl => match us, hl with | [_], _ => rfl) fun X W c _ _ _ _ => b_is_pair c
  have g_is_lot : GF ⟨P, w, K, mg, base⟩ (nm0 K) "is_lot" 3 2 d_is_lot := gf_of (ps := ["web", "thing"]) F_is_lot S_is_lot (L := L_is_lot (nm0 K)) ⟨bi base, g_weights_in, g_is_pair, cl base⟩ m_is_lot 2 rfl (FunD.bindsN F_is_lot fun _ _ _ _ _ _ us hl => match us, hl with | [_, _], _ => rfl) fun X W c _ _ _ _ => b_is_lot c
  have gk_is_lot_0 : GFK ⟨P, w, K, mg, base⟩ (nm0 K) "is_lot" 3 0 ["thing", "web"] [1, 0] d_is_lot := gfk_of (ps := ["web", "thing"]) F_is_lot m_is_lot (fn_g F_is_lot S_is_lot (L := L_is_lot (nm0 K)) ⟨bi base, g_weights_in, g_is_pair, cl base⟩ (fun X W c _ _ _ _ => b_is_lot c)) rfl (by decide) (fun kV doc pm an cdv ct us ws h1 h2 => match us, ws, h1, h2 with | [], [_, _], _, _ => rfl)
  have g_weight_of : GF ⟨P, w, K, mg, base⟩ (nm0 K) "weight_of" 2 2 d_weight_of := gf_of (ps := ["web", "lot"]) F_weight_of S_weight_of (L := L_weight_of (nm0 K)) ⟨bi base, g_weights_in, cl base⟩ m_weight_of 2 rfl (FunD.bindsN F_weight_of fun _ _ _ _ _ _ us hl => match us, hl with | [_, _], _ => rfl) fun X W c _ _ _ _ => b_weight_of c
  have gk_weight_of_1 : GFK ⟨P, w, K, mg, base⟩ (nm0 K) "weight_of" 2 0 ["lot", "web"] [1, 0] d_weight_of := gfk_of (ps := ["web", "lot"]) F_weight_of m_weight_of (fn_g F_weight_of S_weight_of (L := L_weight_of (nm0 K)) ⟨bi base, g_weights_in, cl base⟩ (fun X W c _ _ _ _ => b_weight_of c)) rfl (by decide) (fun kV doc pm an cdv ct us ws h1 h2 => match us, ws, h1, h2 with | [], [_, _], _, _ => rfl)
  have g_look_at_tie : GF ⟨P, w, K, mg, base⟩ (nm0 K) "look_at_tie" 3 3 d_look_at_tie := gf_of (ps := ["web", "one", "other"]) F_look_at_tie S_look_at_tie (L := L_look_at_tie (nm0 K)) ⟨bi base, g_is_thing, g_weights_in, g_pair_of, cl base⟩ m_look_at_tie 3 rfl (FunD.bindsN F_look_at_tie fun _ _ _ _ _ _ us hl => match us, hl with | [_, _, _], _ => rfl) fun X W c _ _ _ _ => b_look_at_tie c
  have g_look_at_thing : GF ⟨P, w, K, mg, base⟩ (nm0 K) "look_at_thing" 3 2 d_look_at_thing := gf_of (ps := ["web", "thing"]) F_look_at_thing S_look_at_thing (L := L_look_at_thing (nm0 K)) ⟨bi base, g_is_thing, cl base⟩ m_look_at_thing 2 rfl (FunD.bindsN F_look_at_thing fun _ _ _ _ _ _ us hl => match us, hl with | [_, _], _ => rfl) fun X W c _ _ _ _ => b_look_at_thing c
  have g_tie_weight : GF ⟨P, w, K, mg, base⟩ (nm0 K) "tie_weight" 4 3 d_tie_weight := gf_of (ps := ["web", "one", "other"]) F_tie_weight S_tie_weight (L := L_tie_weight (nm0 K)) ⟨bi base, g_weights_in, g_look_at_tie, cl base⟩ m_tie_weight 3 rfl (FunD.bindsN F_tie_weight fun _ _ _ _ _ _ us hl => match us, hl with | [_, _, _], _ => rfl) fun X W c _ _ _ _ => b_tie_weight c
  have gk_tie_weight_2 : GFK ⟨P, w, K, mg, base⟩ (nm0 K) "tie_weight" 4 0 ["other", "one", "web"] [2, 1, 0] d_tie_weight := gfk_of (ps := ["web", "one", "other"]) F_tie_weight m_tie_weight (fn_g F_tie_weight S_tie_weight (L := L_tie_weight (nm0 K)) ⟨bi base, g_weights_in, g_look_at_tie, cl base⟩ (fun X W c _ _ _ _ => b_tie_weight c)) rfl (by decide) (fun kV doc pm an cdv ct us ws h1 h2 => match us, ws, h1, h2 with | [], [_, _, _], _, _ => rfl)
  have g_beside : GF ⟨P, w, K, mg, base⟩ (nm0 K) "beside" 4 2 d_beside := gf_of (ps := ["web", "thing"]) F_beside S_beside (L := L_beside (nm0 K)) ⟨bi base, g_look_at_thing, cl base⟩ m_beside 2 rfl (FunD.bindsN F_beside fun _ _ _ _ _ _ us hl => match us, hl with | [_, _], _ => rfl) fun X W c _ _ _ _ => b_beside c
  have gk_beside_3 : GFK ⟨P, w, K, mg, base⟩ (nm0 K) "beside" 4 0 ["thing", "web"] [1, 0] d_beside := gfk_of (ps := ["web", "thing"]) F_beside m_beside (fn_g F_beside S_beside (L := L_beside (nm0 K)) ⟨bi base, g_look_at_thing, cl base⟩ (fun X W c _ _ _ _ => b_beside c)) rfl (by decide) (fun kV doc pm an cdv ct us ws h1 h2 => match us, ws, h1, h2 with | [], [_, _], _, _ => rfl)
  have g_l_is_whole : GF ⟨P, w, K, mg, base⟩ (nm0 K) "_law_is_whole" 1 1 d_l_is_whole := gf_of (ps := ["_law_what"]) F_l_is_whole S_l_is_whole (L := L_l_is_whole (nm0 K)) ⟨bi base, cl base⟩ m_l_is_whole 1 rfl (FunD.bindsN F_l_is_whole fun _ _ _ _ _ _ us hl => match us, hl with | [_], _ => rfl) fun X W c _ _ _ _ => b_l_is_whole c
  have g_l_draw : GF ⟨P, w, K, mg, base⟩ (nm0 K) "_law_draw" 1 2 d_l_draw := gf_of (ps := ["_law_pool_here", "_law_many"]) F_l_draw S_l_draw (L := L_l_draw (nm0 K)) ⟨bi base, cl base⟩ m_l_draw 2 rfl (FunD.bindsN F_l_draw fun _ _ _ _ _ _ us hl => match us, hl with | [_, _], _ => rfl) fun X W c _ _ _ _ => b_l_draw c
  have g_l_hefts : GF ⟨P, w, K, mg, base⟩ (nm0 K) "_law_hefts" 1 1 d_l_hefts := gf_of (ps := ["_law_net_here"]) F_l_hefts S_l_hefts (L := L_l_hefts (nm0 K)) ⟨bi base, cl base⟩ m_l_hefts 1 rfl (FunD.bindsN F_l_hefts fun _ _ _ _ _ _ us hl => match us, hl with | [_], _ => rfl) fun X W c _ _ _ _ => b_l_hefts c
  have g_l_pool : GF ⟨P, w, K, mg, base⟩ (nm0 K) "_law_pool" 1 2 d_l_pool := gf_of (ps := ["_law_script", "_law_k"]) F_l_pool S_l_pool (L := L_l_pool (nm0 K)) ⟨bi base, cl base⟩ m_l_pool 2 rfl (FunD.bindsN F_l_pool fun _ _ _ _ _ _ us hl => match us, hl with | [_, _], _ => rfl) fun X W c _ _ _ _ => b_l_pool c
  have g_l_heft : GF ⟨P, w, K, mg, base⟩ (nm0 K) "_law_heft" 2 1 d_l_heft := gf_of (ps := ["_law_pool_here"]) F_l_heft S_l_heft (L := L_l_heft (nm0 K)) ⟨bi base, g_l_draw, cl base⟩ m_l_heft 1 rfl (FunD.bindsN F_l_heft fun _ _ _ _ _ _ us hl => match us, hl with | [_], _ => rfl) fun X W c _ _ _ _ => b_l_heft c
  have g_l_net : GF ⟨P, w, K, mg, base⟩ (nm0 K) "_law_net" 3 2 d_l_net := gf_of (ps := ["_law_pool_here", "_law_limit"]) F_l_net S_l_net (L := L_l_net (nm0 K)) ⟨bi base, g_l_draw, g_l_heft, cl base⟩ m_l_net 2 rfl (FunD.bindsN F_l_net fun _ _ _ _ _ _ us hl => match us, hl with | [_, _], _ => rfl) fun X W c _ _ _ _ => b_l_net c
  have g_l_all_lots : GF ⟨P, w, K, mg, base⟩ (nm0 K) "_law_all_lots" 1 1 d_l_all_lots := gf_of (ps := ["_law_net_here"]) F_l_all_lots S_l_all_lots (L := L_l_all_lots (nm0 K)) ⟨bi base, cl base⟩ m_l_all_lots 1 rfl (FunD.bindsN F_l_all_lots fun _ _ _ _ _ _ us hl => match us, hl with | [_], _ => rfl) fun X W c _ _ _ _ => b_l_all_lots c
  have g_l_sum : GF ⟨P, w, K, mg, base⟩ (nm0 K) "_law_sum" 2 2 d_l_sum := gf_of (ps := ["_law_net_here", "_law_own"]) F_l_sum S_l_sum (L := L_l_sum (nm0 K)) ⟨bi base, g_l_hefts, cl base⟩ m_l_sum 2 rfl (FunD.bindsN F_l_sum fun _ _ _ _ _ _ us hl => match us, hl with | [_, _], _ => rfl) fun X W c _ _ _ _ => b_l_sum c
  have g_l_one_lot : GF ⟨P, w, K, mg, base⟩ (nm0 K) "_law_one_lot" 2 2 d_l_one_lot := gf_of (ps := ["_law_pool_here", "_law_net_here"]) F_l_one_lot S_l_one_lot (L := L_l_one_lot (nm0 K)) ⟨bi base, g_l_draw, cl base⟩ m_l_one_lot 2 rfl (FunD.bindsN F_l_one_lot fun _ _ _ _ _ _ us hl => match us, hl with | [_, _], _ => rfl) fun X W c _ _ _ _ => b_l_one_lot c
  have g_l_lot_so : GF ⟨P, w, K, mg, base⟩ (nm0 K) "_law_lot_so" 2 2 d_l_lot_so := gf_of (ps := ["_law_net_here", "_law_what"]) F_l_lot_so S_l_lot_so (L := L_l_lot_so (nm0 K)) ⟨bi base, g_l_is_whole, cl base⟩ m_l_lot_so 2 rfl (FunD.bindsN F_l_lot_so fun _ _ _ _ _ _ us hl => match us, hl with | [_, _], _ => rfl) fun X W c _ _ _ _ => b_l_lot_so c
  have g_l_bent : GF ⟨P, w, K, mg, base⟩ (nm0 K) "_law_bent" 2 3 d_l_bent := gf_of (ps := ["_law_pool_here", "_law_net_here", "_law_own"]) F_l_bent S_l_bent (L := L_l_bent (nm0 K)) ⟨bi base, g_l_draw, cl base⟩ m_l_bent 3 rfl (FunD.bindsN F_l_bent fun _ _ _ _ _ _ us hl => match us, hl with | [_, _, _], _ => rfl) fun X W c _ _ _ _ => b_l_bent c
  have g_l_tie_told : GF ⟨P, w, K, mg, base⟩ (nm0 K) "_law_tie_told" 5 3 d_l_tie_told := gf_of (ps := ["_law_net_here", "_law_low", "_law_high"]) F_l_tie_told S_l_tie_told (L := L_l_tie_told (nm0 K)) ⟨bi base, g_tie_weight, cl base⟩ m_l_tie_told 3 rfl (FunD.bindsN F_l_tie_told fun _ _ _ _ _ _ us hl => match us, hl with | [_, _, _], _ => rfl) fun X W c _ e1 e2 _ => b_l_tie_told c e1 e2
  have g_l_near_told : GF ⟨P, w, K, mg, base⟩ (nm0 K) "_law_near_told" 5 2 d_l_near_told := gf_of (ps := ["_law_net_here", "_law_item"]) F_l_near_told S_l_near_told (L := L_l_near_told (nm0 K)) ⟨bi base, g_beside, cl base⟩ m_l_near_told 2 rfl (FunD.bindsN F_l_near_told fun _ _ _ _ _ _ us hl => match us, hl with | [_, _], _ => rfl) fun X W c _ e1 e2 _ => b_l_near_told c e1 e2
  have g_l_is_item : GF ⟨P, w, K, mg, base⟩ (nm0 K) "_law_is_item" 2 2 d_l_is_item := gf_of (ps := ["_law_net_here", "_law_item"]) F_l_is_item S_l_is_item (L := L_l_is_item (nm0 K)) ⟨bi base, g_l_is_whole, cl base⟩ m_l_is_item 2 rfl (FunD.bindsN F_l_is_item fun _ _ _ _ _ _ us hl => match us, hl with | [_, _], _ => rfl) fun X W c _ _ _ _ => b_l_is_item c
  have g_l_ties_right : GF ⟨P, w, K, mg, base⟩ (nm0 K) "_law_ties_right" 6 1 d_l_ties_right := gf_of (ps := ["_law_net_here"]) F_l_ties_right S_l_ties_right (L := L_l_ties_right (nm0 K)) ⟨bi base, g_l_hefts, g_l_tie_told, g_l_near_told, g_l_is_item, cl base⟩ m_l_ties_right 1 rfl (FunD.bindsN F_l_ties_right fun _ _ _ _ _ _ us hl => match us, hl with | [_], _ => rfl) fun X W c _ _ _ _ => b_l_ties_right c
  exact fn_g F_law S_law (L := L_law (nm0 K)) ⟨bi base, g_is_lot, g_weight_of, g_tie_weight, g_beside, g_l_pool, g_l_net, g_l_all_lots, g_l_sum, g_l_one_lot, g_l_lot_so, g_l_bent, g_l_ties_right, gk_is_lot_0, gk_weight_of_1, gk_tie_weight_2, gk_beside_3, cl base⟩ fun X W c _ _ _ _ => b_law c
end K02

namespace K02
open PySem PySem.Spec L2 MI
theorem draw_eq : d_l_draw = drawF := rfl
theorem net_eq : d_l_net = netF := rfl
theorem pool_eq : d_l_pool = poolF2 := rfl
theorem weights_eq : d_weights_in = weightsF := rfl
theorem hefts_eq : d_l_hefts = heftsF := rfl
theorem is_lot_eq : d_is_lot = isLotF := rfl
theorem so_eq : d_l_lot_so = soF := rfl
/-- a lot's weight -/
def wS (ts : List (Int × Int × Int)) (ms : List (List Int)) : Int := (ms.map fun m => (wt ts m).getD 0).sum
theorem sum_body {ts : List (Int × Int × Int)} {ms : List (List Int)} {q : Nat} {h : MH} {x0 x3 : Option D} (hq : h[q]? = some (.dict (wts ts))) (hm : ∀ m ∈ ms, m ∈ ts.map prI) (hl : ms.length ≤ 1000) :
    eCall (seqF sumG) (aCons (eComp false (iSeq (eVar 1)) (gVar 3) bYes (eBin ixA (eVar 2) (eVar 3)) [3]) aNil) [x0, some (.tup (ms.map tupI)), some (.ref q), x3] h = .ok (.int (wS ts ms)) h := by
  refine call1_of (x := .lst ((ms.map fun m => (wt ts m).getD 0).map D.int)) (h1 := h) ?_ ?_
  · refine (comp_pure (it := ⟨ms.map tupI, noChk⟩) (fun _ => true) (fun d => .int ((wt ts (unI d)).getD 0)) rfl rfl (fun d hd => ?_) (by show (ms.map tupI).length ≤ lim; rw [List.length_map]; unfold lim; omega)).trans ?_
    · obtain ⟨m, hm', rfl⟩ := List.mem_map.mp hd
      refine ⟨_, rfl, rfl, fun _ => bin_of (x := .ref q) (y := tupI m) (h1 := h) rfl rfl ?_⟩
      have : (wt ts m).isSome = true := by rw [wt_some, decide_eq_true (hm m hm')]
      obtain ⟨w, hw⟩ := Option.isSome_iff_exists.mp this
      rw [ix_wts hq hw, unI_tup, hw]
      rfl
    · rw [List.filter_eq_self.mpr fun _ _ => rfl, List.map_map]
      show Res.ok (D.lst _) h = _
      congr 2
      rw [List.map_map]
      exact List.map_congr_left fun m _ => by show D.int ((wt ts (unI (tupI m))).getD 0) = _; rw [unI_tup]; rfl
  · show seqF sumG [.lst _] h = _
    unfold seqF
    simp only [itemsOf, isTupB]
    unfold sumG
    rw [asInts_map]
    rfl
theorem weight_of_ok {n : Int} {ts : List (Int × Int × Int)} {ms : List (List Int)} (T : NetOk n ts) (hm : ∀ m ∈ ms, m ∈ ts.map prI) (hl : ms.length ≤ 1000) (h : MH) : d_weight_of [netD n ts, .tup (ms.map tupI)] h = .ok (.int (wS ts ms)) (h ++ [.dict (wts ts)]) := by
  refine fn_rt (seq_nx (σ' := [some (netD n ts), some (.tup (ms.map tupI)), some (.ref h.length), none]) (h' := h ++ [.dict (wts ts)]) (asg_of (d := .ref h.length) (call1_of (x := netD n ts) rfl (weights_ok T h)) rfl) (ret_of (sum_body (by simp) hm hl)))
theorem l_sum_ok {n : Int} {ts : List (Int × Int × Int)} {ms : List (List Int)} (T : NetOk n ts) (hm : ∀ m ∈ ms, m ∈ ts.map prI) (hl : ms.length ≤ 1000) (h : MH) : d_l_sum [netD n ts, .tup (ms.map tupI)] h = .ok (.int (wS ts ms)) (h ++ [.dict (wts ts)]) := by
  refine fn_rt (seq_nx (σ' := [some (netD n ts), some (.tup (ms.map tupI)), some (.ref h.length), none]) (h' := h ++ [.dict (wts ts)]) (asg_of (d := .ref h.length) (call1_of (x := netD n ts) rfl (hefts_ok T h)) rfl) (ret_of (sum_body (by simp) hm hl)))
theorem int_nodup_len : ∀ (N : Nat) (l : List Int), l.Nodup → (∀ x ∈ l, 0 ≤ x ∧ x < N) → l.length ≤ N
  | 0, l, _, h => by
    cases l with
    | nil => exact Nat.le_refl _
    | cons a r => have := h a (List.mem_cons_self ..); omega
  | N + 1, l, nd, h => by
    by_cases hm : (N : Int) ∈ l
    · have ih := int_nodup_len N (l.erase N) (nd.erase _) fun x hx => by
        have hx' := (List.Nodup.mem_erase_iff nd).mp hx
        have := h x hx'.2
        have := hx'.1
        omega
      rw [List.length_erase_of_mem hm] at ih
      omega
    · have ih := int_nodup_len N l nd fun x hx => by
        have := h x hx
        have : x ≠ N := fun z => hm (z ▸ hx)
        omega
      omega
theorem lot_two {ps ms : List (List Int)} {n : Int} {ts : List (Int × Int × Int)} (e : ps = ts.map prI) (h : lotM ps ms = true) : ∀ m ∈ ms, ∃ a b, m = [a, b] := fun m hm => by
  have := (lotM_iff.mp h).1 m hm
  rw [e] at this
  obtain ⟨t, _, rfl⟩ := List.mem_map.mp this
  exact ⟨t.1, t.2.1, rfl⟩
theorem lot_len {n : Int} {ts : List (Int × Int × Int)} {ms : List (List Int)} (T : NetOk n ts) (n1 : n ≤ 7) (h : lotM (ts.map prI) ms = true) : ms.length ≤ 3 := by
  have fl := flat_len (lot_two (n := n) rfl h)
  have h' := lotM_iff.mp h
  have := int_nodup_len 7 ms.flatten h'.2.2 fun x hx => by
    obtain ⟨m, hm, hx⟩ := List.mem_flatten.mp hx
    obtain ⟨t, ht, rfl⟩ := List.mem_map.mp (h'.1 m hm)
    have := T.ok t ht
    unfold prI at hx
    simp at hx
    rcases hx with rfl | rfl <;> constructor <;> omega
  omega
/-! ### a lot drawn -/
def oneBody : EvS := (sIf (bAnd (eT (eBin notInA (eVar 4) (eVar 2))) (bAnd (eT (eBin notInA (eVar 5) (eVar 2))) (eT (eBin gtO (eCall d_l_draw (aCons (eVar 0) (aCons (eC (.int 3)) aNil))) (eC (.int 0)))))) (sSeq (sDrop (eMeth "list" appendF (eVar 3) (aCons (eTup (aCons (eVar 4) (aCons (eVar 5) aNil))) aNil)))
  (sAsg (eBin addO (eVar 2) (eLst false (aCons (eVar 4) (aCons (eVar 5) aNil)))) (gVar 2))) sSkip)
def oneG : EvG := gTupM 3 (gsCons (gVar 4) (gsCons (gVar 5) (gsCons (gVar 6) gsNil)))
theorem one_loop {p q : Nat} {n : Int} {ts : List (Int × Int × Int)} (hq : q ≠ p) (T : NetOk n ts) (n1 : n ≤ 7) : ∀ (rest pre : List (Int × Int × Int)) (ms : List (List Int)) (x4 x5 x6 : Option D) (h : MH), ts = pre ++ rest → PoolAt p h → h[q]? = some (.lst (ms.map tupI)) → lotM (ts.map prI) ms = true → (∀ m ∈ ms, m ∈ pre.map prI) →
    ∃ (ms' : List (List Int)) (σ' : Sl) (h' : MH), loopM oneG oneBody noChk ((rest.map tri).map tupI) [some (.ref p), some (netD n ts), some (.lst (ms.flatten.map .int)), some (.ref q), x4, x5, x6] h = .nx σ' h' ∧ (∃ y2 y4 y5 y6, σ' = [some (.ref p), some (netD n ts), y2, some (.ref q), y4, y5, y6]) ∧ h'[q]? = some (.lst (ms'.map tupI)) ∧ lotM (ts.map prI) ms' = true ∧ PoolAt p h' ∧ (∀ k, k ≠ p → k ≠ q → ∀ o, h[k]? = some o → h'[k]? = some o)
  | [], pre, ms, x4, x5, x6, h, _, P, hb, h0, _ => ⟨ms, _, h, loop_end rfl, ⟨_, _, _, _, rfl⟩, hb, h0, P, fun _ _ _ _ e => e⟩
  | e :: rest, pre, ms, x4, x5, x6, h, ht, P, hb, h0, hm => by
    have he : e ∈ ts := by rw [ht]; simp
    have h2 : ∀ m ∈ ms, ∃ a b, m = [a, b] := fun m hm' => by
      obtain ⟨t, _, rfl⟩ := List.mem_map.mp (hm m hm')
      exact ⟨t.1, t.2.1, rfl⟩
    have flen := flat_len h2
    have ml : ms.length ≤ 3 := lot_len T n1 h0
    have enx : (∀ (b : Bool) (h1 : MH), b = true → True) := fun _ _ _ => trivial
    -- the test
    have ne : (tri e).map D.int = [.int e.1, .int e.2.1, .int e.2.2] := rfl
    have c1 : eT (eBin notInA (eVar 4) (eVar 2)) [some (.ref p), some (netD n ts), some (.lst (ms.flatten.map .int)), some (.ref q), some (.int e.1), some (.int e.2.1), some (.int e.2.2)] h = .ok (!decide (e.1 ∈ ms.flatten)) h := eT_of (bin_of (x := .int e.1) (y := .lst (ms.flatten.map .int)) (h1 := h) rfl rfl (notIn_lst_ints _ _ _))
    have c2 : eT (eBin notInA (eVar 5) (eVar 2)) [some (.ref p), some (netD n ts), some (.lst (ms.flatten.map .int)), some (.ref q), some (.int e.1), some (.int e.2.1), some (.int e.2.2)] h = .ok (!decide (e.2.1 ∈ ms.flatten)) h := eT_of (bin_of (x := .int e.2.1) (y := .lst (ms.flatten.map .int)) (h1 := h) rfl rfl (notIn_lst_ints _ _ _))
    obtain ⟨r, h1, e1, _, _, y1⟩ := drwF (σ := [some (.ref p), some (netD n ts), some (.lst (ms.flatten.map .int)), some (.ref q), some (.int e.1), some (.int e.2.1), some (.int e.2.2)]) (f := eVar 0) (g := eC (.int 3)) (m := 3) P rfl rfl (by omega) (by omega)
    have hb1 := y1.2 q hq _ hb
    have ht' : ts = (pre ++ [e]) ++ rest := by rw [ht]; simp
    have skip : ∀ h', PoolAt p h' → h'[q]? = some (.lst (ms.map tupI)) → (∀ k, k ≠ p → k ≠ q → ∀ o, h[k]? = some o → h'[k]? = some o) → oneBody [some (.ref p), some (netD n ts), some (.lst (ms.flatten.map .int)), some (.ref q), some (.int e.1), some (.int e.2.1), some (.int e.2.2)] h = .nx [some (.ref p), some (netD n ts), some (.lst (ms.flatten.map .int)), some (.ref q), some (.int e.1), some (.int e.2.1), some (.int e.2.2)] h' →
        ∃ (ms' : List (List Int)) (σ' : Sl) (h' : MH), loopM oneG oneBody noChk (((e :: rest).map tri).map tupI) [some (.ref p), some (netD n ts), some (.lst (ms.flatten.map .int)), some (.ref q), x4, x5, x6] h = .nx σ' h' ∧ (∃ y2 y4 y5 y6, σ' = [some (.ref p), some (netD n ts), y2, some (.ref q), y4, y5, y6]) ∧ h'[q]? = some (.lst (ms'.map tupI)) ∧ lotM (ts.map prI) ms' = true ∧ PoolAt p h' ∧ (∀ k, k ≠ p → k ≠ q → ∀ o, h[k]? = some o → h'[k]? = some o) := fun h' P' hb' fr st => by
      obtain ⟨ms', σ', h2, g1, g2, g3, g4, g5, g6⟩ := one_loop hq T n1 rest (pre ++ [e]) ms (some (.int e.1)) (some (.int e.2.1)) (some (.int e.2.2)) h' ht' P' hb' h0 fun m hm' => by rw [List.map_append]; exact List.mem_append_left _ (hm m hm')
      exact ⟨ms', σ', h2, loop_nx rfl rfl st g1, g2, g3, g4, g5, fun k k1 k2 o z => g6 k k1 k2 o (fr k k1 k2 o z)⟩
    have cond : ∀ {b : Bool} {h' : MH}, bAnd (eT (eBin notInA (eVar 4) (eVar 2))) (bAnd (eT (eBin notInA (eVar 5) (eVar 2))) (eT (eBin gtO (eCall d_l_draw (aCons (eVar 0) (aCons (eC (.int 3)) aNil))) (eC (.int 0))))) [some (.ref p), some (netD n ts), some (.lst (ms.flatten.map .int)), some (.ref q), some (.int e.1), some (.int e.2.1), some (.int e.2.2)] h = .ok b h' → b = false → oneBody [some (.ref p), some (netD n ts), some (.lst (ms.flatten.map .int)), some (.ref q), some (.int e.1), some (.int e.2.1), some (.int e.2.2)] h = .nx [some (.ref p), some (netD n ts), some (.lst (ms.flatten.map .int)), some (.ref q), some (.int e.1), some (.int e.2.1), some (.int e.2.2)] h' := fun z1 z2 => if_f (z1.trans (by rw [z2])) rfl
    cases q1 : decide (e.1 ∈ ms.flatten) with
    | true => exact skip h P hb (fun _ _ _ _ z => z) (cond (b := false) (bAnd_nx (b := false) (c1.trans (by rw [q1]; rfl)) (fun z => nomatch z) fun _ => rfl) rfl)
    | false =>
      cases q2 : decide (e.2.1 ∈ ms.flatten) with
      | true => exact skip h P hb (fun _ _ _ _ z => z) (cond (b := false) (bAnd_nx (b := true) (c1.trans (by rw [q1]; rfl)) (fun _ => bAnd_nx (b := false) (c2.trans (by rw [q2]; rfl)) (fun z => nomatch z) fun _ => rfl) fun z => nomatch z) rfl)
      | false =>
        have c3 : bAnd (eT (eBin notInA (eVar 4) (eVar 2))) (bAnd (eT (eBin notInA (eVar 5) (eVar 2))) (eT (eBin gtO (eCall d_l_draw (aCons (eVar 0) (aCons (eC (.int 3)) aNil))) (eC (.int 0))))) [some (.ref p), some (netD n ts), some (.lst (ms.flatten.map .int)), some (.ref q), some (.int e.1), some (.int e.2.1), some (.int e.2.2)] h = .ok (decide (0 < r)) h1 := bAnd_nx (b := true) (c1.trans (by rw [q1]; rfl)) (fun _ => bAnd_nx (b := true) (c2.trans (by rw [q2]; rfl)) (fun _ => eT_of (bin_of (x := .int r) (y := .int 0) (h1 := h1) e1 rfl rfl)) fun z => nomatch z) fun z => nomatch z
        cases q3 : decide (0 < r) with
        | false => exact skip h1 y1.1 hb1 (fun k k1 _ o z => y1.2 k k1 o z) (cond (b := decide (0 < r)) c3 q3)
        | true =>
          have na : e.1 ∉ ms.flatten := of_decide_eq_false q1
          have nb : e.2.1 ∉ ms.flatten := of_decide_eq_false q2
          have h0' : lotM (ts.map prI) (ms ++ [[e.1, e.2.1]]) = true := lotM_snoc (prI_lt T) h0 (List.mem_map.mpr ⟨e, he, rfl⟩) na nb fun l hl => by
            obtain ⟨t, ht1, rfl⟩ := List.mem_map.mp (hm l (List.mem_of_getLast? hl))
            have up := T.up
            rw [ht] at up
            have := (List.pairwise_append.mp up).2.2 t ht1 e (by simp)
            rw [lt2_iff] at this
            show [t.1, t.2.1] < [e.1, e.2.1]
            rw [List.cons_lt_cons_iff]
            rcases this with z | ⟨z1, z2⟩
            · exact .inl z
            · exact .inr ⟨z1, by rw [List.cons_lt_cons_iff]; exact .inl z2⟩
          have st : oneBody [some (.ref p), some (netD n ts), some (.lst (ms.flatten.map .int)), some (.ref q), some (.int e.1), some (.int e.2.1), some (.int e.2.2)] h = .nx [some (.ref p), some (netD n ts), some (.lst ((ms ++ [[e.1, e.2.1]]).flatten.map .int)), some (.ref q), some (.int e.1), some (.int e.2.1), some (.int e.2.2)] (h1.set q (.lst ((ms ++ [[e.1, e.2.1]]).map tupI))) := by
            refine if_t (c3.trans (by rw [q3])) (seq_nx (drop_of (app_of (q := q) (d := tupI [e.1, e.2.1]) rfl ⟨_, hb1⟩ (tup_of (ds := [.int e.1, .int e.2.1]) (h1 := h1) rfl (show 2 ≤ lim by decide)) hb1 (by rw [List.length_map]; omega))) ?_)
            rw [List.map_append]
            refine asg_of (d := .lst ((ms ++ [[e.1, e.2.1]]).flatten.map .int)) (bin_of (x := .lst (ms.flatten.map .int)) (y := .lst [.int e.1, .int e.2.1]) rfl rfl ?_) rfl
            rw [add_lst _ _ _ (by rw [List.length_map, flen]; show 2 * ms.length + 2 ≤ lim; unfold lim; omega)]
            simp
          obtain ⟨ms', σ', h2, g1, g2, g3, g4, g5, g6⟩ := one_loop hq T n1 rest (pre ++ [e]) (ms ++ [[e.1, e.2.1]]) (some (.int e.1)) (some (.int e.2.1)) (some (.int e.2.2)) (h1.set q (.lst ((ms ++ [[e.1, e.2.1]]).map tupI))) ht' (pool_setN y1.1 hq) (set_get hb1) h0' fun m hm' => by
            rw [List.map_append]
            rcases List.mem_append.mp hm' with z | z
            · exact List.mem_append_left _ (hm m z)
            · exact List.mem_append_right _ (by rw [List.mem_singleton.mp z]; exact List.mem_singleton.mpr rfl)
          exact ⟨ms', σ', h2, loop_nx rfl rfl st g1, g2, g3, g4, g5, fun k k1 k2 o z => g6 k k1 k2 o (by rw [set_ne k2]; exact y1.2 k k1 o z)⟩
theorem one_lot_ok {p : Nat} {n : Int} {ts : List (Int × Int × Int)} {h : MH} (P : PoolAt p h) (T : NetOk n ts) (n1 : n ≤ 7) : ∃ ms h', d_l_one_lot [.ref p, netD n ts] h = .ok (.tup (ms.map tupI)) h' ∧ lotM (ts.map prI) ms = true ∧ Px p h h' := by
  have pl : p < h.length := by obtain ⟨u, v, w, _⟩ := P; exact (List.getElem?_eq_some_iff.mp w).1
  have x3 := Px.ex P (Ex.one h (.lst []))
  obtain ⟨ms, σ', h', e1, ⟨y2, y4, y5, y6, rfl⟩, hb, h0, P', fr⟩ := one_loop (p := p) (q := h.length) (by omega) T n1 ts [] [] none none none (h ++ [.lst []]) rfl x3.1 (by simp) (by rw [lotM_iff]; exact ⟨(fun _ z => nomatch z), List.Pairwise.nil, List.nodup_nil⟩) (fun _ z => nomatch z)
  refine ⟨ms, h', fn_rt ?_, h0, P', fun m hm o e => fr m hm (by have := (List.getElem?_eq_some_iff.mp e).1; omega) o ((Ex.one h _).get e)⟩
  refine seq_nx (σ' := [some (.ref p), some (netD n ts), some (.lst []), none, none, none, none]) (h' := h) (asg_of (d := .lst []) (h' := h) rfl rfl) ?_
  refine seq_nx (σ' := [some (.ref p), some (netD n ts), some (.lst []), some (.ref h.length), none, none, none]) (h' := h ++ [.lst []]) (asg_of (d := .ref h.length) (h' := h ++ [.lst []]) rfl rfl) ?_
  have e1' : loopM oneG oneBody noChk ((ts.map tri).map tupI) [some (D.ref p), some (netD n ts), some (.lst []), some (.ref h.length), none, none, none] (h ++ [O.lst []]) = Fl.nx [some (D.ref p), some (netD n ts), y2, some (D.ref (List.length h)), y4, y5, y6] h' := e1
  refine seq_nx (σ' := [some (D.ref p), some (netD n ts), y2, some (D.ref (List.length h)), y4, y5, y6]) (h' := h') (for_of (it := ⟨(ts.map tri).map tupI, noChk⟩) (h1 := h ++ [O.lst []]) (net_ties rfl) e1') (ret_of (call1_of (x := .ref h.length) (h1 := h') rfl ?_))
  unfold seqF
  have it : itemsOf h' (.ref h.length) = some ⟨ms.map tupI, boxChk h.length (ms.map tupI)⟩ := by unfold itemsOf; simp only [hb]
  simp only [it]
  rfl
end K02

namespace K02
open PySem PySem.Spec L2 MI
abbrev Lot := List (List Int)
def tupL (ms : Lot) : D := .tup (ms.map tupI)
def okL (a b : Int) (ms : Lot) : Bool := !decide (a ∈ ms.flatten) && !decide (b ∈ ms.flatten)
def moreOf (a b : Int) (F : List Lot) : List Lot := (F.filter (okL a b)).map (· ++ [[a, b]])
theorem app_lim {σ : Sl} {h h1 : MH} {q : Nat} {xs : List D} {f g : Ev} {d : D} (e : f σ h = .ok (.ref q) h) (e0 : ∃ ys, h[q]? = some (.lst ys)) (e1 : g σ h = .ok d h1) (e2 : h1[q]? = some (.lst xs)) (hl : xs.length < lim) :
    eMeth "list" appendF f (aCons g aNil) σ h = .ok .non (h1.set q (.lst (xs ++ [d]))) := by
  obtain ⟨ys, e0⟩ := e0
  unfold eMeth
  rw [e]
  show (if tyS h (.ref q) = some "list" then _ else _) = _
  have ty : tyS h (.ref q) = some "list" := by
    unfold tyS
    dsimp only
    rw [e0]
  rw [if_pos ty, acons_of e1 rfl]
  show appendF [.ref q, d] h1 = _
  unfold appendF
  have b : boxL h1 q = some xs := by unfold boxL; rw [e2]
  simp only [b]
  rw [if_pos hl]
theorem set_last (h : MH) (o u : O) : (h ++ [o]).set h.length u = h ++ [u] := by simp
theorem get_last (h : MH) (o : O) : (h ++ [o])[h.length]? = some o := by simp
/-- sum([list(pair) for pair in own], []) -/
theorem taken_of {σ : Sl} {h : MH} {ms : Lot} {x6 : Option D} {a0 a1 a2 a3 a5 : Option D} (h2 : ∀ m ∈ ms, ∃ a b, m = [a, b]) (hl : ms.length ≤ 1000) :
    eCall sumLF (aCons (eComp false (iSeq (eVar 4)) (gVar 6) bYes (eCall (seqF (listG false)) (aCons (eVar 6) aNil)) [6]) (aCons (eLst false aNil) aNil)) [a0, a1, a2, a3, some (tupL ms), a5, x6] h = .ok (.lst (ms.flatten.map .int)) h := by
  refine call2_of (x := .lst (ms.map fun m => D.lst (m.map .int))) (y := .lst []) (h1 := h) (h2 := h) ?_ rfl ?_
  · refine (comp_pure (it := ⟨ms.map tupI, noChk⟩) (fun _ => true) (fun d => .lst ((unI d).map .int)) rfl rfl (fun d hd => ?_) (by show (ms.map tupI).length ≤ lim; rw [List.length_map]; unfold lim; omega)).trans ?_
    · obtain ⟨m, hm', rfl⟩ := List.mem_map.mp hd
      refine ⟨_, rfl, rfl, fun _ => ?_⟩
      rw [unI_tup]
      rfl
    · rw [List.filter_eq_self.mpr fun _ _ => rfl, List.map_map]
      show Res.ok (D.lst _) h = _
      congr 2
      exact List.map_congr_left fun m _ => by show D.lst ((unI (tupI m)).map .int) = _; rw [unI_tup]
  · have al : allLsts h (ms.map fun m => D.lst (m.map .int)) = some (ms.map fun m => m.map D.int) := by
      clear h2 hl
      induction ms with
      | nil => rfl
      | cons m ms ih =>
        rw [List.map_cons]
        unfold allLsts
        rw [ih]
        rfl
    show sumLF [.lst _, .lst []] h = _
    unfold sumLF
    simp only [isTupB, itemsOf, al]
    have fl : ((ms.map fun m => m.map D.int).map List.length).sum = ms.flatten.length := by rw [List.length_flatten, List.map_map]; congr 1; exact List.map_congr_left fun m _ => by simp
    rw [if_pos (by rw [fl, flat_len h2]; unfold lim; omega)]
    congr 2
    rw [List.map_flatten]
def inBody : EvS := (sSeq (sAsg (eCall sumLF (aCons (eComp false (iSeq (eVar 4)) (gVar 6) bYes (eCall (seqF (listG false)) (aCons (eVar 6) aNil)) [6]) (aCons (eLst false aNil) aNil))) (gVar 5))
  (sIf (bAnd (eT (eBin notInA (eBin ixA (eVar 2) (eC (.int 0))) (eVar 5))) (eT (eBin notInA (eBin ixA (eVar 2) (eC (.int 1))) (eVar 5)))) (sDrop (eMeth "list" appendF (eVar 3) (aCons (eBin addO (eVar 4) (eTup (aCons (eSlice false (eVar 2) oNone (oSome (eC (.int 2)))) aNil))) aNil))) sSkip))
theorem in_loop {n : Int} {ts : List (Int × Int × Int)} {e : Int × Int × Int} (T : NetOk n ts) (n1 : n ≤ 7) (h : MH) : ∀ (G more : List Lot) (x1 x4 x5 x6 : Option D), (∀ ms ∈ G, lotM (ts.map prI) ms = true) → more.length + G.length < lim →
    ∃ y4 y5, loopM (gVar 4) inBody noChk (G.map tupL) [some (netD n ts), x1, some (tupI (tri e)), some (.ref h.length), x4, x5, x6] (h ++ [.lst (more.map tupL)]) = .nx [some (netD n ts), x1, some (tupI (tri e)), some (.ref h.length), y4, y5, x6] (h ++ [.lst ((more ++ moreOf e.1 e.2.1 G).map tupL)])
  | [], more, x1, x4, x5, x6, _, _ => ⟨x4, x5, by rw [show more ++ moreOf e.1 e.2.1 [] = more from by unfold moreOf; simp]; exact loop_end rfl⟩
  | ms :: G, more, x1, x4, x5, x6, hG, hl => by
    have h0 := hG ms (List.mem_cons_self ..)
    have ml := lot_len T n1 h0
    have tk := taken_of (σ := []) (h := h ++ [.lst (more.map tupL)]) (a0 := some (netD n ts)) (a1 := x1) (a2 := some (tupI (tri e))) (a3 := some (.ref h.length)) (a5 := x5) (x6 := x6) (lot_two (n := n) rfl h0) (by omega)
    have cond : bAnd (eT (eBin notInA (eBin ixA (eVar 2) (eC (.int 0))) (eVar 5))) (eT (eBin notInA (eBin ixA (eVar 2) (eC (.int 1))) (eVar 5))) [some (netD n ts), x1, some (tupI (tri e)), some (.ref h.length), some (tupL ms), some (.lst (ms.flatten.map .int)), x6] (h ++ [.lst (more.map tupL)]) = .ok (okL e.1 e.2.1 ms) (h ++ [.lst (more.map tupL)]) :=
      and_of (eT_of (bin_of (x := .int e.1) (y := .lst (ms.flatten.map .int)) (h1 := h ++ [.lst (more.map tupL)]) (bin_of (x := tupI (tri e)) (y := .int 0) (h1 := h ++ [.lst (more.map tupL)]) rfl rfl rfl) rfl (notIn_lst_ints _ _ _))) fun _ => eT_of (bin_of (x := .int e.2.1) (y := .lst (ms.flatten.map .int)) (h1 := h ++ [.lst (more.map tupL)]) (bin_of (x := tupI (tri e)) (y := .int 1) (h1 := h ++ [.lst (more.map tupL)]) rfl rfl rfl) rfl (notIn_lst_ints _ _ _))
    rw [List.length_cons] at hl
    cases q : okL e.1 e.2.1 ms with
    | false =>
      obtain ⟨y4, y5, g⟩ := in_loop T n1 h G more x1 (some (tupL ms)) (some (.lst (ms.flatten.map .int))) x6 (fun m hm => hG m (List.mem_cons_of_mem _ hm)) (by omega)
      have em : moreOf e.1 e.2.1 (ms :: G) = moreOf e.1 e.2.1 G := by unfold moreOf; rw [List.filter_cons_of_neg (by rw [q]; exact Bool.false_ne_true)]
      rw [em]
      exact ⟨y4, y5, loop_nx rfl rfl (seq_nx (asg_of tk rfl) (if_f (cond.trans (by rw [q])) rfl)) g⟩
    | true =>
      obtain ⟨y4, y5, g⟩ := in_loop T n1 h G (more ++ [ms ++ [[e.1, e.2.1]]]) x1 (some (tupL ms)) (some (.lst (ms.flatten.map .int))) x6 (fun m hm => hG m (List.mem_cons_of_mem _ hm)) (by simp; omega)
      have em : more ++ moreOf e.1 e.2.1 (ms :: G) = (more ++ [ms ++ [[e.1, e.2.1]]]) ++ moreOf e.1 e.2.1 G := by unfold moreOf; rw [List.filter_cons_of_pos q, List.map_cons]; simp
      rw [em]
      refine ⟨y4, y5, loop_nx rfl rfl (seq_nx (asg_of tk rfl) (if_t (cond.trans (by rw [q])) (drop_of (app_lim (q := h.length) (xs := more.map tupL) (d := tupL (ms ++ [[e.1, e.2.1]])) rfl ⟨_, get_last _ _⟩ ?_ (get_last _ _) (by rw [List.length_map]; omega))))) ?_⟩
      · refine bin_of (x := tupL ms) (y := .tup [tupI [e.1, e.2.1]]) (h1 := h ++ [.lst (more.map tupL)]) rfl (tup_of (ds := [tupI [e.1, e.2.1]]) (h1 := h ++ [.lst (more.map tupL)]) (acons_of (h1 := h ++ [.lst (more.map tupL)]) (x := tupI [e.1, e.2.1]) (slice_of (x := tupI (tri e)) (h1 := h ++ [.lst (more.map tupL)]) (h2 := h ++ [.lst (more.map tupL)]) (h3 := h ++ [.lst (more.map tupL)]) rfl rfl (osome_of (h1 := h ++ [.lst (more.map tupL)]) rfl) rfl) rfl) (show 1 ≤ lim by decide)) ?_
        unfold tupL
        rw [add_tup _ _ _ (by rw [List.length_map]; show ms.length + 1 ≤ lim; unfold lim; omega), List.map_append]
        rfl
      · rw [set_last]
        rw [show (more.map tupL) ++ [tupL (ms ++ [[e.1, e.2.1]])] = (more ++ [ms ++ [[e.1, e.2.1]]]).map tupL from by simp]
        exact g

/-! ### how many -/
structure Cnt (t : Nat) (F : List Lot) : Prop where
  c0 : F.countP (fun m => decide (m.length = 0)) ≤ 1
  c1 : F.countP (fun m => decide (m.length = 1)) ≤ t
  c2 : F.countP (fun m => decide (m.length = 2)) ≤ t * t
  c3 : F.countP (fun m => decide (m.length = 3)) ≤ t * t * t
theorem more_cnt (a b : Int) (F : List Lot) (j : Nat) : (moreOf a b F).countP (fun m => decide (m.length = j + 1)) ≤ F.countP (fun m => decide (m.length = j)) := by
  unfold moreOf
  rw [List.countP_map]
  refine Nat.le_trans (Nat.le_of_eq ?_) (List.Sublist.countP_le (List.filter_sublist (p := okL a b)) (p := fun m => decide (m.length = j)))
  refine List.countP_congr fun m _ => ?_
  simp
theorem more_cnt0 (a b : Int) (F : List Lot) : (moreOf a b F).countP (fun m => decide (m.length = 0)) = 0 := by
  unfold moreOf
  rw [List.countP_map, List.countP_eq_zero]
  intro m _
  simp
theorem Cnt.more {t : Nat} {F : List Lot} (c : Cnt t F) (a b : Int) : Cnt (t + 1) (F ++ moreOf a b F) := by
  obtain ⟨c0, c1, c2, c3⟩ := c
  have m0 := more_cnt0 a b F
  have m1 : (moreOf a b F).countP (fun m => decide (m.length = 1)) ≤ F.countP (fun m => decide (m.length = 0)) := more_cnt a b F 0
  have m2 : (moreOf a b F).countP (fun m => decide (m.length = 2)) ≤ F.countP (fun m => decide (m.length = 1)) := more_cnt a b F 1
  have m3 : (moreOf a b F).countP (fun m => decide (m.length = 3)) ≤ F.countP (fun m => decide (m.length = 2)) := more_cnt a b F 2
  refine ⟨?_, ?_, ?_, ?_⟩ <;> rw [List.countP_append]
  · omega
  · omega
  · have : (t + 1) * (t + 1) = t * t + 2 * t + 1 := by rw [Nat.add_mul, Nat.mul_add]; omega
    omega
  · have e1 : (t + 1) * (t + 1) = t * t + 2 * t + 1 := by rw [Nat.add_mul, Nat.mul_add]; omega
    have e2 : (t + 1) * (t + 1) * (t + 1) = (t + 1) * (t + 1) * t + (t + 1) * (t + 1) := by rw [Nat.mul_add, Nat.mul_one]
    have e3 : t * t * t ≤ (t + 1) * (t + 1) * t := Nat.mul_le_mul_right t (by omega)
    omega
theorem cnt_len : ∀ (F : List Lot), (∀ m ∈ F, m.length ≤ 3) → F.length = F.countP (fun m => decide (m.length = 0)) + F.countP (fun m => decide (m.length = 1)) + F.countP (fun m => decide (m.length = 2)) + F.countP (fun m => decide (m.length = 3))
  | [], _ => rfl
  | m :: F, h => by
    have ih := cnt_len F fun x hx => h x (List.mem_cons_of_mem _ hx)
    have hm := h m (List.mem_cons_self ..)
    rw [List.length_cons, List.countP_cons, List.countP_cons, List.countP_cons, List.countP_cons]
    rcases (show m.length = 0 ∨ m.length = 1 ∨ m.length = 2 ∨ m.length = 3 by omega) with z | z | z | z <;> simp only [z, Nat.reduceEqDiff, decide_true, decide_false, if_true, Bool.false_eq_true, if_false, reduceIte] <;> omega
theorem Cnt.len {t : Nat} {F : List Lot} (c : Cnt t F) (h : ∀ m ∈ F, m.length ≤ 3) (ht : t ≤ 60) : F.length ≤ 300000 := by
  obtain ⟨c0, c1, c2, c3⟩ := c
  have e := cnt_len F h
  have t2 : t * t ≤ 60 * 60 := Nat.mul_le_mul ht ht
  have t3 : t * t * t ≤ 60 * 60 * 60 := Nat.mul_le_mul t2 ht
  omega
/-! ### all lots -/
theorem add_ref (mh : MH) (a b : List D) {q : Nat} (e : mh[q]? = some (.lst b)) (h : a.length + b.length ≤ lim) : addO mh (.lst a) (.ref q) = some (.lst (a ++ b)) := by
  show (match lstOf mh (.lst a), lstOf mh (.ref q) with | some a, some b => if a.length + b.length ≤ lim then some (D.lst (a ++ b)) else none | _, _ => none) = _
  have : lstOf mh (.ref q) = some b := by unfold lstOf; simp only [e]
  rw [this]
  show (if a.length + b.length ≤ lim then some (D.lst (a ++ b)) else none) = _
  rw [if_pos h]
def outBody : EvS := (sSeq (sAsg (eLst true aNil) (gVar 3)) (sSeq (sFor (iSeq (eVar 1)) (gVar 4) inBody) (sAsg (eBin addO (eVar 1) (eVar 3)) (gVar 1))))
theorem out_loop {n : Int} {ts : List (Int × Int × Int)} (T : NetOk n ts) (n1 : n ≤ 7) : ∀ (rest pre : List (Int × Int × Int)) (F : List Lot) (x2 x3 x4 x5 x6 : Option D) (h : MH), ts = pre ++ rest → Cnt pre.length F → F.head? = some [] → (∀ ms ∈ F, lotM (ts.map prI) ms = true ∧ ∀ m ∈ ms, m ∈ pre.map prI) →
    ∃ (F' : List Lot) (y2 y3 y4 y5 : Option D) (h' : MH), loopM (gVar 2) outBody noChk ((rest.map tri).map tupI) [some (netD n ts), some (.lst (F.map tupL)), x2, x3, x4, x5, x6] h = .nx [some (netD n ts), some (.lst (F'.map tupL)), y2, y3, y4, y5, x6] h' ∧ Ex h h' ∧ F'.length ≤ 300000 ∧ F'.head? = some [] ∧ ∀ ms ∈ F', lotM (ts.map prI) ms = true
  | [], pre, F, x2, x3, x4, x5, x6, h, ht, c, hh, hF => ⟨F, x2, x3, x4, x5, h, loop_end rfl, Ex.refl _, c.len (fun m hm => lot_len T n1 (hF m hm).1) (by have := T.len; rw [ht] at this; simpa using this), hh, fun m hm => (hF m hm).1⟩
  | e :: rest, pre, F, x2, x3, x4, x5, x6, h, ht, c, hh, hF => by
    have tl := T.len
    rw [ht] at tl
    simp at tl
    have Fl := c.len (fun m hm => lot_len T n1 (hF m hm).1) (by omega)
    have c' := c.more e.1 e.2.1
    have hF' : ∀ ms ∈ F ++ moreOf e.1 e.2.1 F, lotM (ts.map prI) ms = true ∧ ∀ m ∈ ms, m ∈ (pre ++ [e]).map prI := fun ms hms => by
      rcases List.mem_append.mp hms with z | z
      · exact ⟨(hF ms z).1, fun m hm => by rw [List.map_append]; exact List.mem_append_left _ ((hF ms z).2 m hm)⟩
      · unfold moreOf at z
        obtain ⟨ms0, hm0, rfl⟩ := List.mem_map.mp z
        obtain ⟨hm1, hm2⟩ := List.mem_filter.mp hm0
        unfold okL at hm2
        rw [Bool.and_eq_true] at hm2
        refine ⟨lotM_snoc (prI_lt T) (hF ms0 hm1).1 (List.mem_map.mpr ⟨e, by rw [ht]; simp, rfl⟩) (by simpa using hm2.1) (by simpa using hm2.2) fun l hl => ?_, fun m hm => ?_⟩
        · obtain ⟨t, ht1, rfl⟩ := List.mem_map.mp ((hF ms0 hm1).2 l (List.mem_of_getLast? hl))
          have up := T.up
          rw [ht] at up
          have := (List.pairwise_append.mp up).2.2 t ht1 e (by simp)
          rw [lt2_iff] at this
          show [t.1, t.2.1] < [e.1, e.2.1]
          rw [List.cons_lt_cons_iff]
          rcases this with z | ⟨z1, z2⟩
          · exact .inl z
          · exact .inr ⟨z1, by rw [List.cons_lt_cons_iff]; exact .inl z2⟩
        · rw [List.map_append]
          rcases List.mem_append.mp hm with z | z
          · exact List.mem_append_left _ ((hF ms0 hm1).2 m z)
          · exact List.mem_append_right _ (by rw [List.mem_singleton.mp z]; exact List.mem_singleton.mpr rfl)
    have Fl' := (show Cnt (pre.length + 1) _ from c').len (fun m hm => lot_len T n1 (hF' m hm).1) (by omega)
    obtain ⟨y4, y5, g⟩ := in_loop (e := e) T n1 h F [] (some (.lst (F.map tupL))) x4 x5 x6 (fun m hm => (hF m hm).1) (by simp; unfold lim; omega)
    rw [List.nil_append] at g
    have st : outBody [some (netD n ts), some (.lst (F.map tupL)), some (tupI (tri e)), x3, x4, x5, x6] h = .nx [some (netD n ts), some (.lst ((F ++ moreOf e.1 e.2.1 F).map tupL)), some (tupI (tri e)), some (.ref h.length), y4, y5, x6] (h ++ [.lst ((moreOf e.1 e.2.1 F).map tupL)]) := by
      refine seq_nx (σ' := [some (netD n ts), some (.lst (F.map tupL)), some (tupI (tri e)), some (.ref h.length), x4, x5, x6]) (h' := h ++ [.lst []]) (asg_of (d := .ref h.length) (h' := h ++ [.lst []]) rfl rfl) ?_
      refine seq_nx (for_of (it := ⟨F.map tupL, noChk⟩) (h1 := h ++ [.lst []]) (iseq_of (x := .lst (F.map tupL)) (h1 := h ++ [.lst []]) rfl rfl) g) ?_
      rw [List.map_append]
      exact asg_of (d := .lst (F.map tupL ++ (moreOf e.1 e.2.1 F).map tupL)) (bin_of (x := .lst (F.map tupL)) (y := .ref h.length) (h1 := h ++ [.lst ((moreOf e.1 e.2.1 F).map tupL)]) rfl rfl (add_ref _ _ _ (get_last _ _) (by simp at Fl' ⊢; unfold lim; omega))) rfl
    obtain ⟨F', z2, z3, z4, z5, h', g1, g2, g3, g4, g5⟩ := out_loop T n1 rest (pre ++ [e]) (F ++ moreOf e.1 e.2.1 F) (some (tupI (tri e))) (some (.ref h.length)) y4 y5 x6 (h ++ [.lst ((moreOf e.1 e.2.1 F).map tupL)]) (by rw [ht]; simp) (by rw [List.length_append]; exact c') (by cases F with | nil => cases hh | cons f F => exact hh) hF'
    exact ⟨F', z2, z3, z4, z5, h', loop_nx rfl rfl st g1, (Ex.one _ _).trans g2, g3, g4, g5⟩
theorem toPy_tupL (mh : MH) (ms : Lot) : toPy mh (tupL ms) = some (.tuple (ms.map fun m => .tuple (m.map .int))) := by
  unfold toPy tupL
  rw [D.py, tups_py]
  rfl
theorem encD_tupL (mh : MH) (ms : Lot) : encD mh (tupL ms) = .tuple (ms.map fun m => .tuple (m.map .int)) := by unfold encD; rw [toPy_tupL]; rfl
theorem alike_tups : ∀ a b : Lot, PySem.W.alikeAll (a.map fun m => PyData.tuple (m.map .int)) (b.map fun m => PyData.tuple (m.map .int)) = true
  | [], _ => by simp [PySem.W.alikeAll]
  | _ :: _, [] => by simp [PySem.W.alikeAll]
  | x :: a, y :: b => by
    rw [List.map_cons, List.map_cons]
    simp only [PySem.W.alikeAll, PySem.W.alike, alike_ints, alike_tups a b, Bool.and_self]
theorem sortOkE_lots (mh : MH) (F : List Lot) (hl : F.length ≤ lim) (hh : F.head? = some []) : sortOkE mh (F.map tupL) = true := by
  unfold sortOkE
  simp only [Bool.and_eq_true, decide_eq_true_eq, List.all_eq_true]
  refine ⟨⟨⟨⟨fun x hx => ?_, ?_⟩, fun x hx => ?_, ?_⟩, by rw [List.length_map]; exact hl⟩, fun x hx => ?_⟩
  · obtain ⟨m, _, rfl⟩ := List.mem_map.mp hx
    rw [toPy_tupL]; rfl
  · unfold alikeB
    simp only [List.all_eq_true]
    intro x hx y hy
    obtain ⟨x', hx', rfl⟩ := List.mem_map.mp hx
    obtain ⟨y', hy', rfl⟩ := List.mem_map.mp hy
    obtain ⟨a, _, rfl⟩ := List.mem_map.mp hx'
    obtain ⟨b, _, rfl⟩ := List.mem_map.mp hy'
    rw [encD_tupL, encD_tupL]
    simp only [PySem.W.alike]
    exact alike_tups a b
  · obtain ⟨x', hx', rfl⟩ := List.mem_map.mp hx
    obtain ⟨a, _, rfl⟩ := List.mem_map.mp hx'
    rw [encD_tupL]; rfl
  · cases F with
    | nil => cases hh
    | cons f F =>
      simp at hh
      subst hh
      rw [List.map_cons, List.map_cons, encD_tupL]
      rfl
  · obtain ⟨a, _, rfl⟩ := List.mem_map.mp hx
    rw [encD_tupL]
    have : PyData.depthAll (a.map fun m => PyData.tuple (m.map .int)) ≤ 1 := depAll fun p hp => by
      obtain ⟨m, _, rfl⟩ := List.mem_map.mp hp
      have := depth_tupI mh m
      rw [encD_tupI] at this
      exact this
    show (PyData.tuple _).depth ≤ 8
    simp only [PyData.depth]
    omega
theorem all_lots_ok {n : Int} {ts : List (Int × Int × Int)} (T : NetOk n ts) (n1 : n ≤ 7) (h : MH) : ∃ xs h', d_l_all_lots [netD n ts] h = .ok (.lst xs) h' ∧ Ex h h' ∧ ∀ x ∈ xs, ∃ ms, x = tupL ms ∧ lotM (ts.map prI) ms = true := by
  obtain ⟨F, y2, y3, y4, y5, h', g1, g2, g3, g4, g5⟩ := out_loop T n1 ts [] [[]] none none none none none h rfl ⟨by decide, by decide, by decide, by decide⟩ rfl (fun ms hms => by
    rw [List.mem_singleton.mp hms]
    exact ⟨by rw [lotM_iff]; exact ⟨(fun _ z => nomatch z), List.Pairwise.nil, List.nodup_nil⟩, fun _ z => nomatch z⟩)
  refine ⟨sortD h' (F.map tupL), h', fn_rt ?_, g2, fun x hx => ?_⟩
  · refine seq_nx (σ' := [some (netD n ts), some (.lst [tupL []]), none, none, none, none, none]) (h' := h) (asg_of (d := .lst [tupL []]) (h' := h) rfl rfl) ?_
    refine seq_nx (for_of (it := ⟨(ts.map tri).map tupI, noChk⟩) (h1 := h) (net_ties rfl) g1) (ret_of (call1_of (x := .lst (F.map tupL)) (h1 := h') rfl ?_))
    show (if sortOkE h' (F.map tupL) = true then mkL false (sortD h' (F.map tupL)) h' else .bad) = _
    rw [if_pos (sortOkE_lots h' F (by unfold lim; omega) g4)]
    rfl
  · unfold sortD at hx
    obtain ⟨ms, hm, rfl⟩ := List.mem_map.mp ((List.mergeSort_perm _ _).mem_iff.mp hx)
    exact ⟨ms, rfl, g5 ms hm⟩
end K02

namespace K02
open PySem PySem.Spec L2 MI
def itemB (n : Int) : D → Bool
  | .int i => decide (0 ≤ i) && decide (i < n)
  | _ => false
theorem item_form {n : Int} {d : D} (h : itemB n d = true) : ∃ i, d = .int i ∧ 0 ≤ i ∧ i < n := by
  unfold itemB at h
  split at h
  · rw [Bool.and_eq_true, decide_eq_true_eq, decide_eq_true_eq] at h
    exact ⟨_, rfl, h⟩
  · cases h
theorem thing_ok {m L k : Nat} {n : Int} {ts : List (Int × Int × Int)} {d : D} (hf : fz m L k d = true) (mh : MH) : d_is_thing [netD n ts, d] mh = .ok (.bl (itemB n d)) mh := by
  have w := whole_ok hf mh
  refine fn_rt (ret_of ?_)
  cases hw : wholeB d with
  | false =>
    have : itemB n d = false := by cases d <;> first | rfl | cases hw
    rw [this]
    exact eand_of (p := false) (q := false) (eT_of (call1_of (x := d) rfl (w.trans (by rw [hw])))) fun z => nomatch z
  | true =>
    obtain ⟨i, rfl⟩ := whole_int hw
    exact (eand_of (p := true) (q := decide (0 ≤ i) && decide (i < n)) (eT_of (call1_of (x := .int i) rfl (w.trans (by rw [hw])))) fun _ => chain_of (x := .int 0) (y := .int i) (z := .int n) rfl rfl rfl fun _ => ⟨bin_of (x := netD n ts) (y := .int 0) (h1 := mh) rfl rfl rfl, rfl⟩).trans rfl
theorem item_eq : d_l_is_item = d_is_thing := rfl
theorem look_thing_ok {m L k : Nat} {n : Int} {ts : List (Int × Int × Int)} {d : D} (hf : fz m L k d = true) (mh : MH) : d_look_at_thing [netD n ts, d] mh = if itemB n d = true then .ok .non mh else .exc (1, [(2, d)]) mh := by
  have t : bNot (eT (eCall d_is_thing (aCons (eVar 0) (aCons (eVar 1) aNil)))) (startM 2 [netD n ts, d]) mh = .ok (!itemB n d) mh := not_of (eT_of (call2_of (x := netD n ts) (y := d) (h1 := mh) (h2 := mh) rfl rfl (thing_ok hf mh)))
  cases h : itemB n d with
  | true => rw [if_pos rfl]; exact fn_nx (if_f (t.trans (by rw [h]; rfl)) rfl)
  | false => rw [if_neg Bool.false_ne_true]; exact fn_ex (if_t (t.trans (by rw [h]; rfl)) (raise_of (ds := [d]) (acons_of (h1 := mh) (x := d) rfl rfl) rfl (show 1 ≤ 1000 by decide)))
/-- a thing's neighbours -/
def nb (ts : List (Int × Int × Int)) (i : Int) : List Int := (((ts.map prI).filter fun m => decide (i ∈ m)).map fun m => m.getD 0 0 + m.getD 1 0 - i)
def nbS (ts : List (Int × Int × Int)) (i : Int) : List Int := (nb ts i).mergeSort fun a b => decide (a ≤ b)
theorem nb_len {n : Int} {ts : List (Int × Int × Int)} (T : NetOk n ts) (i : Int) : (nb ts i).length ≤ 60 := by
  unfold nb
  rw [List.length_map]
  refine Nat.le_trans (List.length_filter_le _ _) ?_
  rw [List.length_map]
  exact T.len
theorem sorted_box {h : MH} {ns : List Int} (hl : ns.length ≤ lim) (b : Bool) : sortedF b [.lst (ns.map .int)] h = mkL b ((ns.mergeSort fun a b => decide (a ≤ b)).map .int) h := by
  unfold sortedF
  show (if sortOk h (ns.map D.int) = true then mkL b (sortD h (ns.map D.int)) h else .bad) = _
  rw [if_pos (sortOk_ints h ns hl), sortD_ints]
theorem beside_ok {m L k : Nat} {n : Int} {ts : List (Int × Int × Int)} {d : D} (hf : fz m L k d = true) (T : NetOk n ts) (h : MH) : d_beside [netD n ts, d] h = match d with
    | .int i => if itemB n d = true then .ok (.ref h.length) (h ++ [.lst ((nbS ts i).map .int)]) else .exc (1, [(2, d)]) h
    | _ => .exc (1, [(2, d)]) h := by
  have lk := look_thing_ok (n := n) (ts := ts) hf h
  cases hi : itemB n d with
  | false =>
    have e : d_beside [netD n ts, d] h = .exc (1, [(2, d)]) h := by
      rw [hi, if_neg Bool.false_ne_true] at lk
      refine fn_ex (seq_ex (σ' := startM 3 [netD n ts, d]) (h' := h) ?_)
      unfold sDrop
      rw [call2_of (x := netD n ts) (y := d) (h1 := h) (h2 := h) rfl rfl lk]
      rfl
    rw [e]
    cases d <;> rfl
  | true =>
    obtain ⟨i, rfl, i0, i1⟩ := item_form hi
    rw [hi, if_pos rfl] at lk
    show _ = (if true = true then _ else _)
    rw [if_pos rfl]
    refine fn_rt (seq_nx (σ' := startM 3 [netD n ts, .int i]) (h' := h) (drop_of (call2_of (x := netD n ts) (y := .int i) (h1 := h) (h2 := h) rfl rfl lk)) (ret_of (call1_of (x := .lst ((nb ts i).map .int)) (h1 := h) ?_ (sorted_box (by have := nb_len T i; unfold lim; omega) true))))
    refine (comp_pure (it := ⟨(ts.map tri).map tupI, noChk⟩) (fun d => decide (i ∈ unI (kfT d))) (fun d => .int ((unI (kfT d)).getD 0 0 + (unI (kfT d)).getD 1 0 - i)) (net_ties rfl) rfl (fun d hd => ?_) (by show ((ts.map tri).map tupI).length ≤ lim; have := T.len; simp; unfold lim; omega)).trans ?_
    · obtain ⟨m', hm, rfl⟩ := List.mem_map.mp hd
      obtain ⟨e, he, rfl⟩ := List.mem_map.mp hm
      refine ⟨_, rfl, eT_of (bin_of (x := .int i) (y := .tup ([e.1, e.2.1].map .int)) (h1 := h) rfl (slice_of (x := tupI (tri e)) (h1 := h) (h2 := h) (h3 := h) rfl rfl (osome_of (h1 := h) rfl) rfl) (in_tup_ints h i [e.1, e.2.1])), fun _ => ?_⟩
      exact bin_of (x := .int (e.1 + e.2.1)) (y := .int i) (h1 := h) (bin_of (x := .int e.1) (y := .int e.2.1) (h1 := h) (bin_of (x := tupI (tri e)) (y := .int 0) (h1 := h) rfl rfl rfl) (bin_of (x := tupI (tri e)) (y := .int 1) (h1 := h) rfl rfl rfl) rfl) rfl rfl
    · show Res.ok (D.lst _) h = Res.ok (D.lst _) h
      congr 2
      unfold nb
      rw [List.filter_map, List.filter_map, List.filter_map]
      simp only [List.map_map]
      rfl
/-! ### what is caught -/
theorem isx_at {h1 : MH} {q c : Nat} {fs : List (Nat × D)} (g : h1[q]? = some (.exc c fs)) {t : Tg} {b : Bool} {σ : Sl} {v : Nat} (e : isx c t = some b) (e2 : σ[v]? = some (some (.ref q))) : eIsX isx t (eVar v) σ h1 = .ok (.bl b) h1 := by
  have xc : xcls h1 (.ref q) = some c := by unfold xcls; dsimp only; rw [g]
  unfold eIsX eVar
  rw [e2]
  simp only [Res.bind, xc, e]
theorem repr_ok {m : Nat} {d : D} (hf : fz m 10 4 d = true) (hm : m ≤ 40) (hm0 : 3 ≤ m) (mh : MH) : reprF [d] mh = .ok (.str (pyD d).shown) mh ∧ PyData.strOk (pyD d).shown = true := repr_fz hf hm hm0 (Nat.le_refl _) mh
theorem near_bad {m : Nat} {n : Int} {ts : List (Int × Int × Int)} {d : D} (hf : fz m 10 4 d = true) (hm : m ≤ 40) (hm0 : 3 ≤ m) (T : NetOk n ts) (hi : itemB n d = false) (h : MH) : d_l_near_told [netD n ts, d] h = .ok (.str (pyD d).shown) (h ++ [.exc 1 [(2, d)]]) := by
  have b : d_beside [netD n ts, d] h = .exc (1, [(2, d)]) h := by
    rw [beside_ok hf T h]
    cases d <;> first | rfl | (show (if itemB n _ = true then _ else _) = _; rw [hi]; rfl)
  have g : (h ++ [O.exc 1 [(2, d)]])[h.length]? = some (.exc 1 [(2, d)]) := by simp
  refine fn_rt (seq_nx (σ' := [some (netD n ts), some d, some .non, none]) (h' := h) (asg_of rfl rfl) (seq_nx (σ' := [some (netD n ts), some d, some (.ref h.length), none]) (h' := h ++ [.exc 1 [(2, d)]]) ?_ (ret_of ?_)))
  · unfold sTry
    have e : sRet (eCall d_beside (aCons (eVar 0) (aCons (eVar 1) aNil))) [some (netD n ts), some d, some .non, none] h = .ex (1, [(2, d)]) [some (netD n ts), some d, some .non, none] h := by
      unfold sRet
      rw [call2_of (x := netD n ts) (y := d) (h1 := h) (h2 := h) rfl rfl b]
      rfl
    rw [e]
    rfl
  generalize h ++ [O.exc 1 [(2, d)]] = h1 at g
  generalize h.length = q at g
  have cond : bAnd (eT (eIsX isx (.ty "LookupError") (eVar 2))) (bNot (eT (eIsXT isx [(.own 0), (.own 2)] (eVar 2)))) [some (netD n ts), some d, some (.ref q), none] h1 = .ok true h1 := by
    refine (and_of (p := true) (q := true) (eT_of (isx_at g (by decide) rfl)) fun _ => not_of (p := false) (eT_of ?_)).trans rfl
    have xc : xcls h1 (.ref q) = some 1 := by unfold xcls; dsimp only; rw [g]
    unfold eIsXT eVar
    show (match xcls h1 (.ref q) with | some c => (match [Tg.own 0, .own 2], isxAny isx c [.own 0, .own 2] with | _ :: _, some b => Res.ok (D.bl b) h1 | _, _ => .bad) | none => .bad) = _
    rw [xc]
    rfl
  unfold eIf
  rw [cond]
  show eCall reprF (aCons (eAtt xa ia 2 (eVar 2)) aNil) _ h1 = _
  refine call1_of (x := d) (h1 := h1) ?_ (repr_ok hf hm hm0 h1).1
  unfold eAtt eVar
  show okE h1 (attO xa ia 2 h1 (.ref q)) = _
  unfold attO
  dsimp only
  rw [g]
  rfl
theorem near_good {n i : Int} {ts : List (Int × Int × Int)} (T : NetOk n ts) (i0 : 0 ≤ i) (i1 : i < n) (h : MH) : d_l_near_told [netD n ts, .int i] h = .ok (.ref h.length) (h ++ [.lst ((nbS ts i).map .int)]) := by
  have hf : fz i.natAbs.succ 1 1 (.int i) = true := by
    rw [fz_int, decide_eq_true_eq]
    exact Nat.lt_of_lt_of_le Nat.lt_two_pow_self (Nat.le_trans (Nat.pow_le_pow_right (by decide) (Nat.le_succ _)) (Nat.pow_le_pow_left (by decide) _))
  have b : d_beside [netD n ts, .int i] h = .ok (.ref h.length) (h ++ [.lst ((nbS ts i).map .int)]) := by
    rw [beside_ok hf T h]
    show (if itemB n (.int i) = true then _ else _) = _
    rw [if_pos (by show (decide (0 ≤ i) && decide (i < n)) = true; rw [decide_eq_true i0, decide_eq_true i1]; rfl)]
  refine fn_rt (seq_nx (σ' := [some (netD n ts), some (.int i), some .non, none]) (h' := h) (asg_of rfl rfl) (seq_rt ?_))
  unfold sTry
  rw [ret_of (call2_of (x := netD n ts) (y := .int i) (h1 := h) (h2 := h) rfl rfl b)]
theorem orF_of {σ : Sl} {h h' : MH} {t u : EvB} {r : Res Bool} (e : t σ h = .ok false h') (e2 : u σ h' = r) : bOr t u σ h = r := by
  unfold bOr
  rw [e]
  exact e2
/-! ### ties told -/
def keyOf2 (i j : Int) : List Int := [min i j, max i j]
theorem pair_of_ok (i j : Int) (h : MH) : d_pair_of [.int i, .int j] h = .ok (tupI (keyOf2 i j)) h := by
  refine fn_rt (ret_of (tup_of (ds := [.int (min i j), .int (max i j)]) (acons_of (h1 := h) (x := .int (min i j)) (call2_of (x := .int i) (y := .int j) (h1 := h) (h2 := h) rfl rfl ?_) (acons_of (h1 := h) (x := .int (max i j)) (call2_of (x := .int i) (y := .int j) (h1 := h) (h2 := h) rfl rfl ?_) rfl)) (show 2 ≤ lim by decide)))
  · rfl
  · rfl
/-- both are things, with a tie -/
def tieW (n : Int) (ts : List (Int × Int × Int)) (x y : D) : Option Int := match x, y with
  | .int i, .int j => if (itemB n x && itemB n y) = true then wt ts (keyOf2 i j) else none
  | _, _ => none
theorem look_tie_ok {m L k : Nat} {n : Int} {ts : List (Int × Int × Int)} {x y : D} (hx : fz m L k x = true) (hy : fz m L k y = true) (T : NetOk n ts) (h : MH) : ∃ h', Ex h h' ∧
    ((∃ i j w, x = .int i ∧ y = .int j ∧ tieW n ts x y = some w ∧ wt ts (keyOf2 i j) = some w ∧ d_look_at_tie [netD n ts, x, y] h = .ok (tupI (keyOf2 i j)) h') ∨ (tieW n ts x y = none ∧ d_look_at_tie [netD n ts, x, y] h = .exc (0, [(1, y), (0, x)]) h')) := by
  have rs : ∀ {h'}, sRaise 0 [0, 1] (aCons (eVar 1) (aCons (eVar 2) aNil)) (startM 3 [netD n ts, x, y]) h' = .ex (0, [(1, y), (0, x)]) (startM 3 [netD n ts, x, y]) h' := fun {h'} => raise_of (ds := [x, y]) (acons_of (h1 := h') (x := x) rfl (acons_of (h1 := h') (x := y) rfl rfl)) rfl (show 2 ≤ 1000 by decide)
  have c1 : bNot (eT (eCall d_is_thing (aCons (eVar 0) (aCons (eVar 1) aNil)))) (startM 3 [netD n ts, x, y]) h = .ok (!itemB n x) h := not_of (eT_of (call2_of (x := netD n ts) (y := x) (h1 := h) (h2 := h) rfl rfl (thing_ok hx h)))
  have c2 : bNot (eT (eCall d_is_thing (aCons (eVar 0) (aCons (eVar 2) aNil)))) (startM 3 [netD n ts, x, y]) h = .ok (!itemB n y) h := not_of (eT_of (call2_of (x := netD n ts) (y := y) (h1 := h) (h2 := h) rfl rfl (thing_ok hy h)))
  cases q1 : itemB n x with
  | false =>
    refine ⟨h, Ex.refl _, .inr ⟨?_, fn_ex (if_ex (or_of (p := true) (q := true) (c1.trans (by rw [q1]; rfl)) fun z => nomatch z) rs)⟩⟩
    unfold tieW
    split
    · rw [q1]; rfl
    · rfl
  | true =>
    cases q2 : itemB n y with
    | false =>
      refine ⟨h, Ex.refl _, .inr ⟨?_, fn_ex (if_ex ((or_of (p := false) (q := true) (c1.trans (by rw [q1]; rfl)) fun _ => or_of (p := true) (q := true) (c2.trans (by rw [q2]; rfl)) fun z => nomatch z).trans rfl) rs)⟩⟩
      unfold tieW
      split
      · rw [q2, Bool.and_false]; rfl
      · rfl
    | true =>
      obtain ⟨i, rfl, i0, i1⟩ := item_form q1
      obtain ⟨j, rfl, j0, j1⟩ := item_form q2
      have et : tieW n ts (.int i) (.int j) = wt ts (keyOf2 i j) := by
        show (if (itemB n (.int i) && itemB n (.int j)) = true then _ else _) = _
        rw [q1, q2]; rfl
      have gd : (h ++ [O.dict (wts ts)])[h.length]? = some (.dict (wts ts)) := by simp
      have c3 : eT (eBin notInA (eCall d_pair_of (aCons (eVar 1) (aCons (eVar 2) aNil))) (eCall d_weights_in (aCons (eVar 0) aNil))) (startM 3 [netD n ts, .int i, .int j]) h = .ok (!decide (keyOf2 i j ∈ ts.map prI)) (h ++ [.dict (wts ts)]) := eT_of (bin_of (x := tupI (keyOf2 i j)) (y := .ref h.length) (h1 := h) (call2_of (x := .int i) (y := .int j) (h1 := h) (h2 := h) rfl rfl (pair_of_ok i j h)) (call1_of (x := netD n ts) (h1 := h) rfl (weights_ok T h)) (notIn_wts gd _))
      have co : ∀ {b : Bool}, (!decide (keyOf2 i j ∈ ts.map prI)) = b → bOr (bNot (eT (eCall d_is_thing (aCons (eVar 0) (aCons (eVar 1) aNil))))) (bOr (bNot (eT (eCall d_is_thing (aCons (eVar 0) (aCons (eVar 2) aNil))))) (eT (eBin notInA (eCall d_pair_of (aCons (eVar 1) (aCons (eVar 2) aNil))) (eCall d_weights_in (aCons (eVar 0) aNil))))) (startM 3 [netD n ts, .int i, .int j]) h = .ok b (h ++ [.dict (wts ts)]) := fun {b} e => orF_of (c1.trans (by rw [q1]; rfl)) (orF_of (c2.trans (by rw [q2]; rfl)) (c3.trans (by rw [e])))
      refine ⟨h ++ [.dict (wts ts)], Ex.one _ _, ?_⟩
      cases q3 : wt ts (keyOf2 i j) with
      | none =>
        have hn : decide (keyOf2 i j ∈ ts.map prI) = false := by rw [← wt_some, q3]; rfl
        refine .inr ⟨by rw [et, q3], fn_ex (seq_ex (if_t (co (by rw [hn]; rfl)) rs))⟩
      | some w =>
        have hn : decide (keyOf2 i j ∈ ts.map prI) = true := by rw [← wt_some, q3]; rfl
        exact .inl ⟨i, j, w, rfl, rfl, by rw [et, q3], q3, fn_rt (seq_nx (if_f (co (by rw [hn]; rfl)) rfl) (ret_of (call2_of (x := .int i) (y := .int j) (h1 := h ++ [.dict (wts ts)]) (h2 := h ++ [.dict (wts ts)]) rfl rfl (pair_of_ok i j _))))⟩
theorem ret_ex {f : Ev} {σ : Sl} {h h1 : MH} {x : EXC} (e : f σ h = .exc x h1) : sRet f σ h = .ex x σ h1 := by unfold sRet; rw [e]; rfl
theorem tie_weight_ok {m L k : Nat} {n : Int} {ts : List (Int × Int × Int)} {x y : D} (hx : fz m L k x = true) (hy : fz m L k y = true) (T : NetOk n ts) (h : MH) : ∃ h', Ex h h' ∧ d_tie_weight [netD n ts, x, y] h = match tieW n ts x y with
    | some w => .ok (.int w) h'
    | none => .exc (0, [(1, y), (0, x)]) h' := by
  obtain ⟨h', ex, hh⟩ := look_tie_ok hx hy T (h ++ [.dict (wts ts)])
  refine ⟨h', (Ex.one _ _).trans ex, ?_⟩
  have gd : h'[h.length]? = some (.dict (wts ts)) := ex.get (by simp)
  have c1 : eCall d_weights_in (aCons (eVar 0) aNil) (startM 3 [netD n ts, x, y]) h = .ok (.ref h.length) (h ++ [.dict (wts ts)]) := call1_of (x := netD n ts) (h1 := h) rfl (weights_ok T h)
  rcases hh with ⟨i, j, w, rfl, rfl, e1, e2, e3⟩ | ⟨e1, e3⟩
  · rw [e1]
    generalize h ++ [O.dict (wts ts)] = h1 at c1 e3
    have c2 : eCall d_look_at_tie (aCons (eVar 0) (aCons (eVar 1) (aCons (eVar 2) aNil))) (startM 3 [netD n ts, .int i, .int j]) h1 = .ok (tupI (keyOf2 i j)) h' := call3_of (x := netD n ts) (y := .int i) (z := .int j) (h1 := h1) (h2 := h1) (h3 := h1) rfl rfl rfl e3
    have c3 : eBin ixA (eCall d_weights_in (aCons (eVar 0) aNil)) (eCall d_look_at_tie (aCons (eVar 0) (aCons (eVar 1) (aCons (eVar 2) aNil)))) (startM 3 [netD n ts, .int i, .int j]) h = .ok (.int w) h' := bin_of c1 c2 (ix_wts gd e2)
    exact fn_rt (ret_of c3)
  · rw [e1]
    generalize h ++ [O.dict (wts ts)] = h1 at c1 e3
    have c2 : eCall d_look_at_tie (aCons (eVar 0) (aCons (eVar 1) (aCons (eVar 2) aNil))) (startM 3 [netD n ts, x, y]) h1 = .exc (0, [(1, y), (0, x)]) h' := call3_of (x := netD n ts) (y := x) (z := y) (h1 := h1) (h2 := h1) (h3 := h1) rfl rfl rfl e3
    have c3 : eBin ixA (eCall d_weights_in (aCons (eVar 0) aNil)) (eCall d_look_at_tie (aCons (eVar 0) (aCons (eVar 1) (aCons (eVar 2) aNil)))) (startM 3 [netD n ts, x, y]) h = .exc (0, [(1, y), (0, x)]) h' := by
      unfold eBin
      rw [c1]
      simp only [Res.bind]
      rw [c2]
    exact fn_ex (ret_ex c3)
def tieD (n : Int) (ts : List (Int × Int × Int)) (x y : D) : D := match tieW n ts x y with
  | some w => .int w
  | none => .lst [.str (pyD x).shown, .str (pyD y).shown]
theorem tie_told_ok {m : Nat} {n : Int} {ts : List (Int × Int × Int)} {x y : D} (hx : fz m 10 4 x = true) (hy : fz m 10 4 y = true) (hm : m ≤ 40) (hm0 : 3 ≤ m) (T : NetOk n ts) (h : MH) : ∃ h', Ex h h' ∧ d_l_tie_told [netD n ts, x, y] h = .ok (tieD n ts x y) h' := by
  obtain ⟨h', ex, e⟩ := tie_weight_ok hx hy T h
  unfold tieD
  cases q : tieW n ts x y with
  | some w =>
    rw [q] at e
    refine ⟨h', ex, fn_rt (seq_nx (σ' := [some (netD n ts), some x, some y, some .non, none]) (h' := h) (asg_of rfl rfl) (seq_rt ?_))⟩
    unfold sTry
    rw [ret_of (call3_of (x := netD n ts) (y := x) (z := y) (h1 := h) (h2 := h) (h3 := h) rfl rfl rfl e)]
  | none =>
    rw [q] at e
    have g : (h' ++ [O.exc 0 [(1, y), (0, x)]])[h'.length]? = some (.exc 0 [(1, y), (0, x)]) := by simp
    refine ⟨h' ++ [.exc 0 [(1, y), (0, x)]], ex.trans (Ex.one _ _), fn_rt (seq_nx (σ' := [some (netD n ts), some x, some y, some .non, none]) (h' := h) (asg_of rfl rfl) (seq_nx (σ' := [some (netD n ts), some x, some y, some (.ref h'.length), none]) (h' := h' ++ [.exc 0 [(1, y), (0, x)]]) ?_ ?_))⟩
    · unfold sTry
      have e2 : sRet (eCall d_tie_weight (aCons (eVar 0) (aCons (eVar 1) (aCons (eVar 2) aNil)))) [some (netD n ts), some x, some y, some .non, none] h = .ex (0, [(1, y), (0, x)]) [some (netD n ts), some x, some y, some .non, none] h' := by
        unfold sRet
        rw [call3_of (x := netD n ts) (y := x) (z := y) (h1 := h) (h2 := h) (h3 := h) rfl rfl rfl e]
        rfl
      rw [e2]
      rfl
    generalize h' ++ [O.exc 0 [(1, y), (0, x)]] = h1 at g
    generalize h'.length = q' at g
    refine ifp false ((or_of (p := false) (q := false) (not_of (p := true) (eT_of (isx_at g (by decide) rfl))) fun _ => eT_of (isx_at g (by decide) rfl)).trans rfl) (fun z => nomatch z) fun _ => ret_of ?_
    have att : ∀ (k : Nat) (d : D), (match k with | 0 => d = x | 1 => d = y | _ => False) → eAtt xa ia k (eVar 3) [some (netD n ts), some x, some y, some (.ref q'), none] h1 = .ok d h1 := fun k d hd => by
      match k, hd with
      | 0, hd =>
        subst hd
        show okE h1 (attO xa ia 0 h1 (.ref q')) = _
        unfold attO
        dsimp only
        rw [g]
        rfl
      | 1, hd =>
        subst hd
        show okE h1 (attO xa ia 1 h1 (.ref q')) = _
        unfold attO
        dsimp only
        rw [g]
        rfl
    exact lst_of (b := false) (ds := [.str (pyD x).shown, .str (pyD y).shown]) (h1 := h1) (acons_of (h1 := h1) (x := .str (pyD x).shown) (call1_of (x := x) (h1 := h1) (att 0 x rfl) (repr_ok hx hm hm0 h1).1) (acons_of (h1 := h1) (x := .str (pyD y).shown) (call1_of (x := y) (h1 := h1) (att 1 y rfl) (repr_ok hy hm hm0 h1).1) rfl)) (show 2 ≤ lim by decide)
end K02

namespace K02
open PySem PySem.Spec L2 MI
def Kp (h h' : MH) : Prop := ∀ (k : Nat) (o : O), h[k]? = some o → h'[k]? = some o
theorem Kp.refl (h : MH) : Kp h h := fun _ _ e => e
theorem Kp.trans {a b c : MH} (h1 : Kp a b) (h2 : Kp b c) : Kp a c := fun k o e => h2 k o (h1 k o e)
theorem Kp.ex {a b : MH} (h : Ex a b) : Kp a b := fun _ _ e => h.get e
theorem neO_box {h : MH} {q : Nat} {ns : List Int} (e : h[q]? = some (.lst (ns.map .int))) : neO h (.ref q) (.lst (ns.map .int)) = some (.bl false) := by
  have a : toPy h (.ref q) = some (.list (ns.map .int)) := by
    unfold toPy
    rw [D.py]
    unfold refPy
    simp only [e, ints_py]
    rfl
  have b : toPy h (.lst (ns.map .int)) = some (.list (ns.map .int)) := by
    unfold toPy
    rw [D.py, ints_py]
    rfl
  unfold neO
  rw [a, b]
  dsimp only
  rw [(ints_shaped ns).2, Bool.and_self, if_pos rfl]
  simp only [PyData.eqv, eqvAll_ints]
  simp
theorem str_shaped {a : Str} (h : PyData.strOk a = true) : SeqAt.shaped (.str a) = true := shaped_of (by simp only [PyData.canLay0]; exact h) (by simp [PyData.depth])
theorem neO_two {a b : Str} (ha : PyData.strOk a = true) (hb : PyData.strOk b = true) (h : MH) : neO h (.lst [.str a, .str b]) (.lst [.str a, .str b]) = some (.bl false) := by
  have e : toPy h (.lst [.str a, .str b]) = some (.list [.str a, .str b]) := by
    unfold toPy
    rw [D.py, D.pys, D.pys, D.pys, D.py, D.py]
    rfl
  have s : SeqAt.shaped (.list [.str a, .str b]) = true := shaped_of (by simp [PyData.canLay0, PyData.canLayAll0, ha, hb]) (by simp [PyData.depth, PyData.depthAll])
  unfold neO
  rw [e]
  dsimp only
  rw [s, Bool.and_self, if_pos rfl]
  simp [PyData.eqv, PyData.eqvAll]
theorem neO_tieD {m : Nat} {n : Int} {ts : List (Int × Int × Int)} {x y : D} (hx : fz m 10 4 x = true) (hy : fz m 10 4 y = true) (hm : m ≤ 40) (hm0 : 3 ≤ m) (h : MH) : neO h (tieD n ts x y) (tieD n ts x y) = some (.bl false) := by
  unfold tieD
  cases tieW n ts x y with
  | some w => show neO h (.int w) (.int w) = _; rw [neO_int]; simp
  | none => exact neO_two (repr_ok hx hm hm0 h).2 (repr_ok hy hm hm0 h).2 h
theorem dget_of {σ : Sl} {h : MH} {q : Nat} {kvs : DK} {f : Ev} {as : EvL} {k d : D} (e : f σ h = .ok (.ref q) h) (g : h[q]? = some (.dict kvs)) (e2 : as σ h = .ok [k, d] h) (hk : k.keyOk = true) : eMeth "dict" dgetF f as σ h = .ok ((getD kvs k).getD d) h := by
  unfold eMeth
  rw [e]
  show (if tyS h (.ref q) = some "dict" then _ else _) = _
  have ty : tyS h (.ref q) = some "dict" := by unfold tyS; dsimp only; rw [g]
  rw [if_pos ty, e2]
  show dgetF [.ref q, k, d] h = _
  unfold dgetF
  have b : boxD h q = some kvs := by unfold boxD; rw [g]
  simp only [b]
  rw [if_pos hk]
/-- the inner loop's turn -/
def hiBody : EvS := (sSeq (sAsg (eLst false (aCons (eCall reprF (aCons (eVar 3) aNil)) (aCons (eCall reprF (aCons (eVar 6) aNil)) aNil))) (gVar 4))
  (sSeq (sIf (bAnd (eT (eCall d_l_is_item (aCons (eVar 0) (aCons (eVar 3) aNil)))) (eT (eCall d_l_is_item (aCons (eVar 0) (aCons (eVar 6) aNil))))) (sAsg (eMeth "dict" dgetF (eVar 1) (aCons (eTup (aCons (eCall min2F (aCons (eVar 3) (aCons (eVar 6) aNil))) (aCons (eCall max2F (aCons (eVar 3) (aCons (eVar 6) aNil))) aNil))) (aCons (eVar 4) aNil))) (gVar 4)) sSkip)
  (sIf (eT (eBin neO (eCall d_l_tie_told (aCons (eVar 0) (aCons (eVar 3) (aCons (eVar 6) aNil)))) (eVar 4))) (sRet (eC (.bl false))) sSkip)))
theorem hi_turn {m q : Nat} {n : Int} {ts : List (Int × Int × Int)} {x y : D} {a2 a4 a5 a7 : Option D} (hx : fz m 10 4 x = true) (hy : fz m 10 4 y = true) (hm : m ≤ 40) (hm0 : 3 ≤ m) (T : NetOk n ts) {h : MH} (g : h[q]? = some (.dict (wts ts))) :
    ∃ h', hiBody [some (netD n ts), some (.ref q), a2, some x, a4, a5, some y, a7] h = .nx [some (netD n ts), some (.ref q), a2, some x, some (tieD n ts x y), a5, some y, a7] h' ∧ Ex h h' := by
  obtain ⟨h', ex, e⟩ := tie_told_ok hx hy hm hm0 T h
  refine ⟨h', ?_, ex⟩
  have rx := (repr_ok hx hm hm0 h).1
  have ry := (repr_ok hy hm hm0 h).1
  refine seq_nx (σ' := [some (netD n ts), some (.ref q), a2, some x, some (.lst [.str (pyD x).shown, .str (pyD y).shown]), a5, some y, a7]) (h' := h) (asg_of (d := .lst [.str (pyD x).shown, .str (pyD y).shown]) (h' := h) (lst_of (b := false) (ds := [.str (pyD x).shown, .str (pyD y).shown]) (h1 := h) (acons_of (h1 := h) (x := .str (pyD x).shown) (call1_of (x := x) (h1 := h) rfl rx) (acons_of (h1 := h) (x := .str (pyD y).shown) (call1_of (x := y) (h1 := h) rfl ry) rfl)) (show 2 ≤ lim by decide)) rfl) ?_
  have cond : bAnd (eT (eCall d_l_is_item (aCons (eVar 0) (aCons (eVar 3) aNil)))) (eT (eCall d_l_is_item (aCons (eVar 0) (aCons (eVar 6) aNil)))) [some (netD n ts), some (.ref q), a2, some x, some (.lst [.str (pyD x).shown, .str (pyD y).shown]), a5, some y, a7] h = .ok (itemB n x && itemB n y) h :=
    and_of (eT_of (call2_of (x := netD n ts) (y := x) (h1 := h) (h2 := h) rfl rfl (thing_ok hx h))) fun _ => eT_of (call2_of (x := netD n ts) (y := y) (h1 := h) (h2 := h) rfl rfl (thing_ok hy h))
  have fin : (sIf (eT (eBin neO (eCall d_l_tie_told (aCons (eVar 0) (aCons (eVar 3) (aCons (eVar 6) aNil)))) (eVar 4))) (sRet (eC (.bl false))) sSkip) [some (netD n ts), some (.ref q), a2, some x, some (tieD n ts x y), a5, some y, a7] h = .nx [some (netD n ts), some (.ref q), a2, some x, some (tieD n ts x y), a5, some y, a7] h' :=
    if_f (h' := h') (eT_of (bin_of (x := tieD n ts x y) (y := tieD n ts x y) (h1 := h') (h2 := h') (call3_of (x := netD n ts) (y := x) (z := y) (h1 := h) (h2 := h) (h3 := h) rfl rfl rfl e) rfl (neO_tieD hx hy hm hm0 h'))) rfl
  refine seq_nx (σ' := [some (netD n ts), some (.ref q), a2, some x, some (tieD n ts x y), a5, some y, a7]) (h' := h) ?_ fin
  cases hi : (itemB n x && itemB n y) with
  | false =>
    have : tieD n ts x y = .lst [.str (pyD x).shown, .str (pyD y).shown] := by
      unfold tieD
      have : tieW n ts x y = none := by
        unfold tieW
        split
        · rw [hi]; rfl
        · rfl
      rw [this]
    rw [this]
    exact if_f (cond.trans (by rw [hi])) rfl
  | true =>
    obtain ⟨h1, h2⟩ := Bool.and_eq_true_iff.mp hi
    obtain ⟨i, rfl, _⟩ := item_form h1
    obtain ⟨j, rfl, _⟩ := item_form h2
    refine if_t (cond.trans (by rw [hi])) (asg_of (d := tieD n ts (.int i) (.int j)) (h' := h) ?_ rfl)
    have et : tieD n ts (.int i) (.int j) = (getD (wts ts) (tupI (keyOf2 i j))).getD (.lst [.str (pyD (.int i)).shown, .str (pyD (.int j)).shown]) := by
      unfold tieD
      have : tieW n ts (.int i) (.int j) = wt ts (keyOf2 i j) := by
        show (if (itemB n (.int i) && itemB n (.int j)) = true then _ else _) = _
        rw [hi]; rfl
      rw [this, get_wts]
      cases wt ts (keyOf2 i j) <;> rfl
    rw [et]
    exact dget_of (q := q) (kvs := wts ts) (k := tupI (keyOf2 i j)) (d := .lst [.str (pyD (.int i)).shown, .str (pyD (.int j)).shown]) rfl g (acons_of (h1 := h) (x := tupI (keyOf2 i j)) (tup_of (ds := [.int (min i j), .int (max i j)]) (h1 := h) (acons_of (h1 := h) (x := .int (min i j)) (call2_of (x := .int i) (y := .int j) (h1 := h) (h2 := h) rfl rfl rfl) (acons_of (h1 := h) (x := .int (max i j)) (call2_of (x := .int i) (y := .int j) (h1 := h) (h2 := h) rfl rfl rfl) rfl)) (show 2 ≤ lim by decide)) rfl) (keyOk_tupI _)
end K02

namespace K02
open PySem PySem.Spec L2 MI
theorem keys_of {σ : Sl} {h : MH} {q : Nat} {kvs : DK} {f : Ev} (e : f σ h = .ok (.ref q) h) (g : h[q]? = some (.dict kvs)) : MI.iKeysM f σ h = .ok ⟨kvs.map (·.1), keyChk q (kvs.map (·.1))⟩ h ∧ keyChk q (kvs.map (·.1)) h = true := by
  have b : boxD h q = some kvs := by unfold boxD; rw [g]
  refine ⟨?_, ?_⟩
  · unfold MI.iKeysM
    rw [e]
    show okI h (keysOf h (.ref q)) = _
    unfold keysOf
    simp only [b]
    rfl
  · unfold keyChk
    rw [b]
    simp
def dueC : Ev := (eCall (sortedF false) (aCons (eComp false (MI.iKeysM (eVar 1)) (gVar 7) (eT (eBin inA (eVar 3) (eVar 7))) (eBin subO (eBin addO (eBin ixA (eVar 7) (eC (.int 0))) (eBin ixA (eVar 7) (eC (.int 1)))) (eVar 3)) [7]) aNil))
theorem dueC_of {n i : Int} {ts : List (Int × Int × Int)} {q : Nat} {h : MH} {a0 a2 a4 a5 a6 a7 : Option D} (T : NetOk n ts) (g : h[q]? = some (.dict (wts ts))) : dueC [a0, some (.ref q), a2, some (.int i), a4, a5, a6, a7] h = .ok (.lst ((nbS ts i).map .int)) h := by
  obtain ⟨k1, k2⟩ := keys_of (σ := [a0, some (.ref q), a2, some (.int i), a4, a5, a6, a7]) (f := eVar 1) rfl g
  refine call1_of (x := .lst ((nb ts i).map .int)) (h1 := h) ?_ (sorted_box (by have := nb_len T i; unfold lim; omega) false)
  refine (comp_pure (it := ⟨(wts ts).map (·.1), keyChk q ((wts ts).map (·.1))⟩) (fun d => decide (i ∈ unI d)) (fun d => .int ((unI d).getD 0 0 + (unI d).getD 1 0 - i)) k1 k2 (fun d hd => ?_) (by show ((wts ts).map (·.1)).length ≤ lim; have := T.len; unfold wts; simp; unfold lim; omega)).trans ?_
  · rw [show (⟨(wts ts).map (·.1), keyChk q ((wts ts).map (·.1))⟩ : ItD).xs = (ts.map prI).map tupI from wts_keys ts] at hd
    obtain ⟨m', hm, rfl⟩ := List.mem_map.mp hd
    obtain ⟨e, he, rfl⟩ := List.mem_map.mp hm
    refine ⟨_, rfl, eT_of (bin_of (x := .int i) (y := .tup ([e.1, e.2.1].map .int)) (h1 := h) rfl rfl (in_tup_ints h i [e.1, e.2.1])), fun _ => ?_⟩
    exact bin_of (x := .int (e.1 + e.2.1)) (y := .int i) (h1 := h) (bin_of (x := .int e.1) (y := .int e.2.1) (h1 := h) (bin_of (x := tupI (prI e)) (y := .int 0) (h1 := h) rfl rfl rfl) (bin_of (x := tupI (prI e)) (y := .int 1) (h1 := h) rfl rfl rfl) rfl) rfl rfl
  · show Res.ok (D.lst (((((wts ts).map (·.1))).filter _).map _)) h = _
    rw [wts_keys]
    congr 2
    unfold nb
    rw [List.filter_map, List.filter_map]
    simp only [List.map_map]
    rw [List.filter_map, List.map_map]
    rfl
def oddl (n : Int) : List D := [.int (-1), .int n, .non, .bl true, .str "0", .tup [.int 0], .lst []]
def lows (n : Int) : List D := rangeD 0 n.toNat ++ oddl n
theorem lows_fz {n : Int} (n0 : 0 ≤ n) (n1 : n ≤ 7) : ∀ x ∈ lows n, fz 4 10 4 x = true := by
  intro x hx
  have fi : ∀ {k : Nat} {i : Int}, -10 ≤ i → i ≤ 10 → fz 4 10 k (.int i) = true := fun a b => by rw [fz_int, decide_eq_true_eq]; omega
  rcases List.mem_append.mp hx with z | z
  · unfold rangeD at z
    obtain ⟨k, hk, rfl⟩ := List.mem_map.mp z
    have := List.mem_range.mp hk
    exact fi (by omega) (by omega)
  · simp only [oddl, List.mem_cons, List.not_mem_nil, or_false] at z
    rcases z with rfl | rfl | rfl | rfl | rfl | rfl | rfl
    · exact fi (by omega) (by omega)
    · exact fi (by omega) (by omega)
    · exact fz_non
    · exact fz_bl
    · decide +kernel
    · decide +kernel
    · decide +kernel
theorem lows_of {n : Int} {ts : List (Int × Int × Int)} (n0 : 0 ≤ n) (n1 : n ≤ 7) {a1 a3 a4 a5 a6 a7 : Option D} (h : MH) : iSeq (eBin addO (eRgL false (aCons (eBin ixA (eVar 0) (eC (.int 0))) aNil)) (eVar 2)) [some (netD n ts), a1, some (.lst (oddl n)), a3, a4, a5, a6, a7] h = .ok ⟨lows n, noChk⟩ h := by
  refine iseq_of (x := .lst (lows n)) (h1 := h) (bin_of (x := .lst (rangeD 0 n.toNat)) (y := .lst (oddl n)) (h1 := h) ?_ rfl (add_lst _ _ _ ?_)) rfl
  · unfold eRgL
    rw [acons_of (x := .int n) (ds := []) (h1 := h) (h2 := h) (bin_of (x := netD n ts) (y := .int 0) (h1 := h) rfl rfl rfl) rfl]
    show (if rgB 0 n = true then mkL false (rangeD 0 n.toNat) h else .bad) = _
    rw [if_pos (by unfold rgB sm62 lim; simp only [Bool.and_eq_true, decide_eq_true_eq]; omega)]
    rfl
  · have : (rangeD 0 n.toNat).length = n.toNat := by unfold rangeD; simp
    rw [this]
    show n.toNat + 7 ≤ lim
    unfold lim
    omega
def loBody : EvS := (sSeq (sAsg (eCall reprF (aCons (eVar 3) aNil)) (gVar 4))
  (sSeq (sIf (eT (eCall d_l_is_item (aCons (eVar 0) (aCons (eVar 3) aNil)))) (sAsg dueC (gVar 4)) sSkip)
  (sSeq (sAsg (eCall d_l_near_told (aCons (eVar 0) (aCons (eVar 3) aNil))) (gVar 5))
  (sSeq (sIf (eT (eBin neO (eVar 5) (eVar 4))) (sRet (eC (.bl false))) sSkip)
  (sSeq (sIf (eT (eIsi "list" (eVar 5))) (sDrop (eMeth "list" appendF (eVar 5) (aCons (eC .non) aNil))) sSkip)
  (sSeq (sIf (eT (eBin neO (eCall d_l_near_told (aCons (eVar 0) (aCons (eVar 3) aNil))) (eVar 4))) (sRet (eC (.bl false))) sSkip)
  (sFor (iSeq (eBin addO (eRgL false (aCons (eBin ixA (eVar 0) (eC (.int 0))) aNil)) (eVar 2))) (gVar 6) hiBody)))))))
theorem hi_loop {q : Nat} {n : Int} {ts : List (Int × Int × Int)} {x : D} {a4 a5 a6 a7 : Option D} (hx : fz 4 10 4 x = true) (T : NetOk n ts) (n0 : 0 ≤ n) (n1 : n ≤ 7) {h : MH} (g : h[q]? = some (.dict (wts ts))) :
    ∃ b4 b6 h', (sFor (iSeq (eBin addO (eRgL false (aCons (eBin ixA (eVar 0) (eC (.int 0))) aNil)) (eVar 2))) (gVar 6) hiBody) [some (netD n ts), some (.ref q), some (.lst (oddl n)), some x, a4, a5, a6, a7] h = .nx [some (netD n ts), some (.ref q), some (.lst (oddl n)), some x, b4, a5, b6, a7] h' ∧ Kp h h' := by
  obtain ⟨σ', h', e, ⟨b4, b6, rfl⟩, kp⟩ := loop_inv (g := gVar 6) (b := hiBody) (chk := noChk) (fun σ h' => (∃ b4 b6, σ = [some (netD n ts), some (.ref q), some (.lst (oddl n)), some x, b4, a5, b6, a7]) ∧ Kp h h') (fun _ _ _ => rfl) (lows n) [some (netD n ts), some (.ref q), some (.lst (oddl n)), some x, a4, a5, a6, a7] h (fun d hd σ h' hI => by
    obtain ⟨⟨b4, b6, rfl⟩, kp⟩ := hI
    obtain ⟨h2, e2, ex⟩ := hi_turn (a2 := some (.lst (oddl n))) (a4 := b4) (a5 := a5) (a7 := a7) hx (lows_fz n0 n1 d hd) (by decide) (by decide) T (kp q _ g)
    exact ⟨_, _, rfl, _, h2, .inl e2, ⟨_, _, rfl⟩, kp.trans (Kp.ex ex)⟩) ⟨⟨_, _, rfl⟩, Kp.refl h⟩
  exact ⟨b4, b6, h', for_of (it := ⟨lows n, noChk⟩) (h1 := h) (lows_of n0 n1 h) e, kp⟩
theorem lo_turn {q : Nat} {n : Int} {ts : List (Int × Int × Int)} {x : D} {a4 a5 a6 a7 : Option D} (hx : fz 4 10 4 x = true) (T : NetOk n ts) (n0 : 0 ≤ n) (n1 : n ≤ 7) {h : MH} (g : h[q]? = some (.dict (wts ts))) :
    ∃ b4 b5 b6 h', loBody [some (netD n ts), some (.ref q), some (.lst (oddl n)), some x, a4, a5, a6, a7] h = .nx [some (netD n ts), some (.ref q), some (.lst (oddl n)), some x, b4, b5, b6, a7] h' ∧ Kp h h' := by
  have rx := repr_ok hx (by decide) (by decide)
  have it : eT (eCall d_l_is_item (aCons (eVar 0) (aCons (eVar 3) aNil))) [some (netD n ts), some (.ref q), some (.lst (oddl n)), some x, some (.str (pyD x).shown), a5, a6, a7] h = .ok (itemB n x) h := eT_of (call2_of (x := netD n ts) (y := x) (h1 := h) (h2 := h) rfl rfl (thing_ok hx h))
  have st1 : (sAsg (eCall reprF (aCons (eVar 3) aNil)) (gVar 4)) [some (netD n ts), some (.ref q), some (.lst (oddl n)), some x, a4, a5, a6, a7] h = .nx [some (netD n ts), some (.ref q), some (.lst (oddl n)), some x, some (.str (pyD x).shown), a5, a6, a7] h := asg_of (d := .str (pyD x).shown) (h' := h) (call1_of (x := x) (h1 := h) rfl (rx h).1) rfl
  cases hi : itemB n x with
  | false =>
    have n1' := fun h => near_bad (ts := ts) hx (by decide) (by decide) T hi h
    generalize e1 : h ++ [O.exc 1 [(2, x)]] = h1
    generalize e2 : h1 ++ [O.exc 1 [(2, x)]] = h2
    have k2 : Kp h h2 := (Kp.ex (show Ex h h1 from by rw [← e1]; exact Ex.one _ _)).trans (Kp.ex (show Ex h1 h2 from by rw [← e2]; exact Ex.one _ _))
    obtain ⟨b4, b6, h', e, kp⟩ := hi_loop (a4 := some (.str (pyD x).shown)) (a5 := some (.str (pyD x).shown)) (a6 := a6) (a7 := a7) hx T n0 n1 (k2 q _ g)
    refine ⟨b4, some (.str (pyD x).shown), b6, h', ?_, k2.trans kp⟩
    refine seq_nx st1 (seq_nx (if_f (it.trans (by rw [hi])) rfl) ?_)
    refine seq_nx (σ' := [some (netD n ts), some (.ref q), some (.lst (oddl n)), some x, some (.str (pyD x).shown), some (.str (pyD x).shown), a6, a7]) (h' := h1) (asg_of (d := .str (pyD x).shown) (h' := h1) (call2_of (x := netD n ts) (y := x) (h1 := h) (h2 := h) rfl rfl ((n1' h).trans (by rw [e1]))) rfl) ?_
    refine seq_nx (if_f (h' := h1) (eT_of (bin_of (x := .str (pyD x).shown) (y := .str (pyD x).shown) (h1 := h1) (h2 := h1) rfl rfl (neO_str (rx h1).2 h1))) rfl) ?_
    refine seq_nx (if_f (h' := h1) (eT_of rfl) rfl) ?_
    refine seq_nx (if_f (h' := h2) (eT_of (bin_of (x := .str (pyD x).shown) (y := .str (pyD x).shown) (h1 := h2) (h2 := h2) (call2_of (x := netD n ts) (y := x) (h1 := h1) (h2 := h1) rfl rfl ((n1' h1).trans (by rw [e2]))) rfl (neO_str (rx h2).2 h2))) rfl) ?_
    exact e
  | true =>
    obtain ⟨i, rfl, i0, i1⟩ := item_form hi
    have n1' := fun h => near_good (ts := ts) T i0 i1 h
    generalize e1 : h ++ [O.lst ((nbS ts i).map .int)] = h1
    have g1 : h1[h.length]? = some (.lst ((nbS ts i).map .int)) := by rw [← e1]; simp
    generalize e2 : h1.set h.length (.lst ((nbS ts i).map .int ++ [.non])) = h2
    have k12 : Kp h h2 := by
      rw [← e2, ← e1]
      refine Kp.ex ⟨[.lst ((nbS ts i).map .int ++ [.non])], ?_⟩
      simp
    generalize e3 : h2 ++ [O.lst ((nbS ts i).map .int)] = h3
    have g3 : h3[h2.length]? = some (.lst ((nbS ts i).map .int)) := by rw [← e3]; simp
    have k3 : Kp h h3 := k12.trans (Kp.ex (show Ex h2 h3 from by rw [← e3]; exact Ex.one _ _))
    have nl : (nbS ts i).length ≤ 60 := by unfold nbS; rw [List.length_mergeSort]; exact nb_len T i
    obtain ⟨b4, b6, h', e, kp⟩ := hi_loop (a4 := some (.lst ((nbS ts i).map .int))) (a5 := some (.ref h.length)) (a6 := a6) (a7 := a7) hx T n0 n1 (k3 q _ g)
    refine ⟨b4, some (.ref h.length), b6, h', ?_, k3.trans kp⟩
    refine seq_nx st1 (seq_nx (σ' := [some (netD n ts), some (.ref q), some (.lst (oddl n)), some (.int i), some (.lst ((nbS ts i).map .int)), a5, a6, a7]) (h' := h) (if_t (it.trans (by rw [hi])) (asg_of (d := .lst ((nbS ts i).map .int)) (h' := h) (dueC_of T g) rfl)) ?_)
    refine seq_nx (σ' := [some (netD n ts), some (.ref q), some (.lst (oddl n)), some (.int i), some (.lst ((nbS ts i).map .int)), some (.ref h.length), a6, a7]) (h' := h1) (asg_of (d := .ref h.length) (h' := h1) (call2_of (x := netD n ts) (y := .int i) (h1 := h) (h2 := h) rfl rfl ((n1' h).trans (by rw [e1]))) rfl) ?_
    refine seq_nx (if_f (h' := h1) (eT_of (bin_of (x := .ref h.length) (y := .lst ((nbS ts i).map .int)) (h1 := h1) (h2 := h1) rfl rfl (neO_box g1))) rfl) ?_
    refine seq_nx (if_t (h' := h1) (eT_of ?_) (drop_of (d := .non) (h' := h2) ((app_of (q := h.length) (xs := (nbS ts i).map .int) (d := .non) (h1 := h1) rfl ⟨_, g1⟩ rfl g1 (by rw [List.length_map]; omega)).trans (by rw [e2])))) ?_
    · unfold eIsi
      show (match tyS h1 (.ref h.length) with | some t => Res.ok (D.bl (isTy t "list")) h1 | none => .bad) = _
      have ty : tyS h1 (.ref h.length) = some "list" := by unfold tyS; dsimp only; rw [g1]
      rw [ty]
      rfl
    refine seq_nx (if_f (h' := h3) (eT_of (bin_of (x := .ref h2.length) (y := .lst ((nbS ts i).map .int)) (h1 := h3) (h2 := h3) (call2_of (x := netD n ts) (y := .int i) (h1 := h2) (h2 := h2) rfl rfl ((n1' h2).trans (by rw [e3]))) rfl (neO_box g3))) rfl) ?_
    exact e
theorem ties_right_ok {n : Int} {ts : List (Int × Int × Int)} (T : NetOk n ts) (n0 : 0 ≤ n) (n1 : n ≤ 7) (h : MH) : ∃ h', d_l_ties_right [netD n ts] h = .ok (.bl true) h' ∧ Kp h h' := by
  generalize e1 : h ++ [O.dict (wts ts)] = h1
  have g : h1[h.length]? = some (.dict (wts ts)) := by rw [← e1]; simp
  obtain ⟨σ', h', e, ⟨b3, b4, b5, b6, rfl⟩, kp⟩ := loop_inv (g := gVar 3) (b := loBody) (chk := noChk) (fun σ h' => (∃ b3 b4 b5 b6, σ = [some (netD n ts), some (.ref h.length), some (.lst (oddl n)), b3, b4, b5, b6, none]) ∧ Kp h1 h') (fun _ _ _ => rfl) (lows n) [some (netD n ts), some (.ref h.length), some (.lst (oddl n)), none, none, none, none, none] h1 (fun d hd σ h' hI => by
    obtain ⟨⟨b3, b4, b5, b6, rfl⟩, kp⟩ := hI
    obtain ⟨c4, c5, c6, h2, e2, kp2⟩ := lo_turn (a4 := b4) (a5 := b5) (a6 := b6) (a7 := none) (lows_fz n0 n1 d hd) T n0 n1 (kp _ _ g)
    exact ⟨_, _, rfl, _, h2, .inl e2, ⟨_, _, _, _, rfl⟩, kp.trans kp2⟩) ⟨⟨_, _, _, _, rfl⟩, Kp.refl h1⟩
  refine ⟨h', fn_rt ?_, (Kp.ex (show Ex h h1 from by rw [← e1]; exact Ex.one _ _)).trans kp⟩
  refine seq_nx (σ' := [some (netD n ts), some (.ref h.length), none, none, none, none, none, none]) (h' := h1) (asg_of (d := .ref h.length) (h' := h1) (call1_of (x := netD n ts) (h1 := h) rfl ((hefts_ok T h).trans (by rw [e1]))) rfl) ?_
  refine seq_nx (σ' := [some (netD n ts), some (.ref h.length), some (.lst (oddl n)), none, none, none, none, none]) (h' := h1) (asg_of (d := .lst (oddl n)) (h' := h1) (lst_of (b := false) (ds := oddl n) (h1 := h1) (acons_of (h1 := h1) (x := .int (-1)) rfl (acons_of (h1 := h1) (x := .int n) (bin_of (x := netD n ts) (y := .int 0) (h1 := h1) rfl rfl rfl) rfl)) (show 7 ≤ lim by decide)) rfl) ?_
  exact seq_nx (for_of (it := ⟨lows n, noChk⟩) (h1 := h1) (lows_of n0 n1 h1) e) (ret_of rfl)
end K02

namespace K02
open PySem PySem.Spec L2 MI
/-- xs[:i] + (d,) + xs[j:], where d's reading may change the pool -/
theorem mid_of {σ : Sl} {h h' : MH} {f fi fj fd : Ev} {xs ys : List D} {i j : Int} (e : ∀ h, f σ h = .ok (.tup xs) h) (e1 : ∀ h, fi σ h = .ok (.int i) h) (e2 : fd σ h = .ok (.tup ys) h') (e3 : ∀ h, fj σ h = .ok (.int j) h) (i0 : 0 ≤ i) (i1 : i ≤ xs.length) (j0 : i ≤ j) (hl : xs.length ≤ 100) (hy : ys.length ≤ 100) :
    eBin addO (eBin addO (eSlice false f oNone (oSome fi)) fd) (eSlice false f (oSome fj) oNone) σ h = .ok (.tup (xs.take i.toNat ++ ys ++ xs.drop j.toNat)) h' := by
  refine bin_of (x := .tup (xs.take i.toNat ++ ys)) (y := .tup (xs.drop j.toNat)) (h1 := h') (bin_of (x := .tup (xs.take i.toNat)) (y := .tup ys) (h1 := h) (slice_of (h2 := h) (h3 := h) (e h) rfl (osome_of (e1 h)) ?_) e2 (add_tup _ _ _ (by rw [List.length_take]; unfold lim; omega))) (slice_of (h2 := h') (h3 := h') (e h') (osome_of (e3 h')) rfl ?_) (add_tup _ _ _ (by simp; unfold lim; omega))
  · show Res.ok (D.tup (cutD xs none (some i))) h = _
    rw [cut_to xs i0 i1]
  · show Res.ok (D.tup (cutD xs (some j) none)) h' = _
    rw [cut_from xs (by omega)]
theorem cut_one (xs : List D) {i : Int} (h0 : 0 ≤ i) : cutD xs (some i) (some (i + 1)) = (xs.drop i.toNat).take 1 := by
  unfold cutD
  have e1 : HT.sIx xs.length 0 (some i) = min i.toNat xs.length := by
    have := HT.sIx_nat xs.length 0 i.toNat
    rw [show ((i.toNat : Nat) : Int) = i from by omega] at this
    exact this
  have e2 : HT.sIx xs.length xs.length (some (i + 1)) = min (i.toNat + 1) xs.length := by
    have := HT.sIx_nat xs.length xs.length (i.toNat + 1)
    rw [show ((i.toNat + 1 : Nat) : Int) = i + 1 from by omega] at this
    exact this
  rw [e1, e2]
  by_cases h : i.toNat < xs.length
  · rw [Nat.min_eq_left (by omega), Nat.min_eq_left (by omega)]
    congr 1
    omega
  · rw [Nat.min_eq_right (by omega), Nat.min_eq_right (by omega), List.drop_of_length_le (Nat.le_refl _), List.drop_of_length_le (by omega)]
    simp

def ex8 : List D := [.tup [.int 0, .int 1], .tup [.int 1, .int 0], .tup [.int 0, .int 9], .tup [.bl true, .int 2], .tup [.int 0, .int 0], .lst [.int 0, .int 1], .tup [.int 0, .int 1, .int 1], .non]
def bentL (ts : List (Int × Int × Int)) : List D := (ts.map prI).map tupI ++ ex8
theorem pair_fz {n : Int} {ts : List (Int × Int × Int)} (T : NetOk n ts) (n1 : n ≤ 7) {m : List Int} (hm : m ∈ ts.map prI) : fz 4 10 1 (tupI m) = true := by
  obtain ⟨e, he, rfl⟩ := List.mem_map.mp hm
  have := T.ok e he
  show fz 4 10 1 (.tup [.int e.1, .int e.2.1]) = true
  rw [fz_tup, Bool.and_eq_true, decide_eq_true_eq, List.all_eq_true]
  refine ⟨show 2 ≤ 10 by decide, fun x hx => ?_⟩
  simp only [List.mem_cons, List.not_mem_nil, or_false] at hx
  rcases hx with rfl | rfl <;> rw [fz_int, decide_eq_true_eq] <;> omega
theorem ex8_fz : ∀ x ∈ ex8, fz 4 10 1 x = true := by
  intro x hx
  simp only [ex8, List.mem_cons, List.not_mem_nil, or_false] at hx
  rcases hx with rfl | rfl | rfl | rfl | rfl | rfl | rfl | rfl <;> decide +kernel
theorem bentL_fz {n : Int} {ts : List (Int × Int × Int)} (T : NetOk n ts) (n1 : n ≤ 7) : ∀ x ∈ bentL ts, fz 4 10 1 x = true := by
  intro x hx
  rcases List.mem_append.mp hx with z | z
  · obtain ⟨m, hm, rfl⟩ := List.mem_map.mp z
    exact pair_fz T n1 hm
  · exact ex8_fz x z
theorem own_fz {n : Int} {ts : List (Int × Int × Int)} {ms : Lot} (T : NetOk n ts) (n1 : n ≤ 7) (h : lotM (ts.map prI) ms = true) : ∀ x ∈ ms.map tupI, fz 4 10 1 x = true := fun x hx => by
  obtain ⟨m, hm, rfl⟩ := List.mem_map.mp hx
  exact pair_fz T n1 ((lotM_iff.mp h).1 m hm)
theorem fz_tupN {k : Nat} {xs : List D} (hl : xs.length ≤ 10) (h : ∀ x ∈ xs, fz 4 10 k x = true) : fz 4 10 (k + 1) (.tup xs) = true := by
  rw [fz_tup, Bool.and_eq_true, decide_eq_true_eq, List.all_eq_true]
  exact ⟨hl, h⟩
theorem up4 {k : Nat} {d : D} (h : fz 4 10 k d = true) (hk : k ≤ 4) : fz 4 10 4 d = true := fz_up h (Nat.le_refl _) (Nat.le_refl _) hk
theorem bentL_of {n : Int} {ts : List (Int × Int × Int)} (T : NetOk n ts) {x0 x2 x3 x4 x5 : Option D} (h : MH) : eBin addO (eComp false (iSeq (eBin ixA (eVar 1) (eC (.int 1)))) (gVar 6) bYes (eSlice false (eVar 6) oNone (oSome (eC (.int 2)))) [6]) (eLst false (aCons (eTup (aCons (eC (.int 0)) (aCons (eC (.int 1)) aNil))) (aCons (eTup (aCons (eC (.int 1)) (aCons (eC (.int 0)) aNil))) (aCons (eTup (aCons (eC (.int 0)) (aCons (eC (.int 9)) aNil))) (aCons (eTup (aCons (eC (.bl true)) (aCons (eC (.int 2)) aNil))) (aCons (eTup (aCons (eC (.int 0)) (aCons (eC (.int 0)) aNil))) (aCons (eLst false (aCons (eC (.int 0)) (aCons (eC (.int 1)) aNil))) (aCons (eTup (aCons (eC (.int 0)) (aCons (eC (.int 1)) (aCons (eC (.int 1)) aNil)))) (aCons (eC .non) aNil))))))))) [x0, some (netD n ts), x2, x3, x4, x5, none] h = .ok (.lst (bentL ts)) h := by
  refine bin_of (x := .lst ((ts.map prI).map tupI)) (y := .lst ex8) (h1 := h) (h2 := h) ?_ ?_ (add_lst _ _ _ (by rw [List.length_map, List.length_map]; have := T.len; show ts.length + 8 ≤ lim; unfold lim; omega))
  · refine (comp_pure (it := ⟨(ts.map tri).map tupI, noChk⟩) (fun _ => true) kfT (net_ties rfl) rfl (fun d hd => ?_) (by show ((ts.map tri).map tupI).length ≤ lim; have := T.len; simp; unfold lim; omega)).trans ?_
    · obtain ⟨m, hm, rfl⟩ := List.mem_map.mp hd
      obtain ⟨e, he, rfl⟩ := List.mem_map.mp hm
      exact ⟨_, rfl, rfl, fun _ => slice_of (x := tupI (tri e)) (h1 := h) (h2 := h) (h3 := h) rfl rfl (osome_of (h1 := h) rfl) rfl⟩
    · show Res.ok (D.lst ((((ts.map tri).map tupI).filter fun _ => true).map _)) h = _
      rw [List.filter_eq_self.mpr fun _ _ => rfl]
      simp only [List.map_map]
      rfl
  · rfl
theorem bent_ok {p : Nat} {n : Int} {ts : List (Int × Int × Int)} {ms : Lot} {h : MH} (P : PoolAt p h) (T : NetOk n ts) (n1 : n ≤ 7) (h0 : lotM (ts.map prI) ms = true) : ∃ d h', d_l_bent [.ref p, netD n ts, tupL ms] h = .ok d h' ∧ fz 4 10 4 d = true ∧ Px p h h' := by
  have ml := lot_len T n1 h0
  have of := own_fz T n1 h0
  have ol : (ms.map tupI).length ≤ 3 := by rw [List.length_map]; exact ml
  have bl : (bentL ts).length ≤ 68 := by unfold bentL; rw [List.length_append, List.length_map, List.length_map]; have := T.len; show ts.length + 8 ≤ 68; omega
  have bp : 0 < (bentL ts).length := by unfold bentL; rw [List.length_append]; exact Nat.lt_of_lt_of_le (show 0 < 8 by decide) (Nat.le_add_left _ _)
  obtain ⟨at', h1, e1, a0, a1, y1⟩ := drwF (σ := [some (.ref p), some (netD n ts), some (tupL ms), none, none, none, none]) (f := eVar 0) (g := eBin addO (eCall lenA (aCons (eVar 2) aNil)) (eC (.int 1))) (m := (ms.length : Nat) + 1) P rfl (bin_of (x := .int (ms.length : Nat)) (y := .int 1) (h1 := h) (call1_of (x := tupL ms) (h1 := h) rfl (by show Res.ok (D.int ((ms.map tupI).length : Nat)) h = _; rw [List.length_map])) rfl rfl) (by omega) (by omega)
  obtain ⟨way, h2, e2, w0, w1, y2⟩ := drwF (σ := [some (.ref p), some (netD n ts), some (tupL ms), some (.int at'), some (.lst (bentL ts)), none, none]) (f := eVar 0) (g := eC (.int 6)) (m := 6) y1.1 rfl rfl (by omega) (by omega)
  have pre : ∀ {r : Fl}, (sSeq (sIf (eT (eBin ltO (eVar 5) (eC (.int 3)))) (sRet (eBin addO (eBin addO (eSlice false (eVar 2) oNone (oSome (eVar 3))) (eTup (aCons (eBin ixA (eVar 4) (eCall d_l_draw (aCons (eVar 0) (aCons (eCall lenA (aCons (eVar 4) aNil)) aNil)))) aNil))) (eSlice false (eVar 2) (oSome (eBin addO (eVar 3) (eBin modO (eVar 5) (eC (.int 2))))) oNone))) sSkip)
  (sSeq (sIf (eT (eBin eqO (eVar 5) (eC (.int 3)))) (sRet (eBin addO (eBin addO (eSlice false (eVar 2) oNone (oSome (eVar 3))) (eSlice false (eVar 2) (oSome (eVar 3)) (oSome (eBin addO (eVar 3) (eC (.int 1)))))) (eSlice false (eVar 2) (oSome (eVar 3)) oNone))) sSkip)
  (sRet (eBin ixA (eLst false (aCons (eRev (eVar 2)) (aCons (eBin ixA (eLst false (aCons (eVar 2) (aCons (eCall (seqF (listG false)) (aCons (eVar 2) aNil)) (aCons (eC .non) (aCons (eC (.str "lot")) (aCons (eTup (aCons (eVar 2) aNil)) (aCons (eC (.int 5)) aNil))))))) (eCall d_l_draw (aCons (eVar 0) (aCons (eC (.int 6)) aNil)))) aNil))) (eBin subO (eVar 5) (eC (.int 4))))))) [some (.ref p), some (netD n ts), some (tupL ms), some (.int at'), some (.lst (bentL ts)), some (.int way), none] h2 = r → dB_l_bent (startM 7 [.ref p, netD n ts, tupL ms]) h = r := fun e => by
    refine seq_nx (σ' := [some (.ref p), some (netD n ts), some (tupL ms), some (.int at'), none, none, none]) (h' := h1) (asg_of (d := .int at') (h' := h1) e1 rfl) ?_
    refine seq_nx (σ' := [some (.ref p), some (netD n ts), some (tupL ms), some (.int at'), some (.lst (bentL ts)), none, none]) (h' := h1) (asg_of (d := .lst (bentL ts)) (h' := h1) (bentL_of T h1) rfl) ?_
    exact seq_nx (σ' := [some (.ref p), some (netD n ts), some (tupL ms), some (.int at'), some (.lst (bentL ts)), some (.int way), none]) (h' := h2) (asg_of (d := .int way) (h' := h2) e2 rfl) e
  have y12 := y1.trans y2
  have lt3 : eT (eBin ltO (eVar 5) (eC (.int 3))) [some (.ref p), some (netD n ts), some (tupL ms), some (.int at'), some (.lst (bentL ts)), some (.int way), none] h2 = .ok (decide (way < 3)) h2 := eT_of (bin_of (x := .int way) (y := .int 3) (h1 := h2) rfl rfl rfl)
  by_cases c3 : way < 3
  · obtain ⟨j, h3, e3, j0, j1, y3⟩ := drwF (σ := [some (.ref p), some (netD n ts), some (tupL ms), some (.int at'), some (.lst (bentL ts)), some (.int way), none]) (f := eVar 0) (g := eCall lenA (aCons (eVar 4) aNil)) (m := ((bentL ts).length : Nat)) y2.1 rfl (call1_of (x := .lst (bentL ts)) (h1 := h2) rfl rfl) (by omega) (by omega)
    obtain ⟨x, ex, hx⟩ := atI_nat (xs := bentL ts) j0 j1
    have md : 0 ≤ way % 2 ∧ way % 2 < 2 := by omega
    refine ⟨_, h3, fn_rt (pre (seq_rt (if_t (lt3.trans (by rw [decide_eq_true c3])) (ret_of (mid_of (xs := ms.map tupI) (ys := [x]) (i := at') (j := at' + way % 2) (h := h2) (h' := h3) (fun _ => rfl) (fun _ => rfl) (tup_of (ds := [x]) (h1 := h3) (acons_of (h1 := h3) (x := x) (bin_of (x := .lst (bentL ts)) (y := .int j) (h1 := h2) (h2 := h3) rfl e3 ex) rfl) (show 1 ≤ lim by decide)) (fun h => bin_of (x := .int at') (y := .int (way % 2)) (h1 := h) rfl (bin_of (x := .int way) (y := .int 2) (h1 := h) rfl rfl rfl) rfl) a0 (by rw [List.length_map]; omega) (by omega) (by omega) (show 1 ≤ 100 by decide)))))), ?_, y12.trans y3⟩
    refine up4 (fz_tupN (k := 1) ?_ fun z hz => ?_) (by decide)
    · rw [List.length_append, List.length_append, List.length_take, List.length_drop]
      show _ + 1 + _ ≤ 10
      omega
    · rcases List.mem_append.mp hz with hz | hz
      · rcases List.mem_append.mp hz with hz | hz
        · exact of z (List.mem_of_mem_take hz)
        · rw [List.mem_singleton.mp hz]; exact bentL_fz T n1 x hx
      · exact of z (List.mem_of_mem_drop hz)
  · have lt3' := lt3.trans (by rw [decide_eq_false c3])
    have eq3 : eT (eBin eqO (eVar 5) (eC (.int 3))) [some (.ref p), some (netD n ts), some (tupL ms), some (.int at'), some (.lst (bentL ts)), some (.int way), none] h2 = .ok (decide (way = 3)) h2 := eT_of (bin_of (x := .int way) (y := .int 3) (h1 := h2) rfl rfl (eqO_int _ _ _))
    by_cases c4 : way = 3
    · refine ⟨_, h2, fn_rt (pre (ifp false lt3' (fun z => nomatch z) fun _ => seq_rt (if_t (eq3.trans (by rw [decide_eq_true c4])) (ret_of (mid_of (xs := ms.map tupI) (ys := ((ms.map tupI).drop at'.toNat).take 1) (i := at') (j := at') (h := h2) (h' := h2) (fun _ => rfl) (fun _ => rfl) (slice_of (x := tupL ms) (h1 := h2) (h2 := h2) (h3 := h2) rfl (osome_of (h1 := h2) rfl) (osome_of (h1 := h2) (i := at' + 1) (bin_of (x := .int at') (y := .int 1) (h1 := h2) rfl rfl rfl)) ?_) (fun _ => rfl) a0 (by rw [List.length_map]; omega) (by omega) (by omega) (by rw [List.length_take]; omega)))))), ?_, y12⟩
      · show Res.ok (D.tup (cutD (ms.map tupI) (some at') (some (at' + 1)))) h2 = _
        rw [cut_one _ a0]
      · refine up4 (fz_tupN (k := 1) ?_ fun z hz => ?_) (by decide)
        · simp only [List.length_append, List.length_take, List.length_drop]
          omega
        · rcases List.mem_append.mp hz with hz | hz
          · rcases List.mem_append.mp hz with hz | hz
            · exact of z (List.mem_of_mem_take hz)
            · exact of z (List.mem_of_mem_drop (List.mem_of_mem_take hz))
          · exact of z (List.mem_of_mem_drop hz)
    · obtain ⟨j, h3, e3, j0, j1, y3⟩ := drwF (σ := [some (.ref p), some (netD n ts), some (tupL ms), some (.int at'), some (.lst (bentL ts)), some (.int way), none]) (f := eVar 0) (g := eC (.int 6)) (m := 6) y2.1 rfl rfl (by omega) (by omega)
      obtain ⟨x, ex, hx⟩ := atI_nat (xs := [tupL ms, .lst (ms.map tupI), .non, .str "lot", .tup [tupL ms], .int 5]) j0 (by exact j1)
      obtain ⟨d, ed, hd⟩ := atI_nat (xs := [.tup (ms.map tupI).reverse, x]) (r := way - 4) (by omega) (by show way - 4 < 2; omega)
      have inner : eBin ixA (eLst false (aCons (eVar 2) (aCons (eCall (seqF (listG false)) (aCons (eVar 2) aNil)) (aCons (eC .non) (aCons (eC (.str "lot")) (aCons (eTup (aCons (eVar 2) aNil)) (aCons (eC (.int 5)) aNil))))))) (eCall d_l_draw (aCons (eVar 0) (aCons (eC (.int 6)) aNil))) [some (.ref p), some (netD n ts), some (tupL ms), some (.int at'), some (.lst (bentL ts)), some (.int way), none] h2 = .ok x h3 :=
        bin_of (x := .lst [tupL ms, .lst (ms.map tupI), .non, .str "lot", .tup [tupL ms], .int 5]) (y := .int j) (h1 := h2) (h2 := h3) (lst_of (b := false) (ds := [tupL ms, .lst (ms.map tupI), .non, .str "lot", .tup [tupL ms], .int 5]) (h1 := h2) (acons_of (h1 := h2) (x := tupL ms) rfl (acons_of (h1 := h2) (x := .lst (ms.map tupI)) rfl (acons_of (h1 := h2) (x := .non) rfl (acons_of (h1 := h2) (x := .str "lot") rfl (acons_of (h1 := h2) (x := .tup [tupL ms]) rfl (acons_of (h1 := h2) (x := .int 5) rfl rfl)))))) (show 6 ≤ lim by decide)) e3 ex
      have fl : fz 4 10 2 (tupL ms) = true := fz_tupN (k := 1) (by omega) of
      have fx : fz 4 10 4 x = true := by
        simp only [List.mem_cons, List.not_mem_nil, or_false] at hx
        rcases hx with rfl | rfl | rfl | rfl | rfl | rfl
        · exact up4 fl (by decide)
        · refine up4 (k := 2) ?_ (by decide)
          rw [fz_lst, Bool.and_eq_true, decide_eq_true_eq, List.all_eq_true]
          exact ⟨by omega, of⟩
        · exact fz_non
        · decide +kernel
        · exact up4 (k := 3) (fz_tupN (k := 2) (show 1 ≤ 10 by decide) fun z hz => by rw [List.mem_singleton.mp hz]; exact fl) (by decide)
        · decide +kernel
      refine ⟨d, h3, fn_rt (pre (ifp false lt3' (fun z => nomatch z) fun _ => ifp false (eq3.trans (by rw [decide_eq_false c4])) (fun z => nomatch z) fun _ => ret_of (bin_of (x := .lst [.tup (ms.map tupI).reverse, x]) (y := .int (way - 4)) (h1 := h3) (h2 := h3) (lst_of (b := false) (ds := [.tup (ms.map tupI).reverse, x]) (h1 := h3) (acons_of (h1 := h2) (x := .tup (ms.map tupI).reverse) rfl (acons_of (h1 := h3) (x := x) inner rfl)) (show 2 ≤ lim by decide)) (bin_of (x := .int way) (y := .int 4) (h1 := h3) rfl rfl rfl) ed))), ?_, y12.trans y3⟩
      simp only [List.mem_cons, List.not_mem_nil, or_false] at hd
      rcases hd with rfl | rfl
      · exact up4 (k := 2) (fz_tupN (k := 1) (by rw [List.length_reverse]; omega) fun z hz => of z (List.mem_reverse.mp hz)) (by decide)
      · exact fx
end K02

namespace K02
open PySem PySem.Spec L2 MI
theorem callK2_of {F : Fn} {f g : Ev} {σ : Sl} {h h1 h2 : MH} {x y : D} {r : Res D} (e : f σ h = .ok x h1) (e2 : g σ h1 = .ok y h2) (e3 : F [y, x] h2 = r) : eCallK [1, 0] F (aCons f (aCons g aNil)) σ h = r := by
  unfold eCallK
  rw [acons_of (x := x) (ds := [y]) (h1 := h1) (h2 := h2) e (acons_of (x := y) (ds := []) (h1 := h2) (h2 := h2) e2 rfl)]
  dsimp only [Res.bind]
  have q : ∀ i ∈ [1, 0], i < [x, y].length := (show ∀ i ∈ [1, 0], i < 2 from by decide)
  rw [if_pos q]
  exact e3
theorem callK3_of {F : Fn} {f g k : Ev} {σ : Sl} {h h1 h2 h3 : MH} {x y z : D} {r : Res D} (e : f σ h = .ok x h1) (e2 : g σ h1 = .ok y h2) (e3 : k σ h2 = .ok z h3) (e4 : F [z, y, x] h3 = r) : eCallK [2, 1, 0] F (aCons f (aCons g (aCons k aNil))) σ h = r := by
  unfold eCallK
  rw [acons_of (x := x) (ds := [y, z]) (h1 := h1) (h2 := h3) e (acons_of (x := y) (ds := [z]) (h1 := h2) (h2 := h3) e2 (acons_of (x := z) (ds := []) (h1 := h3) (h2 := h3) e3 rfl))]
  dsimp only [Res.bind]
  have q : ∀ i ∈ [2, 1, 0], i < [x, y, z].length := (show ∀ i ∈ [2, 1, 0], i < 3 from by decide)
  rw [if_pos q]
  exact e4
theorem in_box {h : MH} {q : Nat} {ns : List Int} (g : h[q]? = some (.lst (ns.map .int))) (i : Int) : notInA h (.int i) (.ref q) = some (.bl (!decide (i ∈ ns))) := by
  have a : toPy h (.ref q) = some (.list (ns.map .int)) := by
    unfold toPy
    rw [D.py]
    unfold refPy
    simp only [g, ints_py]
    rfl
  have b : boxD h q = none := by unfold boxD; rw [g]
  have e : inA h (.int i) (.ref q) = some (.bl (decide (i ∈ ns))) := by
    show (match boxD h q with | some kvs => if (D.int i).keyOk = true then some (D.bl (getD kvs (.int i)).isSome) else none | none => (isIn h (.int i) (.ref q)).map D.bl) = _
    rw [b]
    dsimp only
    unfold isIn
    dsimp only
    rw [toPy_int, a]
    dsimp only
    rw [int_shaped, (ints_shaped ns).2, if_pos (by rfl), MI.any_ints]
    rfl
  unfold notInA
  rw [e]
theorem lotB_true {ps : List (List Int)} {ms : Lot} (h2 : ∀ m ∈ ms, ∃ a b, m = [a, b]) (h : lotM ps ms = true) : lotB ps (tupL ms) = true := by
  show ((ms.map tupI).all pairB && lotM ps ((ms.map tupI).map unI)) = true
  rw [unI_map, h, Bool.and_true, List.all_eq_true]
  intro x hx
  obtain ⟨m, hm, rfl⟩ := List.mem_map.mp hx
  obtain ⟨a, b, rfl⟩ := h2 m hm
  rfl
theorem own_ok {n : Int} {ts : List (Int × Int × Int)} {ms : Lot} (T : NetOk n ts) (n1 : n ≤ 7) (h0 : lotM (ts.map prI) ms = true) : fz 4 10 4 (tupL ms) = true := up4 (k := 2) (fz_tupN (k := 1) (by rw [List.length_map]; have := lot_len T n1 h0; omega) (own_fz T n1 h0)) (by decide)
abbrev S12 (a0 a1 a2 a3 a4 a5 a6 a7 a8 a9 a10 a11 : Option D) : Sl := [a0, a1, a2, a3, a4, a5, a6, a7, a8, a9, a10, a11]
theorem repr_bl (b : Bool) (h : MH) : reprF [.bl b] h = .ok (.str (pyD (.bl b)).shown) h ∧ PyData.strOk (pyD (.bl b)).shown = true := repr_ok (m := 3) fz_bl (by decide) (by decide) h
/-- the innermost turn -/
def b7 : EvS := (sSeq (sAsg (eCall d_l_bent (aCons (eVar 2) (aCons (eVar 3) (aCons (eVar 5) aNil)))) (gVar 7))
  (sIf (eT (eBin neO (eCall reprF (aCons (eCall d_is_lot (aCons (eVar 3) (aCons (eVar 7) aNil))) aNil)) (eCall reprF (aCons (eCall d_l_lot_so (aCons (eVar 3) (aCons (eVar 7) aNil))) aNil)))) (sRet (eC (.bl false))) sSkip))
theorem turn7 {p : Nat} {n : Int} {ts : List (Int × Int × Int)} {ms : Lot} {h : MH} {a0 a1 a4 a6 a7 a8 a9 a10 a11 : Option D} (P : PoolAt p h) (T : NetOk n ts) (n1 : n ≤ 7) (h0 : lotM (ts.map prI) ms = true) :
    ∃ c7 h', b7 (S12 a0 a1 (some (.ref p)) (some (netD n ts)) a4 (some (tupL ms)) a6 a7 a8 a9 a10 a11) h = .nx (S12 a0 a1 (some (.ref p)) (some (netD n ts)) a4 (some (tupL ms)) a6 c7 a8 a9 a10 a11) h' ∧ PoolAt p h' := by
  obtain ⟨d, h1, e1, fd, y1⟩ := bent_ok P T n1 h0
  obtain ⟨h2, e2, x2⟩ := is_lot_ok (k := 2) fd (by decide) T h1
  have e3 := so_ok (k := 2) fd (by decide) (by decide) T h2
  refine ⟨some d, h2, ?_, (Px.ex y1.1 x2).1⟩
  refine seq_nx (σ' := S12 a0 a1 (some (.ref p)) (some (netD n ts)) a4 (some (tupL ms)) a6 (some d) a8 a9 a10 a11) (h' := h1) (asg_of (d := d) (h' := h1) (call3_of (x := .ref p) (y := netD n ts) (z := tupL ms) (h1 := h) (h2 := h) (h3 := h) rfl rfl rfl e1) rfl) ?_
  have r1 := repr_bl (lotB (ts.map prI) d) h2
  refine if_f (h' := h2) (eT_of (bin_of (x := .str (pyD (.bl (lotB (ts.map prI) d))).shown) (y := .str (pyD (.bl (lotB (ts.map prI) d))).shown) (h1 := h2) (h2 := h2) (call1_of (x := .bl (lotB (ts.map prI) d)) (h1 := h2) (call2_of (x := netD n ts) (y := d) (h1 := h1) (h2 := h1) rfl rfl e2) r1.1) (call1_of (x := .bl (lotB (ts.map prI) d)) (h1 := h2) (call2_of (x := netD n ts) (y := d) (h1 := h2) (h2 := h2) rfl rfl e3) r1.1) (neO_str r1.2 h2))) rfl
def b5 : EvS := (sSeq (sIf (bOr (eT (eBin isNotO (eCall d_is_lot (aCons (eVar 3) (aCons (eVar 5) aNil))) (eC (.bl true)))) (eT (eBin neO (eCall d_weight_of (aCons (eVar 3) (aCons (eVar 5) aNil))) (eCall d_l_sum (aCons (eVar 3) (aCons (eVar 5) aNil)))))) (sRet (eC (.bl false))) sSkip)
  (sFor (iRange (aCons (eC (.int 2)) aNil)) (gVar 6) b7))
theorem lot_cond {p : Nat} {n : Int} {ts : List (Int × Int × Int)} {ms : Lot} {h : MH} (P : PoolAt p h) (T : NetOk n ts) (n1 : n ≤ 7) (h0 : lotM (ts.map prI) ms = true) : ∃ h1, PoolAt p h1 ∧ d_is_lot [netD n ts, tupL ms] h = .ok (.bl true) h1 ∧ d_weight_of [netD n ts, tupL ms] h1 = .ok (.int (wS ts ms)) (h1 ++ [.dict (wts ts)]) ∧ d_l_sum [netD n ts, tupL ms] (h1 ++ [.dict (wts ts)]) = .ok (.int (wS ts ms)) (h1 ++ [.dict (wts ts)] ++ [.dict (wts ts)]) ∧ PoolAt p (h1 ++ [.dict (wts ts)] ++ [.dict (wts ts)]) := by
  obtain ⟨h1, e1, x1⟩ := is_lot_ok (k := 2) (own_ok T n1 h0) (by decide) T h
  rw [lotB_true (lot_two (n := n) rfl h0) h0] at e1
  have P1 := (Px.ex P x1).1
  have hm := (lotM_iff.mp h0).1
  have hl : ms.length ≤ 1000 := by have := lot_len T n1 h0; omega
  exact ⟨h1, P1, e1, weight_of_ok T hm hl h1, l_sum_ok T hm hl _, (Px.ex P1 ((Ex.one _ _).trans (Ex.one _ _))).1⟩
theorem ne_int_same (w : Int) (h : MH) : neO h (.int w) (.int w) = some (.bl false) := by rw [neO_int]; simp
theorem turn5 {p : Nat} {n : Int} {ts : List (Int × Int × Int)} {ms : Lot} {h : MH} {a0 a1 a4 a6 a7 a8 a9 a10 a11 : Option D} (P : PoolAt p h) (T : NetOk n ts) (n1 : n ≤ 7) (h0 : lotM (ts.map prI) ms = true) :
    ∃ c6 c7 h', b5 (S12 a0 a1 (some (.ref p)) (some (netD n ts)) a4 (some (tupL ms)) a6 a7 a8 a9 a10 a11) h = .nx (S12 a0 a1 (some (.ref p)) (some (netD n ts)) a4 (some (tupL ms)) c6 c7 a8 a9 a10 a11) h' ∧ PoolAt p h' := by
  obtain ⟨h1, P1, e1, e2, e3, P3⟩ := lot_cond P T n1 h0
  generalize h1 ++ [O.dict (wts ts)] = h2 at e2 e3 P3
  generalize h2 ++ [O.dict (wts ts)] = h3 at e3 P3
  obtain ⟨σ', h', e, ⟨c6, c7, rfl⟩, P'⟩ := loop_inv (g := gVar 6) (b := b7) (chk := noChk) (fun σ h' => (∃ c6 c7, σ = S12 a0 a1 (some (.ref p)) (some (netD n ts)) a4 (some (tupL ms)) c6 c7 a8 a9 a10 a11) ∧ PoolAt p h') (fun _ _ _ => rfl) (rangeD 0 2) (S12 a0 a1 (some (.ref p)) (some (netD n ts)) a4 (some (tupL ms)) a6 a7 a8 a9 a10 a11) h3 (fun d hd σ h hI => by
    obtain ⟨⟨c6, c7, rfl⟩, P⟩ := hI
    refine ⟨_, _, rfl, ?_⟩
    obtain ⟨c7', h', e, P'⟩ := turn7 (a0 := a0) (a1 := a1) (a4 := a4) (a6 := some d) (a7 := c7) (a8 := a8) (a9 := a9) (a10 := a10) (a11 := a11) P T n1 h0
    exact ⟨_, h', .inl e, ⟨_, _, rfl⟩, P'⟩) ⟨⟨_, _, rfl⟩, P3⟩
  refine ⟨c6, c7, h', ?_, P'⟩
  refine ifret (p := false) (h' := h3) (orF_of (h' := h1) (eT_of (bin_of (x := .bl true) (y := .bl true) (h1 := h1) (h2 := h1) (call2_of (x := netD n ts) (y := tupL ms) (h1 := h) (h2 := h) rfl rfl e1) rfl rfl)) (eT_of (bin_of (x := .int (wS ts ms)) (y := .int (wS ts ms)) (h1 := h2) (h2 := h3) (call2_of (x := netD n ts) (y := tupL ms) (h1 := h1) (h2 := h1) rfl rfl e2) (call2_of (x := netD n ts) (y := tupL ms) (h1 := h2) (h2 := h2) rfl rfl e3) (ne_int_same _ _)))) (fun z => nomatch z) fun _ => for_of (it := ⟨rangeD 0 2, noChk⟩) (h1 := h3) (range1_of (acons_of (h1 := h3) (x := .int 2) rfl rfl) (by decide)) e
/-- a tie, its things by names -/
def b9 : EvS := (sIf (bOr (eT (eBin neO (eCallK [2, 1, 0] d_tie_weight (aCons (eVar 8) (aCons (eVar 9) (aCons (eVar 3) aNil)))) (eVar 10))) (eT (eBin notInA (eVar 9) (eCallK [1, 0] d_beside (aCons (eVar 8) (aCons (eVar 3) aNil)))))) (sRet (eC (.bl false))) sSkip)
theorem fz_small {i : Int} (h0 : 0 ≤ i) (h1 : i ≤ 100) : fz 4 10 4 (.int i) = true := by rw [fz_int, decide_eq_true_eq]; omega
theorem item_true {n i : Int} (h0 : 0 ≤ i) (h1 : i < n) : itemB n (.int i) = true := by
  show (decide (0 ≤ i) && decide (i < n)) = true
  rw [decide_eq_true h0, decide_eq_true h1]; rfl
theorem tieW_of {n : Int} {ts : List (Int × Int × Int)} (T : NetOk n ts) {e : Int × Int × Int} (he : e ∈ ts) : tieW n ts (.int e.2.1) (.int e.1) = some e.2.2 := by
  have o := T.ok e he
  show (if (itemB n (.int e.2.1) && itemB n (.int e.1)) = true then wt ts (keyOf2 e.2.1 e.1) else none) = _
  rw [item_true (by omega) (by omega), item_true (by omega) (by omega)]
  have : keyOf2 e.2.1 e.1 = prI e := by unfold keyOf2 prI; rw [Int.min_eq_right (by omega), Int.max_eq_left (by omega)]
  rw [this, wt_of T he]
  rfl
theorem nb_mem {n : Int} {ts : List (Int × Int × Int)} (T : NetOk n ts) {e : Int × Int × Int} (he : e ∈ ts) : e.2.1 ∈ nbS ts e.1 := by
  unfold nbS
  refine (List.mergeSort_perm _ _).mem_iff.mpr ?_
  unfold nb
  refine List.mem_map.mpr ⟨prI e, List.mem_filter.mpr ⟨List.mem_map.mpr ⟨e, he, rfl⟩, by unfold prI; simp⟩, ?_⟩
  show e.1 + e.2.1 - e.1 = e.2.1
  omega
theorem turn9 {p : Nat} {n : Int} {ts : List (Int × Int × Int)} {e : Int × Int × Int} {h : MH} {a0 a1 a4 a5 a6 a7 a11 : Option D} (P : PoolAt p h) (T : NetOk n ts) (n1 : n ≤ 7) (he : e ∈ ts) :
    ∃ h', b9 (S12 a0 a1 (some (.ref p)) (some (netD n ts)) a4 a5 a6 a7 (some (.int e.1)) (some (.int e.2.1)) (some (.int e.2.2)) a11) h = .nx (S12 a0 a1 (some (.ref p)) (some (netD n ts)) a4 a5 a6 a7 (some (.int e.1)) (some (.int e.2.1)) (some (.int e.2.2)) a11) h' ∧ PoolAt p h' := by
  have o := T.ok e he
  obtain ⟨h1, x1, e1⟩ := tie_weight_ok (n := n) (fz_small (i := e.2.1) (by omega) (by omega)) (fz_small (i := e.1) (by omega) (by omega)) T h
  rw [tieW_of T he] at e1
  have e2 := beside_ok (fz_small (i := e.1) (by omega) (by omega)) T h1
  have e2' : d_beside [netD n ts, .int e.1] h1 = .ok (.ref h1.length) (h1 ++ [.lst ((nbS ts e.1).map .int)]) := by
    rw [e2]
    show (if itemB n (.int e.1) = true then _ else _) = _
    rw [if_pos (item_true (by omega) (by omega))]
  have g : (h1 ++ [O.lst ((nbS ts e.1).map .int)])[h1.length]? = some (.lst ((nbS ts e.1).map .int)) := by simp
  refine ⟨h1 ++ [.lst ((nbS ts e.1).map .int)], ?_, (Px.ex P (x1.trans (Ex.one _ _))).1⟩
  generalize h1 ++ [O.lst ((nbS ts e.1).map .int)] = h2 at e2' g
  refine if_f (h' := h2) (orF_of (h' := h1) (eT_of (bin_of (x := .int e.2.2) (y := .int e.2.2) (h1 := h1) (h2 := h1) (callK3_of (x := .int e.1) (y := .int e.2.1) (z := netD n ts) (h1 := h) (h2 := h) (h3 := h) rfl rfl rfl e1) rfl (ne_int_same _ _))) (eT_of (bin_of (x := .int e.2.1) (y := .ref h1.length) (h1 := h1) (h2 := h2) rfl (callK2_of (x := .int e.1) (y := netD n ts) (h1 := h1) (h2 := h1) rfl rfl e2') ((in_box g _).trans (by rw [decide_eq_true (nb_mem T he)]; rfl))))) rfl
end K02

namespace K02
open PySem PySem.Spec L2 MI
def bK : EvS := (sSeq (sAsg (eCall d_l_pool (aCons (eVar 0) (aCons (eVar 1) aNil))) (gVar 2))
  (sSeq (sAsg (eCall d_l_net (aCons (eVar 2) (aCons (eC (.int 7)) aNil))) (gVar 3))
  (sSeq (sAsg (eCall reprF (aCons (eVar 3) aNil)) (gVar 4))
  (sSeq (sIf (bNot (eT (eCall d_l_ties_right (aCons (eVar 3) aNil)))) (sRet (eC (.bl false))) sSkip)
  (sSeq (sFor (iSeq (eSlice false (eCall d_l_all_lots (aCons (eVar 3) aNil)) oNone (oSome (eC (.int 30))))) (gVar 5) b5)
  (sSeq (sAsg (eCall d_l_one_lot (aCons (eVar 2) (aCons (eVar 3) aNil))) (gVar 5))
  (sSeq (sIf (bOr (eT (eBin isNotO (eCallK [1, 0] d_is_lot (aCons (eVar 5) (aCons (eVar 3) aNil))) (eC (.bl true)))) (eT (eBin neO (eCallK [1, 0] d_weight_of (aCons (eVar 5) (aCons (eVar 3) aNil))) (eCall d_l_sum (aCons (eVar 3) (aCons (eVar 5) aNil)))))) (sRet (eC (.bl false))) sSkip)
  (sSeq (sFor (iSeq (eSlice false (eBin ixA (eVar 3) (eC (.int 1))) oNone (oSome (eC (.int 3))))) (gTupM 3 (gsCons (gVar 8) (gsCons (gVar 9) (gsCons (gVar 10) gsNil)))) b9)
  (sIf (eT (eBin neO (eCall reprF (aCons (eVar 3) aNil)) (eVar 4))) (sRet (eC (.bl false))) sSkip)))))))))
theorem turnK {ns : List Int} {a2 a3 a4 a5 a6 a7 a8 a9 a10 : Option D} {k : Nat} {h : MH} (hk : k < 1000) : ∃ c2 c3 c4 c5 c6 c7 c8 c9 c10 h', bK (S12 (some (.scr ns)) (some (.int (k : Nat))) a2 a3 a4 a5 a6 a7 a8 a9 a10 none) h = .nx (S12 (some (.scr ns)) (some (.int (k : Nat))) c2 c3 c4 c5 c6 c7 c8 c9 c10 none) h' := by
  obtain ⟨h1, e1, x1, P1⟩ := pool_ok2 (h := h) (ns := ns) (k := k) hk
  generalize h.length = p at e1 P1
  obtain ⟨n, ts, h2, e2, n0, n1, T, y2⟩ := net_ok (lm := 7) P1 (by decide) (by decide)
  have hr := fun mh => repr_fzv (netD_fzv (m := 7) (A := 2) (B := 60) (C := 3) (Nat.le_refl _) n0 (by omega) T (by decide) (by decide) (by decide)).1 (by decide) (by decide) (by decide) (by decide) mh
  obtain ⟨h3, e3, kp3⟩ := ties_right_ok T n0 n1 h2
  have P3 : PoolAt p h3 := by
    obtain ⟨u, v, w, r⟩ := y2.1
    exact ⟨u, v, kp3 _ _ w, r⟩
  obtain ⟨xs, h4, e4, x4, hx⟩ := all_lots_ok T n1 h3
  have P4 := (Px.ex P3 x4).1
  have hx' : ∀ x ∈ cutD xs none (some 30), ∃ ms, x = tupL ms ∧ lotM (ts.map prI) ms = true := fun x hx0 => by
    unfold cutD at hx0
    exact hx x (List.mem_of_mem_drop (List.mem_of_mem_take hx0))
  obtain ⟨σ5, h5, e5, ⟨c5, c6, c7, rfl⟩, P5⟩ := loop_inv (g := gVar 5) (b := b5) (chk := noChk) (fun σ h' => (∃ c5 c6 c7, σ = S12 (some (.scr ns)) (some (.int (k : Nat))) (some (.ref p)) (some (netD n ts)) (some (.str (pyD (netD n ts)).shown)) c5 c6 c7 a8 a9 a10 none) ∧ PoolAt p h') (fun _ _ _ => rfl) (cutD xs none (some 30)) (S12 (some (.scr ns)) (some (.int (k : Nat))) (some (.ref p)) (some (netD n ts)) (some (.str (pyD (netD n ts)).shown)) a5 a6 a7 a8 a9 a10 none) h4 (fun d hd σ h hI => by
    obtain ⟨⟨c5, c6, c7, rfl⟩, P⟩ := hI
    obtain ⟨ms, rfl, h0⟩ := hx' d hd
    refine ⟨_, _, rfl, ?_⟩
    obtain ⟨b6, b7, h', e, P'⟩ := turn5 (a0 := some (.scr ns)) (a1 := some (.int (k : Nat))) (a4 := some (.str (pyD (netD n ts)).shown)) (a6 := c6) (a7 := c7) (a8 := a8) (a9 := a9) (a10 := a10) (a11 := none) P T n1 h0
    exact ⟨_, h', .inl e, ⟨_, _, _, rfl⟩, P'⟩) ⟨⟨_, _, _, rfl⟩, P4⟩
  obtain ⟨ms, h6, e6, h0, y6⟩ := one_lot_ok P5 T n1
  obtain ⟨h7, P7, f1, f2, f3, P8⟩ := lot_cond y6.1 T n1 h0
  generalize e8 : h7 ++ [O.dict (wts ts)] = h8 at f2 f3 P8
  generalize e9 : h8 ++ [O.dict (wts ts)] = h9 at f3 P8
  have ht : ∀ x ∈ cutD ((ts.map tri).map tupI) none (some 3), ∃ e ∈ ts, x = tupI (tri e) := fun x hx0 => by
    unfold cutD at hx0
    have := List.mem_of_mem_drop (List.mem_of_mem_take hx0)
    obtain ⟨m, hm, rfl⟩ := List.mem_map.mp this
    obtain ⟨e, he, rfl⟩ := List.mem_map.mp hm
    exact ⟨e, he, rfl⟩
  obtain ⟨σA, hA, eA, ⟨c8, c9, c10, rfl⟩, PA⟩ := loop_inv (g := gTupM 3 (gsCons (gVar 8) (gsCons (gVar 9) (gsCons (gVar 10) gsNil)))) (b := b9) (chk := noChk) (fun σ h' => (∃ c8 c9 c10, σ = S12 (some (.scr ns)) (some (.int (k : Nat))) (some (.ref p)) (some (netD n ts)) (some (.str (pyD (netD n ts)).shown)) (some (tupL ms)) c6 c7 c8 c9 c10 none) ∧ PoolAt p h') (fun _ _ _ => rfl) (cutD ((ts.map tri).map tupI) none (some 3)) (S12 (some (.scr ns)) (some (.int (k : Nat))) (some (.ref p)) (some (netD n ts)) (some (.str (pyD (netD n ts)).shown)) (some (tupL ms)) c6 c7 a8 a9 a10 none) h9 (fun d hd σ h hI => by
    obtain ⟨⟨c8, c9, c10, rfl⟩, P⟩ := hI
    obtain ⟨e, he, rfl⟩ := ht d hd
    obtain ⟨h', g, P'⟩ := turn9 (a0 := some (.scr ns)) (a1 := some (.int (k : Nat))) (a4 := some (.str (pyD (netD n ts)).shown)) (a5 := some (tupL ms)) (a6 := c6) (a7 := c7) (a11 := none) P T n1 he
    exact ⟨_, _, rfl, _, h', .inl g, ⟨_, _, _, rfl⟩, P'⟩) ⟨⟨_, _, _, rfl⟩, P8⟩
  refine ⟨some (.ref p), some (netD n ts), some (.str (pyD (netD n ts)).shown), some (tupL ms), c6, c7, c8, c9, c10, hA, ?_⟩
  refine seq_nx (σ' := S12 (some (.scr ns)) (some (.int (k : Nat))) (some (.ref p)) a3 a4 a5 a6 a7 a8 a9 a10 none) (h' := h1) (asg_of (d := .ref p) (h' := h1) (call2_of (x := .scr ns) (y := .int (k : Nat)) (h1 := h) (h2 := h) rfl rfl e1) rfl) ?_
  refine seq_nx (σ' := S12 (some (.scr ns)) (some (.int (k : Nat))) (some (.ref p)) (some (netD n ts)) a4 a5 a6 a7 a8 a9 a10 none) (h' := h2) (asg_of (call2_of (x := .ref p) (y := .int 7) (h1 := h1) (h2 := h1) rfl rfl e2) rfl) ?_
  refine seq_nx (σ' := S12 (some (.scr ns)) (some (.int (k : Nat))) (some (.ref p)) (some (netD n ts)) (some (.str (pyD (netD n ts)).shown)) a5 a6 a7 a8 a9 a10 none) (h' := h2) (asg_of (d := .str (pyD (netD n ts)).shown) (h' := h2) (call1_of (x := netD n ts) (h1 := h2) rfl (hr h2).1) rfl) ?_
  refine ifret (p := false) (h' := h3) (not_of (p := true) (eT_of (call1_of (x := netD n ts) (h1 := h2) rfl e3))) (fun z => nomatch z) fun _ => ?_
  refine seq_nx (for_of (it := ⟨cutD xs none (some 30), noChk⟩) (h1 := h4) (iseq_of (x := .lst (cutD xs none (some 30))) (h1 := h4) (slice_of (x := .lst xs) (h1 := h4) (h2 := h4) (h3 := h4) (call1_of (x := netD n ts) (h1 := h3) rfl e4) rfl (osome_of (h1 := h4) rfl) rfl) rfl) e5) ?_
  refine seq_nx (σ' := S12 (some (.scr ns)) (some (.int (k : Nat))) (some (.ref p)) (some (netD n ts)) (some (.str (pyD (netD n ts)).shown)) (some (tupL ms)) c6 c7 a8 a9 a10 none) (h' := h6) (asg_of (d := tupL ms) (h' := h6) (call2_of (x := .ref p) (y := netD n ts) (h1 := h5) (h2 := h5) rfl rfl e6) rfl) ?_
  refine ifret (p := false) (h' := h9) (orF_of (h' := h7) (eT_of (bin_of (x := .bl true) (y := .bl true) (h1 := h7) (h2 := h7) (callK2_of (x := tupL ms) (y := netD n ts) (h1 := h6) (h2 := h6) rfl rfl f1) rfl rfl)) (eT_of (bin_of (x := .int (wS ts ms)) (y := .int (wS ts ms)) (h1 := h8) (h2 := h9) (callK2_of (x := tupL ms) (y := netD n ts) (h1 := h7) (h2 := h7) rfl rfl f2) (call2_of (x := netD n ts) (y := tupL ms) (h1 := h8) (h2 := h8) rfl rfl f3) (ne_int_same _ _)))) (fun z => nomatch z) fun _ => ?_
  refine seq_nx (for_of (it := ⟨cutD ((ts.map tri).map tupI) none (some 3), noChk⟩) (h1 := h9) (iseq_of (x := .tup (cutD ((ts.map tri).map tupI) none (some 3))) (h1 := h9) (slice_of (x := .tup ((ts.map tri).map tupI)) (h1 := h9) (h2 := h9) (h3 := h9) (bin_of (x := netD n ts) (y := .int 1) (h1 := h9) rfl rfl rfl) rfl (osome_of (h1 := h9) rfl) rfl) rfl) eA) ?_
  exact if_f (h' := hA) (eT_of (bin_of (x := .str (pyD (netD n ts)).shown) (y := .str (pyD (netD n ts)).shown) (h1 := hA) (h2 := hA) (call1_of (x := netD n ts) (h1 := hA) rfl (hr hA).1) rfl (neO_str (hr hA).2 _))) rfl
end K02

namespace K02
open PySem PySem.Spec L2 MI
def farT : List (Int × Int × Int) := [(2, 10, 1), (3, 9, 4), (3, 10, 2), (3, 15, 0)]
theorem far_ok : NetOk 16 farT := ⟨by decide, by decide, by decide⟩
theorem non_ok : NetOk 0 [] := ⟨(fun _ z => nomatch z), List.Pairwise.nil, Nat.zero_le _⟩
theorem one_ok : NetOk 2 [(0, 1, 1)] := ⟨by decide, by decide, by decide⟩
def tailS : EvS :=
  (sSeq (sAsg (eTup (aCons (eC (.int 16)) (aCons (eTup (aCons (eTup (aCons (eC (.int 2)) (aCons (eC (.int 10)) (aCons (eC (.int 1)) aNil)))) (aCons (eTup (aCons (eC (.int 3)) (aCons (eC (.int 9)) (aCons (eC (.int 4)) aNil)))) (aCons (eTup (aCons (eC (.int 3)) (aCons (eC (.int 10)) (aCons (eC (.int 2)) aNil)))) (aCons (eTup (aCons (eC (.int 3)) (aCons (eC (.int 15)) (aCons (eC (.int 0)) aNil)))) aNil))))) aNil))) (gVar 11))
  (sSeq (sIf (bOr (eT (eBin neO (eCall d_beside (aCons (eVar 11) (aCons (eC (.int 3)) aNil))) (eLst false (aCons (eC (.int 9)) (aCons (eC (.int 10)) (aCons (eC (.int 15)) aNil)))))) (bOr (eT (eBin neO (eCall d_beside (aCons (eVar 11) (aCons (eC (.int 10)) aNil))) (eLst false (aCons (eC (.int 2)) (aCons (eC (.int 3)) aNil))))) (bNot (eT (eCall d_is_lot (aCons (eVar 11) (aCons (eTup (aCons (eTup (aCons (eC (.int 2)) (aCons (eC (.int 10)) aNil))) (aCons (eTup (aCons (eC (.int 3)) (aCons (eC (.int 9)) aNil))) aNil))) aNil))))))) (sRet (eC (.bl false))) sSkip)
  (sSeq (sIf (bOr (eT (eCall d_is_lot (aCons (eVar 11) (aCons (eTup (aCons (eTup (aCons (eC (.int 3)) (aCons (eC (.int 9)) aNil))) (aCons (eTup (aCons (eC (.int 2)) (aCons (eC (.int 10)) aNil))) aNil))) aNil)))) (bOr (bNot (eT (eCall d_is_lot (aCons (eVar 11) (aCons (eTup (aCons (eTup (aCons (eC (.int 2)) (aCons (eC (.int 10)) aNil))) (aCons (eTup (aCons (eC (.int 3)) (aCons (eC (.int 15)) aNil))) aNil))) aNil))))) (eT (eBin neO (eCall d_tie_weight (aCons (eVar 11) (aCons (eC (.int 10)) (aCons (eC (.int 3)) aNil)))) (eC (.int 2)))))) (sRet (eC (.bl false))) sSkip)
  (sRet (eAnd (eT (eBin isO (eCall d_is_lot (aCons (eTup (aCons (eC (.int 0)) (aCons (eTup aNil) aNil))) (aCons (eTup aNil) aNil))) (eC (.bl true)))) (eBin isO (eCall d_is_lot (aCons (eTup (aCons (eC (.int 2)) (aCons (eTup (aCons (eTup (aCons (eC (.int 0)) (aCons (eC (.int 1)) (aCons (eC (.int 1)) aNil)))) aNil)) aNil))) (aCons (eTup (aCons (eTup (aCons (eC (.int 0)) (aCons (eC (.bl true)) aNil))) aNil)) aNil))) (eC (.bl false))))))))
theorem nbS_of {i : Int} {ns : List Int} (e : nb farT i = ns) (h : ns.Pairwise (· ≤ ·)) : nbS farT i = ns := by
  unfold nbS
  rw [e]
  exact List.mergeSort_of_pairwise (h.imp fun h => decide_eq_true h)
theorem far_beside {i : Int} {ns : List Int} (i0 : 0 ≤ i) (i1 : i < 16) (e : nb farT i = ns) (hs : ns.Pairwise (· ≤ ·)) (h : MH) : d_beside [netD 16 farT, .int i] h = .ok (.ref h.length) (h ++ [.lst (ns.map .int)]) := by
  rw [beside_ok (fz_small (i := i) i0 (by omega)) far_ok h]
  show (if itemB 16 (.int i) = true then _ else _) = _
  rw [if_pos (item_true i0 i1), nbS_of e hs]
theorem lot_at {n : Int} {ts : List (Int × Int × Int)} {d : D} {b : Bool} (T : NetOk n ts) (hf : fz 4 10 4 d = true) (e : lotB (ts.map prI) d = b) (h : MH) : ∃ h', d_is_lot [netD n ts, d] h = .ok (.bl b) h' := by
  obtain ⟨h', e1, _⟩ := is_lot_ok (k := 2) hf (by decide) T h
  exact ⟨h', by rw [← e]; exact e1⟩
theorem tail_ok {a0 a1 a2 a3 a4 a5 a6 a7 a8 a9 a10 : Option D} (h : MH) : ∃ h', tailS (S12 a0 a1 a2 a3 a4 a5 a6 a7 a8 a9 a10 none) h = .rt (.bl true) h' := by
  -- the first test
  have q1 := far_beside (i := 3) (ns := [9, 10, 15]) (by decide) (by decide) (by decide) (by decide) h
  have g1 : (h ++ [O.lst ([9, 10, 15].map .int)])[h.length]? = some (.lst (([9, 10, 15] : List Int).map .int)) := by simp
  generalize h ++ [O.lst (([9, 10, 15] : List Int).map .int)] = h1 at q1 g1
  have q2 := far_beside (i := 10) (ns := [2, 3]) (by decide) (by decide) (by decide) (by decide) h1
  have g2 : (h1 ++ [O.lst ([2, 3].map .int)])[h1.length]? = some (.lst (([2, 3] : List Int).map .int)) := by simp
  generalize h1 ++ [O.lst (([2, 3] : List Int).map .int)] = h2 at q2 g2
  obtain ⟨h3, q3⟩ := lot_at (d := .tup [.tup [.int 2, .int 10], .tup [.int 3, .int 9]]) (b := true) far_ok (by decide +kernel) (by decide +kernel) h2
  obtain ⟨h4, q4⟩ := lot_at (d := .tup [.tup [.int 3, .int 9], .tup [.int 2, .int 10]]) (b := false) far_ok (by decide +kernel) (by decide +kernel) h3
  obtain ⟨h5, q5⟩ := lot_at (d := .tup [.tup [.int 2, .int 10], .tup [.int 3, .int 15]]) (b := true) far_ok (by decide +kernel) (by decide +kernel) h4
  obtain ⟨h6, x6, q6⟩ := tie_weight_ok (n := 16) (fz_small (i := 10) (by decide) (by decide)) (fz_small (i := 3) (by decide) (by decide)) far_ok h5
  rw [tieW_of far_ok (e := (3, 10, 2)) (by decide)] at q6
  obtain ⟨h7, q7⟩ := lot_at (d := .tup []) (b := true) non_ok (by decide +kernel) (by decide +kernel) h6
  obtain ⟨h8, q8⟩ := lot_at (d := .tup [.tup [.int 0, .bl true]]) (b := false) one_ok (by decide +kernel) (by decide +kernel) h7
  refine ⟨h8, ?_⟩
  refine seq_nx (σ' := S12 a0 a1 a2 a3 a4 a5 a6 a7 a8 a9 a10 (some (netD 16 farT))) (h' := h) (asg_of (d := netD 16 farT) (h' := h) rfl rfl) ?_
  refine ifret (p := false) (h' := h3) (orF_of (h' := h1) (eT_of (bin_of (x := .ref h.length) (y := .lst (([9, 10, 15] : List Int).map .int)) (h1 := h1) (h2 := h1) (call2_of (x := netD 16 farT) (y := .int 3) (h1 := h) (h2 := h) rfl rfl q1) rfl (neO_box g1))) (orF_of (h' := h2) (eT_of (bin_of (x := .ref h1.length) (y := .lst (([2, 3] : List Int).map .int)) (h1 := h2) (h2 := h2) (call2_of (x := netD 16 farT) (y := .int 10) (h1 := h1) (h2 := h1) rfl rfl q2) rfl (neO_box g2))) (not_of (p := true) (eT_of (call2_of (x := netD 16 farT) (y := .tup [.tup [.int 2, .int 10], .tup [.int 3, .int 9]]) (h1 := h2) (h2 := h2) rfl rfl q3))))) (fun z => nomatch z) fun _ => ?_
  refine ifret (p := false) (h' := h6) (orF_of (h' := h4) (eT_of (call2_of (x := netD 16 farT) (y := .tup [.tup [.int 3, .int 9], .tup [.int 2, .int 10]]) (h1 := h3) (h2 := h3) rfl rfl q4)) (orF_of (h' := h5) (not_of (p := true) (eT_of (call2_of (x := netD 16 farT) (y := .tup [.tup [.int 2, .int 10], .tup [.int 3, .int 15]]) (h1 := h4) (h2 := h4) rfl rfl q5))) (eT_of (bin_of (x := .int 2) (y := .int 2) (h1 := h6) (h2 := h6) (call3_of (x := netD 16 farT) (y := .int 10) (z := .int 3) (h1 := h5) (h2 := h5) (h3 := h5) rfl rfl rfl q6) rfl (ne_int_same _ _))))) (fun z => nomatch z) fun _ => ?_
  refine ret_of ?_
  have eand2 : ∀ {σ : Sl} {h h' : MH} {t : EvB} {f : Ev} {r : Res D}, t σ h = .ok true h' → f σ h' = r → eAnd t f σ h = r := fun {σ h h' t f r} e e2 => by
    unfold eAnd
    rw [e]
    exact e2
  exact eand2 (h' := h7) (eT_of (bin_of (x := .bl true) (y := .bl true) (h1 := h7) (h2 := h7) (call2_of (x := netD 0 []) (y := .tup []) (h1 := h6) (h2 := h6) rfl rfl q7) rfl rfl)) (bin_of (x := .bl false) (y := .bl false) (h1 := h8) (h2 := h8) (call2_of (x := netD 2 [(0, 1, 1)]) (y := .tup [.tup [.int 0, .bl true]]) (h1 := h7) (h2 := h7) rfl rfl q8) rfl rfl)
theorem plain : ∀ ns : List Int, ns.length ≤ 63 → ∃ h, d_law [.scr ns] [] = .ok (.bl true) h := by
  intro ns hns
  generalize hc : max (1 : Int) (min (ns.length : Nat) 16) = c
  have c0 : 0 ≤ c ∧ c ≤ 16 := by omega
  obtain ⟨σ', h', el, a1, a2, a3, a4, a5, a6, a7, a8, a9, a10, rfl⟩ := loop_inv (g := gVar 1) (b := bK) (chk := noChk) (fun σ _ => ∃ a1 a2 a3 a4 a5 a6 a7 a8 a9 a10, σ = S12 (some (.scr ns)) a1 a2 a3 a4 a5 a6 a7 a8 a9 a10 none) (fun _ _ _ => rfl) (rangeD 0 c.toNat) (S12 (some (.scr ns)) none none none none none none none none none none none) [] (fun d hd σ h hI => by
    obtain ⟨a1, a2, a3, a4, a5, a6, a7, a8, a9, a10, rfl⟩ := hI
    unfold rangeD at hd
    obtain ⟨k, hk, rfl⟩ := List.mem_map.mp hd
    have hk' := List.mem_range.mp hk
    rw [Int.zero_add]
    refine ⟨_, _, rfl, ?_⟩
    obtain ⟨b2, b3, b4, b5, b6, b7, b8, b9, b10, h', e⟩ := turnK (ns := ns) (a2 := a2) (a3 := a3) (a4 := a4) (a5 := a5) (a6 := a6) (a7 := a7) (a8 := a8) (a9 := a9) (a10 := a10) (k := k) (h := h) (by omega)
    exact ⟨_, h', .inl e, _, _, _, _, _, _, _, _, _, _, rfl⟩) ⟨_, _, _, _, _, _, _, _, _, _, rfl⟩
  obtain ⟨h2, et⟩ := tail_ok (a0 := some (.scr ns)) (a1 := a1) (a2 := a2) (a3 := a3) (a4 := a4) (a5 := a5) (a6 := a6) (a7 := a7) (a8 := a8) (a9 := a9) (a10 := a10) h'
  refine ⟨h2, fn_rt ?_⟩
  refine seq_nx (for_of (it := ⟨rangeD 0 c.toNat, noChk⟩) (h1 := []) (range1_of (acons_of (h1 := []) (x := .int c) (call2_of (x := .int 1) (y := .int (min (ns.length : Nat) 16)) (h1 := []) (h2 := []) rfl (call2_of (x := .int (ns.length : Nat)) (y := .int 16) (h1 := []) (h2 := []) (call1_of (x := .scr ns) rfl ?_) rfl rfl) ?_) rfl) ?_) el) et
  · show Res.ok (D.int ((ns.map D.int).length : Nat)) ([] : MH) = _
    rw [List.length_map]
  · rw [← hc]; rfl
  · unfold sm62
    simp only [Bool.and_eq_true, decide_eq_true_eq]
    omega
end K02

open PySem PySem.W PySem.Calls PyProof.Rows
theorem PySem.Challenge.cw_weighedpairs_k02_lots_and_ties_holds : PySem.Challenge.rw_weighedpairs_k02_lots_and_ties.Holds := by
  w_on; o_law
  refine HandSHeadRun.head_any (r := OpenLaw.row PySem.Challenge.rw_weighedpairs_k02_lots_and_ties) (q := view (OpenLaw.row PySem.Challenge.rw_weighedpairs_k02_lots_and_ties).prog [32]) (H := K02.hk) (ob := K02.ob) (M := 4000) (loose := K02.loose) (d := HandSHeadRun.topDef (OpenLaw.row PySem.Challenge.rw_weighedpairs_k02_lots_and_ties).prog 32) (kwd := []) K02.ob_eq
    (by kernel_rfl) (fun s => by kernel_rfl) K02.run (by kernel_rfl) (by kernel_rfl) (by kernel_rfl) (by rfl) (by first | assumption | decide +kernel) (by decide +kernel) ⟨rfl, rfl, rfl, rfl, rfl, by decide +kernel⟩ ?hw ?hc
  case hw => w_witness2
  case hc =>
    refine MI.law_g (l := PySem.Challenge.rw_weighedpairs_k02_lots_and_ties) (n := 63) (m := 0) (k := 7) (x := "_law_script") (nm := K02.nm0) (g := K02.d_law) rfl (by decide) (by kernel_rfl) ⟨rfl, by decide, by decide⟩ K02.plain ?F
    intro w mg fa h Y G hmg0
    obtain ⟨K, KX, c⟩ := Y
    have hmg : mg ("law" : PySem.Str) = some (.ref fa) := by
      have e : (HandSHeadRun.topDef (OpenLaw.row PySem.Challenge.rw_weighedpairs_k02_lots_and_ties).prog 32).name = ("law" : PySem.Str) := by kernel_rfl
      rw [← e]
      exact hmg0
    obtain ⟨fd, hb, hF⟩ := K02.facts (P := (PySem.Challenge.rw_weighedpairs_k02_lots_and_ties).prog) (w := w) KX G hmg c
    exact ⟨K, fd, KX, hb, hF⟩

