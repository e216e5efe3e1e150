import PyProof.Rows.All
import Wide.All
import OpenK.AllK
import Wide.FinOn
import HandS.ForMost
import HandS.ForExc
import HandS.Wide
import HandS.Defaults
import HandS.Flow
import HandS.TupAny
import HandS.Deep
import HandS.SortInts
import HandS.Zip
import HandS.HeadHook2
import HandS.HeadHook3
import HandS.HeadHook4
import KE.KDictKeyed
import KE.KDictDisplayH
import HandS.Conv
import HandS.TupLen
import HandS.ExcInit
import HandS.ExcField
import KE.KExcIs
import HandS.CallSlots
import HandS.ExcOwn
import HandS.Style
import HandS.EndBits
import HandS.Head0
import HandS.Head1
import HandS.Head2
import HandS.Head3
import HandS.Head4
import HandS.HeadEnd
import HandS.IsInst
import HandS.ReCall
import HandS.Strs
import PyProof.ListRange
import PyProof.TupleOfSeq
import PyProof.RangeFor
import KE.KEqDict
import HandS.DictEq
import KE.DataMinMax
import HandS.TryMany
import KE.KRevSl
import PySem.Challenge.RW_sameroom_k23_bad_graphs
set_option Elab.async false
set_option autoImplicit false
set_option linter.all false
set_option maxRecDepth 100000
set_option maxHeartbeats 4000000
/-! A walk by values: pure data D, outcomes, slots, and how they lie in the abstract heap. -/
namespace VM
open PySem PySem.Spec PyProof.Rows L2

/-- pure data -/
inductive D where
  | non
  | bl (b : Bool)
  | int (i : Int)
  | str (x : List Nat)
  | tup (xs : List D)
  | lst (xs : List D)
  | dic (kvs : List (D × D))
  | dki (kvs : List (Int × D))
  | obj (c : Str) (fs : List (Str × D))
  /-- an exception of the class c -/
  | xob (c : Str) (fs : List (Str × D))
  | scr (ns : List Int)

mutual
def D.py : D → PyData
  | .non => .none
  | .bl b => .bool b
  | .int i => .int i
  | .str x => .str ⟨x.toArray⟩
  | .tup xs => .tuple (D.pyAll xs)
  | .lst xs => .list (D.pyAll xs)
  | .dic _ => .none
  | .dki _ => .none
  | .obj _ _ => .none
  | .xob _ _ => .none
  | .scr _ => .none
def D.pyAll : List D → List PyData
  | [] => []
  | d :: ds => D.py d :: D.pyAll ds
end
mutual
/-- no dict, no instance within -/
def D.flat : D → Bool
  | .non => true
  | .bl _ => true
  | .int _ => true
  | .str _ => true
  | .tup xs => D.flatAll xs
  | .lst xs => D.flatAll xs
  | .dic _ => false
  | .dki _ => false
  | .obj _ _ => false
  | .xob _ _ => false
  | .scr _ => false
def D.flatAll : List D → Bool
  | [] => true
  | d :: ds => D.flat d && D.flatAll ds
end
mutual
def D.dep : D → Nat
  | .tup xs => D.depAll xs + 1
  | .lst xs => D.depAll xs + 1
  | _ => 0
def D.depAll : List D → Nat
  | [] => 0
  | d :: ds => max (D.dep d) (D.depAll ds)
end
/-- may be compared -/
def D.cmpOk (d : D) : Bool := d.flat && decide (d.dep ≤ 60)
mutual
/-- Python's == on flat data -/
def D.eqv : D → D → Bool
  | .non, .non => true
  | .bl a, .bl b => a == b
  | .bl a, .int j => (if a then 1 else 0) == j
  | .int i, .bl b => i == (if b then 1 else 0)
  | .int i, .int j => i == j
  | .str x, .str y => x == y
  | .tup xs, .tup ys => D.eqvAll xs ys
  | .lst xs, .lst ys => D.eqvAll xs ys
  | _, _ => false
def D.eqvAll : List D → List D → Bool
  | [], [] => true
  | x :: xs, y :: ys => D.eqv x y && D.eqvAll xs ys
  | _, _ => false
end

/-- what a computation comes to: no: not walked; exc: an exception of the class c with these fields -/
inductive Out (α : Type) where
  | no
  | exc (c : Str) (fs : List (Str × D))
  | ok (a : α)
def Out.bind {α β : Type} (x : Out α) (f : α → Out β) : Out β := match x with
  | .no => .no
  | .exc c fs => .exc c fs
  | .ok a => f a
@[simp] theorem Out.bind_ok {α β : Type} (a : α) (f : α → Out β) : Out.bind (.ok a) f = f a := rfl
@[simp] theorem Out.bind_no {α β : Type} (f : α → Out β) : Out.bind .no f = .no := rfl
@[simp] theorem Out.bind_exc {α β : Type} (c : Str) (fs : List (Str × D)) (f : α → Out β) : Out.bind (.exc c fs) f = .exc c fs := rfl

/-- a slot: nothing is known; a value that never changes; a list, dict, instance that this frame alone holds -/
inductive Sl where
  | no
  | fz (d : D)
  | own (d : D)
  /-- a list of lists, all of them held by this frame alone -/
  | row (dss : List (List D))
/-- a result: own: nobody else holds it -/
structure R where
  own : Bool
  d : D
abbrev Ss := List Sl

/-! ### how data lies -/
abbrev Gr (F F' : Hp) : Prop := ∀ a o, F a = some o → F' a = some o
theorem Gr.refl (F : Hp) : Gr F F := fun _ _ h => h
theorem Gr.trans {F G H : Hp} (a : Gr F G) (b : Gr G H) : Gr F H := fun x o h => b x o (a x o h)
theorem Gr.new {F : Hp} {p : Addr} {o : HO} (h : F p = none) : Gr F (upd F p o) := fun a u e => by
  rw [upd_ne (ne_of_none e h)]
  exact e
theorem Gr.free {F F' : Hp} (e : Gr F F') {p : Addr} (h : F' p = none) : F p = none := by
  cases q : F p with
  | none => rfl
  | some o =>
    rw [e p o q] at h
    cases h
theorem gr_l {K : PySem.W.Frag} {F F' : Hp} {a : Addr} {xs : List V} (e : Gr F F') (h : SqL K F a xs) : SqL K F' a xs := by
  rcases h with (h | ⟨o, h⟩) | h
  · exact .inl (.inl (e _ _ h))
  · exact .inl (.inr ⟨o, e _ _ h⟩)
  · exact .inr h
theorem gr_t {K : PySem.W.Frag} {F F' : Hp} {a : Addr} {xs : List V} (e : Gr F F') (h : SqT K F a xs) : SqT K F' a xs := by
  rcases h with (h | ⟨o, h⟩) | h
  · exact .inl (.inl (e _ _ h))
  · exact .inl (.inr ⟨o, e _ _ h⟩)
  · exact .inr h

/-- a plain tuple object -/
def tupO (its : List Value) (n : Nat) : Obj := { cls := .type "tuple", data := .seq its.toArray n }
/-- a tuple whose object is known -/
def SqX (K : PySem.W.Frag) (F : Hp) (a : Addr) (vs : List V) : Prop := (∃ its n, F a = some (.frz (tupO its n) (.tup vs))) ∨ ∃ (its : List Value) (n : Nat), K.lookup a = some (tupO its n) ∧ its.length ≤ sizeLine ∧ Vals vs its
theorem SqX.t {K : PySem.W.Frag} {F : Hp} {a : Addr} {vs : List V} (h : SqX K F a vs) : SqT K F a vs := by
  rcases h with ⟨its, n, h⟩ | ⟨its, n, h1, h2, h3⟩
  · exact .inl (.inr ⟨_, h⟩)
  · exact .inr ⟨_, its.toArray, n, h1, rfl, rfl, by simpa using h2, by simpa using h3⟩
theorem gr_x {K : PySem.W.Frag} {F F' : Hp} {a : Addr} {xs : List V} (e : Gr F F') (h : SqX K F a xs) : SqX K F' a xs := by
  rcases h with ⟨its, n, h⟩ | h
  · exact .inl ⟨its, n, e _ _ h⟩
  · exact .inr h
/-- a dict whose keys are tuples: each with its key, where its tuple stands, its value -/
def DicO (P : Program) (w : World) (a : Addr) (xs : List (NestedKey × Addr × V)) : HO := .ext fun h => (a == sysModules) = false ∧ xs.length ≤ sizeLine ∧ ∃ us : List (NestedKey × Addr × Value), Paired (fun x u => x.1 = u.1 ∧ x.2.1 = u.2.1 ∧ RelV x.2.2 u.2.2) xs us ∧
  ∃ o es ep, h.get? a = some o ∧ o.ExactDict ∧ o.data = .dict es ep ∧ es.toList = us.map (entryOfKey (nestedKind P w)) ∧ (us.map (·.1)).Nodup
mutual
/-- a value as a key -/
def D.nk : D → Option NestedKey
  | .non => some .none
  | .bl b => some (.num (if b = true then 1 else 0))
  | .int i => some (.num i)
  | .str x => some (.text ⟨x.toArray⟩)
  | .tup xs => (D.nkAll xs).map .tup
  | _ => none
def D.nkAll : List D → Option (List NestedKey)
  | [] => some []
  | d :: ds => (D.nk d).bind fun k => (D.nkAll ds).map (k :: ·)
end
/-- the written part, and what a dict is -/
structure Kp where
  K : PySem.W.Frag
  dm : Addr → List (NestedKey × Addr × V) → HO
instance : CoeOut Kp PySem.W.Frag := ⟨Kp.K⟩
@[reducible] def kq (P : Program) (w : World) (K : PySem.W.Frag) : Kp := ⟨K, DicO P w⟩
@[reducible] def kp (X : Cx) : Kp := ⟨X.K, DicO X.prog X.w⟩
/-- an exception's object: its class, its dict -/
def XoP (a C : Addr) (d : Option Addr) (h : Heap) : Prop := ∃ oe vs, h.get? a = some oe ∧ Zc (.ref C) d oe ∧ oe.data = .fields vs
/-- an exception's dict -/
def XdP (dx : Addr) (fv : List (Str × V)) (o : HO) : Prop := o = .xd fv ∨ o = exd dx fv
/-- the address of the class c of the text, its facts -/
abbrev ClsT := Str → Option Addr
mutual
inductive Rep (K : Kp) (F : Hp) : V → D → Prop
  | non : Rep K F .non .non
  | bl (b : Bool) : Rep K F (.bl b) (.bl b)
  | int (i : Int) : Rep K F (.int i) (.int i)
  | str (x : List Nat) (h : (x.all (· < 0x110000)) = true) : Rep K F (.str ⟨x.toArray⟩) (.str x)
  | tup {a : Addr} {vs : List V} {ds : List D} : SqX K F a vs → RepL K F vs ds → Rep K F (.ref a) (.tup ds)
  | lst {a : Addr} {vs : List V} {ds : List D} : F a = some (.lst vs) → RepL K F vs ds → Rep K F (.ref a) (.lst ds)
  | scr {a : Addr} {ns : List Int} : SqL K F a (ns.map V.int) → Rep K F (.ref a) (.scr ns)
  | obj {a dx : Addr} {c : Str} {fv : List (Str × V)} {fs : List (Str × D)} : F a = some (.ins (He.ga K c) dx fv) → RepF K F fv fs → Rep K F (.ref a) (.obj c fs)
  | xob {a dx : Addr} {c : Str} {fv : List (Str × V)} {fs : List (Str × D)} {φ : Heap → Prop} {o : HO} : F a = some (.ext φ) → (∀ h, φ h → XoP a (He.ga K c) (some dx) h) → F dx = some o → XdP dx fv o → RepF K F fv fs → Rep K F (.ref a) (.xob c fs)
  | xo0 {a : Addr} {c : Str} {φ : Heap → Prop} : F a = some (.ext φ) → (∀ h, φ h → XoP a (He.ga K c) none h) → Rep K F (.ref a) (.xob c [])
  | dic {a : Addr} {xs : List (NestedKey × Addr × V)} {kvs : List (D × D)} : F a = some (K.dm a xs) → RepD K F xs kvs → Rep K F (.ref a) (.dic kvs)
  | dki {a : Addr} {xs : List (Int × V)} {kvs : List (Int × D)} : F a = some (.dK (xs.map fun p => (Sum.inl p.1, p.2))) → RepI K F xs kvs → Rep K F (.ref a) (.dki kvs)
/-- the entries of a dict whose keys are ints -/
inductive RepI (K : Kp) (F : Hp) : List (Int × V) → List (Int × D) → Prop
  | nil : RepI K F [] []
  | cons {i : Int} {v : V} {xs : List (Int × V)} {d : D} {kvs : List (Int × D)} : Rep K F v d → RepI K F xs kvs → RepI K F ((i, v) :: xs) ((i, d) :: kvs)
/-- the entries of a dict -/
inductive RepD (K : Kp) (F : Hp) : List (NestedKey × Addr × V) → List (D × D) → Prop
  | nil : RepD K F [] []
  | cons {k : NestedKey} {b : Addr} {v : V} {xs : List (NestedKey × Addr × V)} {kd d : D} {kvs : List (D × D)} : D.nk kd = some k → k.depth ≤ 8 → Rep K F (.ref b) kd → Rep K F v d → RepD K F xs kvs → RepD K F ((k, b, v) :: xs) ((kd, d) :: kvs)
inductive RepL (K : Kp) (F : Hp) : List V → List D → Prop
  | nil : RepL K F [] []
  | cons {v : V} {vs : List V} {d : D} {ds : List D} : Rep K F v d → RepL K F vs ds → RepL K F (v :: vs) (d :: ds)
inductive RepF (K : Kp) (F : Hp) : List (Str × V) → List (Str × D) → Prop
  | nil : RepF K F [] []
  | cons {x : Str} {v : V} {vs : List (Str × V)} {d : D} {ds : List (Str × D)} : Rep K F v d → RepF K F vs ds → RepF K F ((x, v) :: vs) ((x, d) :: ds)
end
mutual
theorem Rep.mono {K : Kp} {F F' : Hp} (e : Gr F F') : ∀ {v : V} {d : D}, Rep K F v d → Rep K F' v d
  | _, _, .non => .non
  | _, _, .bl b => .bl b
  | _, _, .int i => .int i
  | _, _, .str x h => .str x h
  | _, _, .tup h l => .tup (gr_x e h) (RepL.mono e l)
  | _, _, .lst h l => .lst (e _ _ h) (RepL.mono e l)
  | _, _, .scr h => .scr (gr_l e h)
  | _, _, .obj h l => .obj (e _ _ h) (RepF.mono e l)
  | _, _, .xob h p k q l => .xob (e _ _ h) p (e _ _ k) q (RepF.mono e l)
  | _, _, .xo0 h p => .xo0 (e _ _ h) p
  | _, _, .dic h l => .dic (e _ _ h) (RepD.mono e l)
  | _, _, .dki h l => .dki (e _ _ h) (RepI.mono e l)
theorem RepI.mono {K : Kp} {F F' : Hp} (e : Gr F F') : ∀ {xs : List (Int × V)} {kvs : List (Int × D)}, RepI K F xs kvs → RepI K F' xs kvs
  | _, _, .nil => .nil
  | _, _, .cons h t => .cons (Rep.mono e h) (RepI.mono e t)
theorem RepD.mono {K : Kp} {F F' : Hp} (e : Gr F F') : ∀ {xs : List (NestedKey × Addr × V)} {kvs : List (D × D)}, RepD K F xs kvs → RepD K F' xs kvs
  | _, _, .nil => .nil
  | _, _, .cons a b h g t => .cons a b (Rep.mono e h) (Rep.mono e g) (RepD.mono e t)
theorem RepL.mono {K : Kp} {F F' : Hp} (e : Gr F F') : ∀ {vs : List V} {ds : List D}, RepL K F vs ds → RepL K F' vs ds
  | _, _, .nil => .nil
  | _, _, .cons h t => .cons (Rep.mono e h) (RepL.mono e t)
theorem RepF.mono {K : Kp} {F F' : Hp} (e : Gr F F') : ∀ {vs : List (Str × V)} {ds : List (Str × D)}, RepF K F vs ds → RepF K F' vs ds
  | _, _, .nil => .nil
  | _, _, .cons h t => .cons (Rep.mono e h) (RepF.mono e t)
end
section
variable {K : Kp} {F : Hp}
theorem RepL.len : ∀ {vs : List V} {ds : List D}, RepL K F vs ds → vs.length = ds.length
  | _, _, .nil => rfl
  | _, _, .cons _ t => congrArg Nat.succ (RepL.len t)
theorem RepL.app : ∀ {vs ws : List V} {ds es : List D}, RepL K F vs ds → RepL K F ws es → RepL K F (vs ++ ws) (ds ++ es)
  | _, _, _, _, .nil, s => s
  | _, _, _, _, .cons h t, s => .cons h (RepL.app t s)
theorem RepL.get : ∀ {vs : List V} {ds : List D} {i : Nat} {d : D}, RepL K F vs ds → ds[i]? = some d → ∃ v, vs[i]? = some v ∧ Rep K F v d
  | _, _, _, _, .nil, e => by simp at e
  | _, _, 0, _, .cons h _, e => by simp at e; subst e; exact ⟨_, rfl, h⟩
  | _, _, i + 1, d, .cons _ t, e => by
    obtain ⟨v, h1, h2⟩ := RepL.get (i := i) (d := d) t (by simpa using e)
    exact ⟨v, by simpa using h1, h2⟩
theorem RepL.get' : ∀ {vs : List V} {ds : List D} {i : Nat} {v : V}, RepL K F vs ds → vs[i]? = some v → ∃ d, ds[i]? = some d ∧ Rep K F v d
  | _, _, _, _, .nil, e => by simp at e
  | _, _, 0, _, .cons h _, e => by simp at e; subst e; exact ⟨_, rfl, h⟩
  | _, _, i + 1, v, .cons _ t, e => by
    obtain ⟨d, h1, h2⟩ := RepL.get' (i := i) (v := v) t (by simpa using e)
    exact ⟨d, by simpa using h1, h2⟩
theorem RepL.take : ∀ {vs : List V} {ds : List D} (n : Nat), RepL K F vs ds → RepL K F (vs.take n) (ds.take n)
  | _, _, 0, _ => .nil
  | _, _, _ + 1, .nil => .nil
  | _, _, n + 1, .cons h t => .cons h (RepL.take n t)
theorem RepL.drop : ∀ {vs : List V} {ds : List D} (n : Nat), RepL K F vs ds → RepL K F (vs.drop n) (ds.drop n)
  | _, _, 0, r => r
  | _, _, _ + 1, .nil => .nil
  | _, _, n + 1, .cons _ t => RepL.drop n t
theorem RepL.set {v : V} {d : D} (r : Rep K F v d) : ∀ {vs : List V} {ds : List D} (i : Nat), RepL K F vs ds → RepL K F (vs.set i v) (ds.set i d)
  | _, _, _, .nil => .nil
  | _, _, 0, .cons _ t => .cons r t
  | _, _, i + 1, .cons q t => .cons q (RepL.set r i t)
theorem RepL.dropLast : ∀ {vs : List V} {ds : List D}, RepL K F vs ds → RepL K F vs.dropLast ds.dropLast
  | _, _, .nil => .nil
  | _, _, .cons _ .nil => .nil
  | _, _, .cons h (.cons h2 t) => .cons h (RepL.dropLast (.cons h2 t))
theorem RepL.rev : ∀ {vs : List V} {ds : List D}, RepL K F vs ds → RepL K F vs.reverse ds.reverse
  | _, _, .nil => .nil
  | _, _, .cons h t => by
    rw [List.reverse_cons, List.reverse_cons]
    exact RepL.app (RepL.rev t) (.cons h .nil)
theorem RepL.rep {vs : List V} {ds : List D} (h : RepL K F vs ds) : ∀ k : Nat, RepL K F (List.replicate k vs).flatten (List.replicate k ds).flatten
  | 0 => .nil
  | k + 1 => by
    rw [List.replicate_succ, List.replicate_succ, List.flatten_cons, List.flatten_cons]
    exact RepL.app h (RepL.rep h k)
theorem RepL.ints : ∀ {vs : List V} {ns : List Int}, RepL K F vs (ns.map D.int) → vs = ns.map V.int
  | _, [], h => by
    cases h
    rfl
  | _, n :: ns, h => by
    cases h with
    | cons h1 h2 =>
      cases h1
      rw [RepL.ints h2]
      rfl
theorem RepL.of_ints : ∀ (ns : List Int), RepL K F (ns.map V.int) (ns.map D.int)
  | [] => .nil
  | n :: ns => .cons (.int n) (RepL.of_ints ns)
theorem RepL.bls : ∀ {vs : List V} {ns : List Bool}, RepL K F vs (ns.map D.bl) → vs = ns.map V.bl
  | _, [], h => by
    cases h
    rfl
  | _, n :: ns, h => by
    cases h with
    | cons h1 h2 =>
      cases h1
      rw [RepL.bls h2]
      rfl
/-- strs as the machine has them -/
def ms (x : List Nat) : Str := ⟨x.toArray⟩
def strOk' (x : List Nat) : Bool := x.all (· < 0x110000)
theorem RepL.strs : ∀ {vs : List V} {ns : List (List Nat)}, RepL K F vs (ns.map D.str) → vs = (ns.map ms).map V.str ∧ ∀ x ∈ ns, strOk' x = true
  | _, [], h => by
    cases h
    exact ⟨rfl, fun _ h => nomatch h⟩
  | _, n :: ns, h => by
    cases h with
    | cons h1 h2 =>
      cases h1 with
      | str _ hx =>
        obtain ⟨e, k⟩ := RepL.strs h2
        rw [e]
        refine ⟨rfl, fun x hm => ?_⟩
        rcases List.mem_cons.mp hm with rfl | hm
        · exact hx
        · exact k x hm
theorem RepL.of_strs : ∀ {ns : List (List Nat)}, (∀ x ∈ ns, strOk' x = true) → RepL K F ((ns.map ms).map V.str) (ns.map D.str)
  | [], _ => .nil
  | n :: ns, h => .cons (.str n (h n List.mem_cons_self)) (RepL.of_strs fun x hm => h x (List.mem_cons_of_mem _ hm))
end
mutual
theorem Rep.dp {K : Kp} {F : Hp} : ∀ {v : V} {d : D}, Rep K F v d → d.flat = true → Dp K F v d.py
  | _, _, .non, _ => .non
  | _, _, .bl b, _ => .bl b
  | _, _, .int i, _ => .int i
  | _, _, .str x _, _ => .str _
  | _, _, .tup h l, f => by
    rw [D.py]
    exact .tup h.t (RepL.dp l (by rw [D.flat] at f; exact f))
  | _, _, .lst h l, f => by
    rw [D.py]
    exact .lst (.inl (.inl h)) (RepL.dp l (by rw [D.flat] at f; exact f))
  | _, _, .obj _ _, f => by
    rw [D.flat] at f
    cases f
  | _, _, .xob _ _ _ _ _, f => by
    rw [D.flat] at f
    cases f
  | _, _, .xo0 _ _, f => by
    rw [D.flat] at f
    cases f
  | _, _, .dic _ _, f => by
    rw [D.flat] at f
    cases f
  | _, _, .dki _ _, f => by
    rw [D.flat] at f
    cases f
  | _, _, .scr _, f => by
    rw [D.flat] at f
    cases f
theorem RepL.dp {K : Kp} {F : Hp} : ∀ {vs : List V} {ds : List D}, RepL K F vs ds → D.flatAll ds = true → DpAll K F vs (D.pyAll ds)
  | _, _, .nil, _ => by
    rw [D.pyAll]
    exact .nil
  | _, _, .cons h t, f => by
    rw [D.flatAll, Bool.and_eq_true] at f
    rw [D.pyAll]
    exact .cons (Rep.dp h f.1) (RepL.dp t f.2)
end
mutual
theorem Rep.can {K : Kp} {F : Hp} : ∀ {v : V} {d : D}, Rep K F v d → d.flat = true → d.py.canLay0 = true
  | _, _, .non, _ => by simp [D.py, PyData.canLay0]
  | _, _, .bl b, _ => by simp [D.py, PyData.canLay0]
  | _, _, .int i, _ => by simp [D.py, PyData.canLay0]
  | _, _, .str x h, _ => by
    simp only [D.py, PyData.canLay0, PyData.strOk]
    simpa using h
  | _, _, .tup h l, f => by
    simp only [D.py, PyData.canLay0]
    exact RepL.can l (by rw [D.flat] at f; exact f)
  | _, _, .lst h l, f => by
    simp only [D.py, PyData.canLay0]
    exact RepL.can l (by rw [D.flat] at f; exact f)
  | _, _, .obj _ _, f => by
    rw [D.flat] at f
    cases f
  | _, _, .xob _ _ _ _ _, f => by
    rw [D.flat] at f
    cases f
  | _, _, .xo0 _ _, f => by
    rw [D.flat] at f
    cases f
  | _, _, .dic _ _, f => by
    rw [D.flat] at f
    cases f
  | _, _, .dki _ _, f => by
    rw [D.flat] at f
    cases f
  | _, _, .scr _, f => by
    rw [D.flat] at f
    cases f
theorem RepL.can {K : Kp} {F : Hp} : ∀ {vs : List V} {ds : List D}, RepL K F vs ds → D.flatAll ds = true → PyData.canLayAll0 (D.pyAll ds) = true
  | _, _, .nil, _ => by simp [D.pyAll, PyData.canLayAll0]
  | _, _, .cons h t, f => by
    rw [D.flatAll, Bool.and_eq_true] at f
    simp only [D.pyAll, PyData.canLayAll0, Bool.and_eq_true]
    exact ⟨Rep.can h f.1, RepL.can t f.2⟩
end
mutual
theorem D.py_depth : ∀ d : D, d.py.depth = d.dep
  | .non => by simp [D.py, PyData.depth, D.dep]
  | .bl b => by simp [D.py, PyData.depth, D.dep]
  | .int b => by simp [D.py, PyData.depth, D.dep]
  | .str b => by simp [D.py, PyData.depth, D.dep]
  | .dic b => by simp [D.py, PyData.depth, D.dep]
  | .dki b => by simp [D.py, PyData.depth, D.dep]
  | .obj b _ => by simp [D.py, PyData.depth, D.dep]
  | .xob b _ => by simp [D.py, PyData.depth, D.dep]
  | .scr _ => by simp [D.py, PyData.depth, D.dep]
  | .tup xs => by simp only [D.py, PyData.depth, D.dep]; rw [D.pyAll_depth xs]
  | .lst xs => by simp only [D.py, PyData.depth, D.dep]; rw [D.pyAll_depth xs]
theorem D.pyAll_depth : ∀ ds : List D, PyData.depthAll (D.pyAll ds) = D.depAll ds
  | [] => by simp [D.pyAll, PyData.depthAll, D.depAll]
  | d :: ds => by simp only [D.pyAll, PyData.depthAll, D.depAll]; rw [D.py_depth d, D.pyAll_depth ds]
end
theorem Rep.shaped {K : Kp} {F : Hp} {v : V} {d : D} (r : Rep K F v d) (h : d.cmpOk = true) : SeqAt.shaped d.py = true := by
  unfold D.cmpOk at h
  rw [Bool.and_eq_true, decide_eq_true_eq] at h
  unfold SeqAt.shaped
  rw [Bool.and_eq_true, decide_eq_true_eq, D.py_depth]
  exact ⟨Rep.can r h.1, by omega⟩
theorem str_beq (x y : List Nat) : ((⟨x.toArray⟩ : Str) == (⟨y.toArray⟩ : Str)) = (x == y) := by
  by_cases h : x = y
  · subst h
    simp
  · have h2 : ¬ (⟨x.toArray⟩ : Str) = ⟨y.toArray⟩ := fun e => h (by simpa using e)
    rw [beq_false_of_ne h, beq_false_of_ne h2]
mutual
theorem D.py_eqv : ∀ d e : D, d.flat = true → e.flat = true → PyData.eqv d.py e.py = D.eqv d e
  | .dic _, _, h, _ => by rw [D.flat] at h; cases h
  | .dki _, _, h, _ => by rw [D.flat] at h; cases h
  | .obj _ _, _, h, _ => by rw [D.flat] at h; cases h
  | .xob _ _, _, h, _ => by rw [D.flat] at h; cases h
  | .scr _, _, h, _ => by rw [D.flat] at h; cases h
  | .non, e, _, h => by cases e <;> first | (rw [D.flat] at h; cases h; done) | simp [D.py, PyData.eqv, D.eqv]
  | .bl _, e, _, h => by cases e <;> first | (rw [D.flat] at h; cases h; done) | simp [D.py, PyData.eqv, D.eqv]
  | .int _, e, _, h => by cases e <;> first | (rw [D.flat] at h; cases h; done) | simp [D.py, PyData.eqv, D.eqv]
  | .str x, e, _, h => by
    cases e <;> first | (rw [D.flat] at h; cases h; done) | (simp only [D.py, PyData.eqv, D.eqv]; done) | (simp only [D.py, PyData.eqv, D.eqv]; exact str_beq _ _)
  | .tup xs, e, h1, h => by
    cases e <;> first | (rw [D.flat] at h; cases h; done) | (simp only [D.py, PyData.eqv, D.eqv]; done) | (simp only [D.py, PyData.eqv, D.eqv]; rw [D.flat] at h h1; exact D.pyAll_eqv _ _ h1 h)
  | .lst xs, e, h1, h => by
    cases e <;> first | (rw [D.flat] at h; cases h; done) | (simp only [D.py, PyData.eqv, D.eqv]; done) | (simp only [D.py, PyData.eqv, D.eqv]; rw [D.flat] at h h1; exact D.pyAll_eqv _ _ h1 h)
theorem D.pyAll_eqv : ∀ ds es : List D, D.flatAll ds = true → D.flatAll es = true → PyData.eqvAll (D.pyAll ds) (D.pyAll es) = D.eqvAll ds es
  | [], [], _, _ => by simp [D.pyAll, PyData.eqvAll, D.eqvAll]
  | [], _ :: _, _, _ => by simp [D.pyAll, PyData.eqvAll, D.eqvAll]
  | _ :: _, [], _, _ => by simp [D.pyAll, PyData.eqvAll, D.eqvAll]
  | d :: ds, e :: es, h1, h2 => by
    rw [D.flatAll, Bool.and_eq_true] at h1 h2
    simp only [D.pyAll, PyData.eqvAll, D.eqvAll]
    rw [D.py_eqv d e h1.1 h2.1, D.pyAll_eqv ds es h1.2 h2.2]
end
end VM

namespace VM
open PySem PySem.Spec PyProof.Rows L2

/-! ### how the slots lie -/
inductive Own (K : Kp) (F H : Hp) (a : Addr) : D → Prop
  | lst {vs : List V} {ds : List D} : H a = some (.lst vs) → RepL K F vs ds → Own K F H a (.lst ds)
  | obj {dx : Addr} {c : Str} {fv : List (Str × V)} {fs : List (Str × D)} : H a = some (.ins (He.ga K c) dx fv) → RepF K F fv fs → Own K F H a (.obj c fs)
  | dic {xs : List (NestedKey × Addr × V)} {kvs : List (D × D)} : H a = some (K.dm a xs) → RepD K F xs kvs → Own K F H a (.dic kvs)
  | dki {xs : List (Int × V)} {kvs : List (Int × D)} : H a = some (.dK (xs.map fun p => (Sum.inl p.1, p.2))) → RepI K F xs kvs → Own K F H a (.dki kvs)
theorem Own.some {K : Kp} {F H : Hp} {a : Addr} {d : D} (h : Own K F H a d) : ∃ o, H a = some o := by
  cases h with
  | lst h _ => exact ⟨_, h⟩
  | obj h _ => exact ⟨_, h⟩
  | dic h _ => exact ⟨_, h⟩
  | dki h _ => exact ⟨_, h⟩
theorem Own.mono {K : Kp} {F F' H H' : Hp} {a : Addr} {d : D} (gf : Gr F F') (gh : Gr H H') (h : Own K F H a d) : Own K F' H' a d := by
  cases h with
  | lst h l => exact .lst (gh _ _ h) (l.mono gf)
  | obj h l => exact .obj (gh _ _ h) (l.mono gf)
  | dic h l => exact .dic (gh _ _ h) (l.mono gf)
  | dki h l => exact .dki (gh _ _ h) (l.mono gf)
structure Step (F H F' H' : Hp) : Prop where
  gf : Gr F F'
  gh : Gr H H'
  sub : Gr F' H'
  new : ∀ a o, F' a = some o → F a = some o ∨ H a = none
theorem Step.refl {F H : Hp} (h : Gr F H) : Step F H F H := ⟨.refl F, .refl H, h, fun _ _ e => .inl e⟩
theorem Step.trans {F H F1 H1 F2 H2 : Hp} (a : Step F H F1 H1) (b : Step F1 H1 F2 H2) : Step F H F2 H2 :=
  ⟨a.gf.trans b.gf, a.gh.trans b.gh, b.sub, fun x o e => by
    rcases b.new x o e with z | z
    · exact a.new x o z
    · exact .inr (a.gh.free z)⟩
/-- a new object, not frozen -/
theorem Step.newH {F H : Hp} {p : Addr} {o : HO} (g : Gr F H) (h : H p = none) : Step F H F (upd H p o) :=
  ⟨.refl F, .new h, g.trans (.new h), fun _ _ e => .inl e⟩
/-- a new object, frozen -/
theorem Step.newF {F H : Hp} {p : Addr} {o : HO} (g : Gr F H) (h : H p = none) : Step F H (upd F p o) (upd H p o) :=
  ⟨.new (g.free h), .new h, fun a u e => by
    by_cases hp : a = p
    · subst hp
      rw [upd_same] at e ⊢
      exact e
    · rw [upd_ne hp] at e ⊢
      exact g a u e, fun a u e => by
    by_cases hp : a = p
    · subst hp
      exact .inr h
    · rw [upd_ne hp] at e
      exact .inl e⟩
inductive RowsOk (K : Kp) (F H : Hp) : List Addr → List (List D) → Prop
  | nil : RowsOk K F H [] []
  | cons {r : Addr} {vs : List V} {ds : List D} {rs : List Addr} {dss : List (List D)} : H r = some (.lst vs) → RepL K F vs ds → RowsOk K F H rs dss → RowsOk K F H (r :: rs) (ds :: dss)
theorem RowsOk.mono {K : Kp} {F F' H H' : Hp} (gf : Gr F F') (gh : Gr H H') : ∀ {rs : List Addr} {dss : List (List D)}, RowsOk K F H rs dss → RowsOk K F' H' rs dss
  | _, _, .nil => .nil
  | _, _, .cons h l t => .cons (gh _ _ h) (l.mono gf) (RowsOk.mono gf gh t)
theorem RowsOk.some {K : Kp} {F H : Hp} : ∀ {rs : List Addr} {dss : List (List D)}, RowsOk K F H rs dss → ∀ x ∈ rs, ∃ o, H x = some o
  | _, _, .cons h _ t, x, hx => by
    rcases List.mem_cons.mp hx with rfl | hx
    · exact ⟨_, h⟩
    · exact RowsOk.some t x hx
  | _, _, .nil, x, hx => nomatch hx
/-- a slot that holds nothing alone -/
def Sl.light : Sl → Bool
  | .own _ => false
  | .row _ => false
  | _ => true
structure RowAt (K : Kp) (F H : Hp) (a : Addr) (rs : List Addr) (dss : List (List D)) : Prop where
  at_ : H a = some (.lst (rs.map V.ref))
  ok : RowsOk K F H rs dss
  nd : (a :: rs).Nodup
  fn : ∀ x ∈ a :: rs, F x = none
theorem RowAt.some {K : Kp} {F H : Hp} {a : Addr} {rs : List Addr} {dss : List (List D)} (h : RowAt K F H a rs dss) (x : Addr) (hx : x ∈ a :: rs) : ∃ o, H x = some o := by
  rcases List.mem_cons.mp hx with rfl | hx
  · exact ⟨_, h.at_⟩
  · exact h.ok.some x hx
theorem RowAt.step {K : Kp} {F F' H H' : Hp} {a : Addr} {rs : List Addr} {dss : List (List D)} (h : RowAt K F H a rs dss) (t : Step F H F' H') : RowAt K F' H' a rs dss where
  at_ := t.gh _ _ h.at_
  ok := h.ok.mono t.gf t.gh
  nd := h.nd
  fn := fun x hx => by
    cases q : F' x with
    | none => rfl
    | some o =>
      obtain ⟨o', z⟩ := h.some x hx
      rcases t.new x o q with y | y
      · rw [h.fn x hx] at y
        cases y
      · rw [z] at y
        cases y
structure Cp (K : Kp) (F : Hp) (S : Ss) (σ : L2.St) (H : Hp) : Prop where
  sub : Gr F H
  len : S.length = σ.length
  fz : ∀ (i : Nat) (d : D), S[i]? = some (.fz d) → ∃ v, σ[i]? = some (some v) ∧ Rep K F v d
  own : ∀ (i : Nat) (d : D), S[i]? = some (.own d) → ∃ a, σ[i]? = some (some (.ref a)) ∧ Own K F H a d ∧ F a = none
  dis : ∀ (i j : Nat) (di dj : D) (a : Addr), i ≠ j → S[i]? = some (.own di) → S[j]? = some (.own dj) → σ[i]? = some (some (.ref a)) → σ[j]? = some (some (.ref a)) → False
  row : ∀ (i : Nat) (dss : List (List D)), S[i]? = some (.row dss) → (∃ a rs, σ[i]? = some (some (.ref a)) ∧ RowAt K F H a rs dss) ∧ ∀ (j : Nat) (sl : Sl), j ≠ i → S[j]? = some sl → sl.light = true
section
variable {K : Kp} {F F' H H' : Hp} {S : Ss} {σ : L2.St}
theorem Cp.step (c : Cp K F S σ H) (t : Step F H F' H') : Cp K F' S σ H' where
  sub := t.sub
  len := c.len
  fz := fun i d e => by
    obtain ⟨v, h1, h2⟩ := c.fz i d e
    exact ⟨v, h1, h2.mono t.gf⟩
  own := fun i d e => by
    obtain ⟨a, h1, h2, h3⟩ := c.own i d e
    refine ⟨a, h1, h2.mono t.gf t.gh, ?_⟩
    cases q : F' a with
    | none => rfl
    | some o =>
      obtain ⟨o', z⟩ := h2.some
      rcases t.new a o q with y | y
      · rw [h3] at y
        cases y
      · rw [z] at y
        cases y
  dis := c.dis
  row := fun i dss e => by
    obtain ⟨⟨a, rs, h1, h2⟩, h3⟩ := c.row i dss e
    exact ⟨⟨a, rs, h1, h2.step t⟩, h3⟩
/-- a value held by a slot, or frozen -/
def Vw (K : Kp) (F : Hp) (S : Ss) (σ : L2.St) (v : V) (d : D) : Prop := Rep K F v d ∨ ∃ i : Nat, S[i]? = some (.own d) ∧ σ[i]? = some (some v)
theorem Vw.mono {v : V} {d : D} (e : Gr F F') (h : Vw K F S σ v d) : Vw K F' S σ v d := h.imp (fun z => z.mono e) id
theorem Vw.lst {v : V} {ds : List D} (h : Vw K F S σ v (.lst ds)) (c : Cp K F S σ H) : ∃ a vs, v = .ref a ∧ H a = some (.lst vs) ∧ RepL K F vs ds := by
  rcases h with h | ⟨i, h1, h2⟩
  · cases h with
    | lst h l => exact ⟨_, _, rfl, c.sub _ _ h, l⟩
  · obtain ⟨a, e, o, _⟩ := c.own i _ h1
    rw [h2] at e
    cases e
    cases o with
    | lst h l => exact ⟨_, _, rfl, h, l⟩
theorem Vw.scr {v : V} {ns : List Int} (h : Vw K F S σ v (.scr ns)) (c : Cp K F S σ H) : ∃ a, v = .ref a ∧ SqL K H a (ns.map V.int) := by
  rcases h with h | ⟨i, h1, h2⟩
  · cases h with
    | scr h => exact ⟨_, rfl, gr_l c.sub h⟩
  · obtain ⟨a, e, o, _⟩ := c.own i _ h1
    cases o
theorem Vw.tupX {v : V} {ds : List D} (h : Vw K F S σ v (.tup ds)) (c : Cp K F S σ H) : ∃ a vs, v = .ref a ∧ SqX K F a vs ∧ RepL K F vs ds := by
  rcases h with h | ⟨i, h1, h2⟩
  · cases h with
    | tup h l => exact ⟨_, _, rfl, h, l⟩
  · obtain ⟨a, e, o, _⟩ := c.own i _ h1
    cases o
theorem Vw.tup {v : V} {ds : List D} (h : Vw K F S σ v (.tup ds)) (c : Cp K F S σ H) : ∃ a vs, v = .ref a ∧ SqX K F a vs ∧ SqT K H a vs ∧ RepL K F vs ds := by
  obtain ⟨a, vs, e, h1, h2⟩ := h.tupX c
  exact ⟨a, vs, e, h1, gr_t c.sub h1.t, h2⟩
theorem Vw.int {v : V} {n : Int} (h : Vw K F S σ v (.int n)) (c : Cp K F S σ H) : v = .int n := by
  rcases h with h | ⟨i, h1, h2⟩
  · cases h
    rfl
  · obtain ⟨a, e, o, _⟩ := c.own i _ h1
    cases o
theorem Vw.bl {v : V} {n : Bool} (h : Vw K F S σ v (.bl n)) (c : Cp K F S σ H) : v = .bl n := by
  rcases h with h | ⟨i, h1, h2⟩
  · cases h
    rfl
  · obtain ⟨a, e, o, _⟩ := c.own i _ h1
    cases o
theorem Vw.non {v : V} (h : Vw K F S σ v .non) (c : Cp K F S σ H) : v = .non := by
  rcases h with h | ⟨i, h1, h2⟩
  · cases h
    rfl
  · obtain ⟨a, e, o, _⟩ := c.own i _ h1
    cases o
theorem Vw.str {v : V} {x : List Nat} (h : Vw K F S σ v (.str x)) (c : Cp K F S σ H) : v = .str (ms x) ∧ strOk' x = true := by
  rcases h with h | ⟨i, h1, h2⟩
  · cases h with
    | str _ h => exact ⟨rfl, h⟩
  · obtain ⟨a, e, o, _⟩ := c.own i _ h1
    cases o
/-- frozen or held: it may be read as data over the whole heap -/
theorem Vw.repH {v : V} {d : D} (h : Vw K F S σ v d) (c : Cp K F S σ H) : Rep K H v d := by
  rcases h with h | ⟨i, h1, h2⟩
  · exact h.mono c.sub
  · obtain ⟨a, e, o, _⟩ := c.own i _ h1
    rw [h2] at e
    cases e
    cases o with
    | lst h l => exact .lst h (l.mono c.sub)
    | obj h l => exact .obj h (l.mono c.sub)
    | dic h l => exact .dic h (l.mono c.sub)
    | dki h l => exact .dki h (l.mono c.sub)
end

/-! ### exceptions -/
def IsExc (K : Kp) (F H : Hp) (fs : List (Str × D)) (d : Option Addr) : Prop := (fs = [] ∧ d = none) ∨ ∃ a fv, d = some a ∧ F a = some (.xd fv) ∧ RepF K F fv fs
def Fin {α : Type} (K : Kp) (W : WX) (F H : Hp) (σ : L2.St) (o : Out α) (k : α → Hp → Hp → Prop) : Prop := match o with
  | .no => False
  | .exc c fs => ∀ F' H' d, Step F H F' H' → IsExc K F' H' fs d → W (.ref (He.ga K c)) d σ H'
  | .ok a => ∀ F' H', Step F H F' H' → k a F' H'
section
variable {α β : Type} {K : Kp} {W : WX} {F F' H H' : Hp} {σ : L2.St}
theorem Fin.step {o : Out α} {k : α → Hp → Hp → Prop} (t : Step F H F' H') (h : Fin K W F H σ o k) : Fin K W F' H' σ o k := by
  cases o with
  | no => exact h
  | exc c fs => exact fun F2 H2 d s e => h F2 H2 d (t.trans s) e
  | ok a => exact fun F2 H2 s => h F2 H2 (t.trans s)
theorem Fin.imp {o : Out α} {k k' : α → Hp → Hp → Prop} (h : Fin K W F H σ o k) (f : ∀ a F' H', Step F H F' H' → k a F' H' → k' a F' H') : Fin K W F H σ o k' := by
  cases o with
  | no => exact h
  | exc c fs => exact h
  | ok a => exact fun F2 H2 s => f a F2 H2 s (h F2 H2 s)
/-- one thing behind another -/
theorem Fin.bind {o : Out α} {f : α → Out β} {k : β → Hp → Hp → Prop} (h : Fin K W F H σ (o.bind f) k) : Fin K W F H σ o fun a F' H' => Fin K W F' H' σ (f a) k := by
  cases o with
  | no => exact h
  | exc c fs => exact h
  | ok a => exact fun F2 H2 s => Fin.step (o := f a) s h
theorem Fin.now {a : α} {k : α → Hp → Hp → Prop} (g : Gr F H) (h : Fin K W F H σ (.ok a) k) : k a F H := h F H (.refl g)
end
def RepR (K : Kp) (F' H' H : Hp) (v : V) (r : R) : Prop := (r.own = false ∧ Rep K F' v r.d) ∨ (r.own = true ∧ ∃ a, v = .ref a ∧ Own K F' H' a r.d ∧ H a = none ∧ F' a = none)

/-! ### judgements -/
abbrev ME := Ss → Out R
abbrev MV := Ss → Out D
abbrev MA := Ss → Out (List D)
abbrev MT := Ss → Out Bool
def tI (K : Kp) (W : WX) (m : ME) : TE := fun σ H Q => ∃ F S, Cp K F S σ H ∧ Fin K W F H σ (m S) fun r F' H' => ∀ v, RepR K F' H' H v r → Q v H'
def tZ (K : Kp) (W : WX) (m : MV) : TE := fun σ H Q => ∃ F S, Cp K F S σ H ∧ Fin K W F H σ (m S) fun d F' H' => ∀ v, Rep K F' v d → Q v H'
def tV (K : Kp) (W : WX) (m : MV) : TE := fun σ H Q => ∃ F S, Cp K F S σ H ∧ Fin K W F H σ (m S) fun d F' H' => ∀ v, Vw K F' S σ v d → Q v H'
def tT (K : Kp) (W : WX) (m : MT) : TT := fun σ H Q => ∃ F S, Cp K F S σ H ∧ Fin K W F H σ (m S) fun b F' H' => Q b H'
/-- arguments: frozen; held or frozen -/
def tA (K : Kp) (W : WX) (m : MA) : TA := fun σ H Q => ∃ F S, Cp K F S σ H ∧ Fin K W F H σ (m S) fun ds F' H' => ∀ vs, RepL K F' vs ds → Q vs H'
inductive VwL (K : Kp) (F : Hp) (S : Ss) (σ : L2.St) : List V → List D → Prop
  | nil : VwL K F S σ [] []
  | cons {v : V} {vs : List V} {d : D} {ds : List D} : Vw K F S σ v d → VwL K F S σ vs ds → VwL K F S σ (v :: vs) (d :: ds)
def tW (K : Kp) (W : WX) (m : MA) : TA := fun σ H Q => ∃ F S, Cp K F S σ H ∧ Fin K W F H σ (m S) fun ds F' H' => ∀ vs, VwL K F' S σ vs ds → Q vs H'
/-- e gives a result; a frozen value; a value to look at -/
structure JE (X : Cx) (W : WX) (e : Expr) (m : ME) : Prop where
  pe : PE X e (tI (kp X) W m)
structure JZ (X : Cx) (W : WX) (e : Expr) (m : MV) : Prop where
  pe : PE X e (tZ (kp X) W m)
structure JV (X : Cx) (W : WX) (e : Expr) (m : MV) : Prop where
  pe : PE X e (tV (kp X) W m)
structure JT (X : Cx) (W : WX) (e : Expr) (m : MT) : Prop where
  pt : PT X e (tT (kp X) W m)
structure JA (X : Cx) (W : WX) (es : List Expr) (m : MA) : Prop where
  pa : PA X es (tA (kp X) W m)
structure JW (X : Cx) (W : WX) (es : List Expr) (m : MA) : Prop where
  pa : PA X es (tW (kp X) W m)
theorem pe_imp {X : Cx} {e : Expr} {t t' : TE} (h : PE X e t) (f : ∀ σ H Q, t' σ H Q → t σ H Q) : PE X e t' := ⟨fun pins s σ H Q I q => h.run pins s σ H Q I (f σ H Q q)⟩
theorem pt_imp {X : Cx} {e : Expr} {t t' : TT} (h : PT X e t) (f : ∀ σ H Q, t' σ H Q → t σ H Q) : PT X e t' := ⟨fun pins s σ H Q I q => h.run pins s σ H Q I (f σ H Q q)⟩
theorem pa_imp {X : Cx} {e : List Expr} {t t' : TA} (h : PA X e t) (f : ∀ σ H Q, t' σ H Q → t σ H Q) : PA X e t' := ⟨fun pos pins s σ H Q I q => h.run pos pins s σ H Q I (f σ H Q q)⟩
theorem ps_imp {X : Cx} {e : Stmt} {t t' : TS} (h : PS X e t) (f : ∀ D σ H, t' D σ H → t D σ H) : PS X e t' := ⟨fun pins s σ H D I q => h.run pins s σ H D I (f D σ H q)⟩
theorem pss_imp {X : Cx} {e : List Stmt} {t t' : TS} (h : PSs X e t) (f : ∀ D σ H, t' D σ H → t D σ H) : PSs X e t' := ⟨fun pins s σ H D I q => h.run pins s σ H D I (f D σ H q)⟩

/-! ### from one to the other -/
/-- what is held alone is frozen -/
theorem freeze {K : Kp} {F H H0 : Hp} {a : Addr} {d : D} (g : Gr F H) (o : Own K F H a d) (hf : F a = none) : ∃ F2, Gr F F2 ∧ Gr F2 H ∧ (∀ b u, F2 b = some u → F b = some u ∨ b = a) ∧ Rep K F2 (.ref a) d := by
  obtain ⟨u, hu⟩ := o.some
  refine ⟨upd F a u, .new hf, fun b w e => ?_, fun b w e => ?_, ?_⟩
  · by_cases hb : b = a
    · subst hb
      rw [upd_same] at e
      cases e
      exact hu
    · rw [upd_ne hb] at e
      exact g b w e
  · by_cases hb : b = a
    · exact .inr hb
    · rw [upd_ne hb] at e
      exact .inl e
  · cases o with
    | lst h l =>
      rw [h] at hu
      cases hu
      exact .lst upd_same (l.mono (.new hf))
    | obj h l =>
      rw [h] at hu
      cases hu
      exact .obj upd_same (l.mono (.new hf))
    | dic h l =>
      rw [h] at hu
      cases hu
      exact .dic upd_same (l.mono (.new hf))
    | dki h l =>
      rw [h] at hu
      cases hu
      exact .dki upd_same (l.mono (.new hf))
/-- a result taken as a frozen value -/
theorem RepR.fz {K : Kp} {F H F' H' : Hp} {v : V} {r : R} (t : Step F H F' H') (h : RepR K F' H' H v r) : ∃ F2, Step F H F2 H' ∧ Gr F' F2 ∧ Rep K F2 v r.d := by
  rcases h with ⟨_, h⟩ | ⟨_, a, rfl, o, hn, hf⟩
  · exact ⟨F', t, .refl _, h⟩
  · obtain ⟨F2, g1, g2, g3, rp⟩ := freeze (H0 := H) t.sub o hf
    refine ⟨F2, ⟨t.gf.trans g1, t.gh, g2, fun b u e => ?_⟩, g1, rp⟩
    rcases g3 b u e with z | z
    · exact t.new b u z
    · rw [z]
      exact .inr hn
def mZ (m : ME) : MV := fun S => (m S).bind fun r => .ok r.d
def vE (m : ME) : MV := mZ m
def vVar (i : Nat) : MV := fun S => match S[i]? with
  | some (.fz d) => .ok d
  | some (.own d) => .ok d
  | _ => .no
def mVar (i : Nat) : ME := fun S => match S[i]? with
  | some (.fz d) => .ok ⟨false, d⟩
  | _ => .no
section
variable {X : Cx} {W : WX} {e : Expr} {pos : Pos}
theorem JE.z {m : ME} (h : JE X W e m) : JZ X W e (mZ m) := ⟨pe_imp h.pe fun σ H Q ⟨F, S, c, q⟩ => ⟨F, S, c, by
  unfold mZ at q
  cases hm : m S with
  | no =>
    rw [hm] at q
    exact q
  | exc x fs =>
    rw [hm] at q
    exact q
  | ok r =>
    rw [hm] at q
    intro F1 H1 t v rp
    obtain ⟨F2, t2, g, rp2⟩ := rp.fz t
    exact q F2 H1 t2 v rp2⟩⟩
theorem JE.v {m : ME} (h : JE X W e m) : JV X W e (vE m) := ⟨pe_imp h.z.pe fun σ H Q ⟨F, S, c, q⟩ => ⟨F, S, c, Fin.imp q fun d F1 H1 t z v rp => z v (.inl rp)⟩⟩
theorem jv_var {i : Nat} {x : Str} (h : PE X (.Name x pos) (tVar i)) : JV X W (.Name x pos) (vVar i) := ⟨pe_imp h fun σ H Q ⟨F, S, c, q⟩ => by
  unfold vVar at q
  cases hs : S[i]? with
  | none =>
    rw [hs] at q
    exact q.elim
  | some sl =>
    rw [hs] at q
    cases sl with
    | no => exact q.elim
    | row dss => exact q.elim
    | fz d =>
      obtain ⟨v, h1, h2⟩ := c.fz i d hs
      exact ⟨v, h1, Fin.now c.sub q v (.inl h2)⟩
    | own d =>
      obtain ⟨a, h1, h2, h3⟩ := c.own i d hs
      exact ⟨.ref a, h1, Fin.now c.sub q _ (.inr ⟨i, hs, h1⟩)⟩⟩
theorem je_var {i : Nat} {x : Str} (h : PE X (.Name x pos) (tVar i)) : JE X W (.Name x pos) (mVar i) := ⟨pe_imp h fun σ H Q ⟨F, S, c, q⟩ => by
  unfold mVar at q
  cases hs : S[i]? with
  | none =>
    rw [hs] at q
    exact q.elim
  | some sl =>
    rw [hs] at q
    cases sl with
    | no => exact q.elim
    | row dss => exact q.elim
    | fz d =>
      obtain ⟨v, h1, h2⟩ := c.fz i d hs
      exact ⟨v, h1, Fin.now c.sub q v (.inl ⟨rfl, h2⟩)⟩
    | own d => exact q.elim⟩
/-- a value that is known: a constant, a name of the module -/
def mC (d : D) : ME := fun _ => .ok ⟨false, d⟩
theorem je_c {v : V} {d : D} (h : PE X e (tC v)) (r : ∀ F, Rep (kp X) F v d) : JE X W e (mC d) := ⟨pe_imp h fun σ H Q ⟨F, S, c, q⟩ => Fin.now c.sub q v (.inl ⟨rfl, r F⟩)⟩

/-! ### arguments -/
def aNil : MA := fun _ => .ok []
def aCons (m : MV) (ms : MA) : MA := fun S => (m S).bind fun d => (ms S).bind fun ds => .ok (d :: ds)
theorem ja_nil : JA X W [] aNil := ⟨pa_imp pa_nil fun σ H Q ⟨F, S, c, q⟩ => Fin.now c.sub q [] .nil⟩
theorem jw_nil : JW X W [] aNil := ⟨pa_imp pa_nil fun σ H Q ⟨F, S, c, q⟩ => Fin.now c.sub q [] .nil⟩
theorem ja_cons {es : List Expr} {m : MV} {ms : MA} (h : JZ X W e m) (t : JA X W es ms) (hs : starEach (e :: es) X.env = (false, eval e X.env) :: starEach es X.env := by rfl) : JA X W (e :: es) (aCons m ms) :=
  ⟨pa_imp (pa_cons h.pe t.pa hs) fun σ H Q ⟨F, S, c, q⟩ => ⟨F, S, c, Fin.imp (Fin.bind q) fun d F1 H1 t1 z v rp => ⟨F1, S, c.step t1, Fin.imp (Fin.bind z) fun ds F2 H2 t2 z2 vs rps => Fin.now t2.sub z2 _ (.cons (rp.mono t2.gf) rps)⟩⟩⟩
theorem jw_cons {es : List Expr} {m : MV} {ms : MA} (h : JV X W e m) (t : JW X W es ms) (hs : starEach (e :: es) X.env = (false, eval e X.env) :: starEach es X.env := by rfl) : JW X W (e :: es) (aCons m ms) :=
  ⟨pa_imp (pa_cons h.pe t.pa hs) fun σ H Q ⟨F, S, c, q⟩ => ⟨F, S, c, Fin.imp (Fin.bind q) fun d F1 H1 t1 z v rp => ⟨F1, S, c.step t1, Fin.imp (Fin.bind z) fun ds F2 H2 t2 z2 vs rps => Fin.now t2.sub z2 _ (.cons (rp.mono t2.gf) rps)⟩⟩⟩

/-! ### operations on values -/
def kE (K : Kp) (H : Hp) (Q : VK) : R → Hp → Hp → Prop := fun r F' H' => ∀ v, RepR K F' H' H v r → Q v H'
theorem kE_mono {K : Kp} {H H1 : Hp} {Q : VK} (g : Gr H H1) {r : R} {F' H' : Hp} (h : kE K H Q r F' H') : kE K H1 Q r F' H' := fun v rp => h v (rp.imp id fun ⟨h1, a, h2, h3, h4, h5⟩ => ⟨h1, a, h2, h3, g.free h4, h5⟩)
theorem Fin.kE_mono {K : Kp} {F H H1 : Hp} {σ : L2.St} {Q : VK} {o : Out R} (g : Gr H H1) (h : Fin K W F H1 σ o (kE K H Q)) : Fin K W F H1 σ o (kE K H1 Q) := Fin.imp h fun _ _ _ _ z => VM.kE_mono g z
structure OpD (X : Cx) (W : WX) (f : Value → Value → Sem Value) (g : D → D → Out R) : Prop where
  ex : ∃ r : R2, OpR X f r ∧ ∀ F S σ H x y dx dy Q, Cp (kp X) F S σ H → Vw (kp X) F S σ x dx → Vw (kp X) F S σ y dy → Fin (kp X) W F H σ (g dx dy) (kE (kp X) H Q) → r x y H Q
structure UnD (X : Cx) (W : WX) (f : Value → Sem Value) (g : D → Out R) : Prop where
  ex : ∃ r : V → Hp → VK → Prop, UnR X f r ∧ ∀ F S σ H x dx Q, Cp (kp X) F S σ H → Vw (kp X) F S σ x dx → Fin (kp X) W F H σ (g dx) (kE (kp X) H Q) → r x H Q
structure CaD (X : Cx) (W : WX) (f : Value) (g : List D → Out R) : Prop where
  ex : ∃ r : List V → Hp → VK → Prop, CallR X f r ∧ ∀ F S σ H xs dxs Q, Cp (kp X) F S σ H → VwL (kp X) F S σ xs dxs → Fin (kp X) W F H σ (g dxs) (kE (kp X) H Q) → r xs H Q
def m2 (g : D → D → Out R) (a b : MV) : ME := fun S => (a S).bind fun x => (b S).bind fun y => g x y
def m1 (g : D → Out R) (a : MV) : ME := fun S => (a S).bind fun x => g x
def mN (g : List D → Out R) (a : MA) : ME := fun S => (a S).bind fun x => g x
theorem bin_imp {K : Kp} {W : WX} {r : R2} {g : D → D → Out R} {ma mb : MV} (hr : ∀ F S σ H x y dx dy Q, Cp K F S σ H → Vw K F S σ x dx → Vw K F S σ y dy → Fin K W F H σ (g dx dy) (kE K H Q) → r x y H Q)
    (σ : L2.St) (H : Hp) (Q : VK) (h : tI K W (m2 g ma mb) σ H Q) : tOp r (tV K W ma) (tV K W mb) σ H Q := by
  obtain ⟨F, S, c, q⟩ := h
  exact ⟨F, S, c, Fin.imp (Fin.bind q) fun x F1 H1 t1 z1 v1 r1 => ⟨F1, S, c.step t1, Fin.imp (Fin.bind z1) fun y F2 H2 t2 z2 v2 r2 => hr F2 S σ H2 v1 v2 x y Q ((c.step t1).step t2) (r1.mono t2.gf) r2 (Fin.kE_mono (t1.gh.trans t2.gh) z2)⟩⟩
theorem je_op {op : Operator} {a b : Expr} {g : D → D → Out R} {ma mb : MV} (ho : OpD X W (binaryOp op) g) (ha : JV X W a ma) (hb : JV X W b mb) : JE X W (.BinOp a op b pos) (m2 g ma mb) := by
  obtain ⟨r, h1, h2⟩ := ho.ex
  exact ⟨pe_imp (pe_op h1 ha.pe hb.pe) (bin_imp h2)⟩
theorem je_cmp {op : CmpOp} {a b : Expr} {g : D → D → Out R} {ma mb : MV} (ho : OpD X W (compareOp op) g) (ha : JV X W a ma) (hb : JV X W b mb) (hm : behindInMarks op b = false) : JE X W (.Compare a [op] [b] pos) (m2 g ma mb) := by
  obtain ⟨r, h1, h2⟩ := ho.ex
  exact ⟨pe_imp (pe_cmpR h1 ha.pe hb.pe hm) (bin_imp h2)⟩
theorem je_ix {a b : Expr} {g : D → D → Out R} {ma mb : MV} {r : R2} (h1 : IxR X r) (h2 : ∀ F S σ H x y dx dy Q, Cp (kp X) F S σ H → Vw (kp X) F S σ x dx → Vw (kp X) F S σ y dy → Fin (kp X) W F H σ (g dx dy) (kE (kp X) H Q) → r x y H Q)
    (ha : JV X W a ma) (hb : JV X W b mb) (hs : PlainIx b) : JE X W (.Subscript a b pos) (m2 g ma mb) := ⟨pe_imp (pe_ix h1 ha.pe hb.pe hs) (bin_imp h2)⟩
theorem je_un {op : UnaryOp} {a : Expr} {g : D → Out R} {ma : MV} (ho : UnD X W (unaryOp op) g) (ha : JV X W a ma) : JE X W (.UnaryOp op a pos) (m1 g ma) := by
  obtain ⟨r, h1, h2⟩ := ho.ex
  refine ⟨pe_imp (pe_un h1 ha.pe) fun σ H Q ⟨F, S, c, q⟩ => ⟨F, S, c, Fin.imp (Fin.bind q) fun x F1 H1 t1 z1 v1 r1 => h2 F1 S σ H1 v1 x Q (c.step t1) r1 (Fin.kE_mono t1.gh z1)⟩⟩
theorem ca_imp {K : Kp} {W : WX} {r : List V → Hp → VK → Prop} {g : List D → Out R} {ma : MA} (hr : ∀ F S σ H xs dxs Q, Cp K F S σ H → VwL K F S σ xs dxs → Fin K W F H σ (g dxs) (kE K H Q) → r xs H Q)
    (σ : L2.St) (H : Hp) (Q : VK) (h : tI K W (mN g ma) σ H Q) : tCB r (tW K W ma) σ H Q := by
  obtain ⟨F, S, c, q⟩ := h
  exact ⟨F, S, c, Fin.imp (Fin.bind q) fun x F1 H1 t1 z1 v1 r1 => hr F1 S σ H1 v1 x Q (c.step t1) r1 (Fin.kE_mono t1.gh z1)⟩
theorem je_callB {x : Str} {p : Pos} {id : String} {es : List Expr} {g : List D → Out R} {ma : MA} (hc : CaD X W (.builtin id) g) (hg : Gl X x) (hm : X.mg x = none) (hv : bootBuiltins x = some (.builtin id)) (ha : JW X W (e :: es) ma)
    (hn : x ≠ "__name__" := by decide) (hdb : (x == ("__debug__" : Str)) = false := by decide) (he : starEach (e :: es) X.env = (false, eval e X.env) :: starEach es X.env := by rfl) (hpl : (backTo pos (starEach es X.env)).any (·.1) = false := by rfl) :
    JE X W (.Call (.Name x p) (e :: es) [] pos) (mN g ma) := by
  obtain ⟨r, h1, h2⟩ := hc.ex
  exact ⟨pe_imp (pe_callB h1 hg hm hv ha.pa hn hdb he hpl) (ca_imp h2)⟩
theorem je_callTy {x : Str} {p : Pos} {T : String} {es : List Expr} {g : List D → Out R} {ma : MA} (hc : CaD X W (.type T) g) (hg : Gl X x) (hm : X.mg x = none) (hv : bootBuiltins x = some (.type T)) (ha : JW X W (e :: es) ma)
    (hn : x ≠ "__name__" := by decide) (hdb : (x == ("__debug__" : Str)) = false := by decide) (he : starEach (e :: es) X.env = (false, eval e X.env) :: starEach es X.env := by rfl) (hpl : (backTo pos (starEach es X.env)).any (·.1) = false := by rfl) :
    JE X W (.Call (.Name x p) (e :: es) [] pos) (mN g ma) := by
  obtain ⟨r, h1, h2⟩ := hc.ex
  exact ⟨pe_imp (pe_callTy h1 hg hm hv ha.pa hn hdb he hpl) (ca_imp h2)⟩
end
end VM

namespace VM
open PySem PySem.Spec PyProof.Rows L2

/-! ### statements -/
/-- the entry of the def that runs: what was frozen, what was tracked -/
structure Ct where
  F0 : Hp
  H0 : Hp
  /-- the instance that an __init__ makes -/
  p : Option Addr
structure Bs (K : Kp) (C : Ct) (F : Hp) (S : Ss) (σ : L2.St) (H : Hp) : Prop where
  cp : Cp K F S σ H
  st : Step C.F0 C.H0 F H
  fr : ∀ (i : Nat) (d : D) (a : Addr), S[i]? = some (.own d) → σ[i]? = some (some (.ref a)) → C.H0 a = none
  frr : ∀ (i : Nat) (dss : List (List VM.D)), S[i]? = some (.row dss) → ∃ a rs, σ[i]? = some (some (.ref a)) ∧ RowAt K F H a rs dss ∧ ∀ x ∈ a :: rs, C.H0 x = none
  pin : ∀ (x : Addr) (d : D), C.p = some x → S[0]? = some (.own d) → σ[0]? = some (some (.ref x))
/-- where an instance may be made -/
def PinOk (X : Cx) (C : Ct) : Prop := C.p = none ∨ X.N.head? = some ("self" : Str)
inductive SOut where
  | no
  | nx (S : Ss)
  | ret (r : R)
  | bk (S : Ss)
  | ct (S : Ss)
  | exc (S : Ss) (c : Str) (fs : List (Str × D))
abbrev MS := Ss → SOut
def FinS (K : Kp) (W : WX) (C : Ct) (D : Ends) (F : Hp) (o : SOut) : Prop := match o with
  | .no => False
  | .nx S => ∀ F' σ' H', Bs K C F' S σ' H' → Gr F F' → D.nx σ' H'
  | .bk S => ∀ F' σ' H', Bs K C F' S σ' H' → Gr F F' → D.bk σ' H'
  | .ct S => ∀ F' σ' H', Bs K C F' S σ' H' → Gr F F' → D.ct σ' H'
  | .ret r => ∀ v F' H', Step C.F0 C.H0 F' H' → RepR K F' H' C.H0 v r → D.rt v H'
  | .exc S c fs => ∀ F' σ' H' d, Bs K C F' S σ' H' → Gr F F' → IsExc K F' H' fs d → W (.ref (He.ga K c)) d σ' H'
def tS (K : Kp) (W : WX) (C : Ct) (m : MS) : TS := fun D σ H => ∃ F S, Bs K C F S σ H ∧ FinS K W C D F (m S)
structure JS (X : Cx) (W : WX) (st : Stmt) (m : MS) : Prop where
  ps : ∀ C, PinOk X C → PS X st (tS (kp X) W C m)
structure JSs (X : Cx) (W : WX) (st : List Stmt) (m : MS) : Prop where
  pss : ∀ C, PinOk X C → PSs X st (tS (kp X) W C m)
section
variable {K : Kp} {W : WX} {C : Ct} {D : Ends} {F F' H H' : Hp} {S : Ss} {σ : L2.St}
theorem Bs.step (b : Bs K C F S σ H) (t : Step F H F' H') : Bs K C F' S σ H' := ⟨b.cp.step t, b.st.trans t, b.fr, fun i dss e => by
  obtain ⟨a, rs, h1, h2, h3⟩ := b.frr i dss e
  exact ⟨a, rs, h1, h2.step t, h3⟩, b.pin⟩
theorem FinS.mono {o : SOut} (g : Gr F F') (h : FinS K W C D F o) : FinS K W C D F' o := by
  cases o with
  | no => exact h
  | nx S => exact fun F2 σ2 H2 b g2 => h F2 σ2 H2 b (g.trans g2)
  | bk S => exact fun F2 σ2 H2 b g2 => h F2 σ2 H2 b (g.trans g2)
  | ct S => exact fun F2 σ2 H2 b g2 => h F2 σ2 H2 b (g.trans g2)
  | ret r => exact h
  | exc S c fs => exact fun F2 σ2 H2 d b g2 => h F2 σ2 H2 d b (g.trans g2)
/-- the end of a statement through its expression's outcome -/
def ofOut {α : Type} (S : Ss) (o : Out α) (k : α → SOut) : SOut := match o with
  | .no => .no
  | .exc c fs => .exc S c fs
  | .ok a => k a
theorem FinS.out {α : Type} {o : Out α} {k : α → SOut} (b : Bs K C F S σ H) (h : FinS K W C D F (ofOut S o k)) : Fin K W F H σ o fun a F' H' => FinS K W C D F' (k a) := by
  cases o with
  | no => exact h
  | exc c fs => exact fun F2 H2 d t e => h F2 σ H2 d (b.step t) t.gf e
  | ok a => exact fun F2 H2 t => FinS.mono (o := k a) t.gf h

/-! ### slots stored -/
/-- no row among them -/
def noRow (S : Ss) : Bool := S.all fun sl => match sl with
  | .row _ => false
  | _ => true
theorem noRow_get {S : Ss} {i : Nat} {dss : List (List VM.D)} (h : noRow S = true) : S[i]? ≠ some (.row dss) := fun e => by
  have z := List.all_eq_true.mp h _ (List.mem_of_getElem? e)
  cases z
def slR (r : R) : Sl := if r.own then .own r.d else .fz r.d
theorem set_lt {α : Type} {l : List α} {i : Nat} {a b : α} (h : (l.set i a)[i]? = some b) : i < l.length := by
  have := (List.getElem?_eq_some_iff.mp h).1
  simpa using this
theorem set_self {α : Type} {l : List α} {i : Nat} {a b : α} (h : (l.set i a)[i]? = some b) : a = b := by
  have h1 := set_lt h
  rw [List.getElem?_set_self h1] at h
  exact Option.some.inj h
theorem Bs.set (b : Bs K C F S σ H) {v : V} {sl : Sl} (i : Nat) (h : match sl with
    | .no => True
    | .fz d => Rep K F v d
    | .own d => ∃ a, v = .ref a ∧ Own K F H a d ∧ F a = none ∧ C.H0 a = none ∧ ∀ (j : Nat) (d' : VM.D), j ≠ i → S[j]? = some (.own d') → σ[j]? ≠ some (some (.ref a))
    | .row _ => False) (hr : sl.light = true ∨ noRow S = true) (hp : sl.light = true ∨ i ≠ 0 ∨ C.p = none) : Bs K C F (S.set i sl) (σ.set i (some v)) H := by
  have hl : S.length = σ.length := b.cp.len
  have rw_ : ∀ (j : Nat) (dss : List (List VM.D)), (S.set i sl)[j]? = some (.row dss) → j ≠ i ∧ S[j]? = some (.row dss) := fun j dss e => by
    by_cases hj : j = i
    · subst hj
      have e2 := set_self e
      subst e2
      exact h.elim
    · rw [List.getElem?_set_ne (Ne.symm hj)] at e
      exact ⟨hj, e⟩
  refine ⟨⟨b.cp.sub, by simpa using hl, fun j d e => ?_, fun j d e => ?_, fun j k dj dk a ne ej ek aj ak => ?_, fun j dss e => ?_⟩, b.st, fun j d a e ea => ?_, fun j dss e => ?_, fun x d ex e => ?_⟩
  · by_cases hj : j = i
    · subst hj
      have e2 := set_self e
      subst e2
      refine ⟨v, ?_, h⟩
      rw [List.getElem?_set_self (by rw [← hl]; exact set_lt e)]
    · rw [List.getElem?_set_ne (Ne.symm hj)] at e ⊢
      exact b.cp.fz j d e
  · by_cases hj : j = i
    · subst hj
      have e2 := set_self e
      subst e2
      obtain ⟨a, rfl, o, hf, _, _⟩ := h
      refine ⟨a, ?_, o, hf⟩
      rw [List.getElem?_set_self (by rw [← hl]; exact set_lt e)]
    · rw [List.getElem?_set_ne (Ne.symm hj)] at e ⊢
      exact b.cp.own j d e
  · have key : ∀ (p q : Nat) (dp dq : VM.D), p ≠ q → p = i → (S.set i sl)[p]? = some (.own dp) → (S.set i sl)[q]? = some (.own dq) → (σ.set i (some v))[p]? = some (some (.ref a)) → (σ.set i (some v))[q]? = some (some (.ref a)) → False := fun p q dp dq npq hp ep eq ap aq => by
      subst hp
      have e2 := set_self ep
      subst e2
      obtain ⟨a', rfl, o, hf, _, ap'⟩ := h
      have hq : q ≠ p := Ne.symm npq
      rw [List.getElem?_set_ne npq] at eq aq
      have z := set_self ap
      cases z
      exact ap' q dq hq eq aq
    by_cases hj : j = i
    · exact key j k dj dk ne hj ej ek aj ak
    · by_cases hk : k = i
      · exact key k j dk dj (Ne.symm ne) hk ek ej ak aj
      · rw [List.getElem?_set_ne (Ne.symm hj)] at ej aj
        rw [List.getElem?_set_ne (Ne.symm hk)] at ek ak
        exact b.cp.dis j k dj dk a ne ej ek aj ak
  · obtain ⟨hj, e1⟩ := rw_ j dss e
    obtain ⟨⟨a, rs, h1, h2⟩, h3⟩ := b.cp.row j dss e1
    refine ⟨⟨a, rs, by rw [List.getElem?_set_ne (Ne.symm hj)]; exact h1, h2⟩, fun k sk hk ek => ?_⟩
    by_cases hki : k = i
    · subst hki
      have e2 := set_self ek
      subst e2
      rcases hr with z | z
      · exact z
      · exact absurd e1 (noRow_get z)
    · rw [List.getElem?_set_ne (Ne.symm hki)] at ek
      exact h3 k sk hk ek
  · by_cases hj : j = i
    · subst hj
      have e2 := set_self e
      subst e2
      obtain ⟨a', rfl, o, hf, h0, _⟩ := h
      have z := set_self ea
      cases z
      exact h0
    · rw [List.getElem?_set_ne (Ne.symm hj)] at e ea
      exact b.fr j d a e ea
  · obtain ⟨hj, e1⟩ := rw_ j dss e
    obtain ⟨a, rs, h1, h2⟩ := b.frr j dss e1
    exact ⟨a, rs, by rw [List.getElem?_set_ne (Ne.symm hj)]; exact h1, h2⟩
  · by_cases h0 : 0 = i
    · subst h0
      have e2 := set_self e
      subst e2
      rcases hp with z | z | z
      · cases z
      · exact absurd rfl z
      · rw [z] at ex
        cases ex
    · rw [List.getElem?_set_ne (Ne.symm h0)] at e ⊢
      exact b.pin x d ex e
/-- a result is stored -/
theorem Bs.setR (b : Bs K C F S σ H) (t : Step F H F' H') {v : V} {r : R} (i : Nat) (rp : RepR K F' H' H v r) (hr : r.own = false ∨ noRow S = true) (hp : i ≠ 0 ∨ C.p = none) : Bs K C F' (S.set i (slR r)) (σ.set i (some v)) H' := by
  refine (b.step t).set i ?_ (hr.imp (fun z => by unfold slR; rw [z]; rfl) id) (.inr hp)
  unfold slR
  rcases rp with ⟨e, h⟩ | ⟨e, a, rfl, o, hn, hf⟩
  · rw [e]
    exact h
  · rw [e]
    refine ⟨a, rfl, o, hf, b.st.gh.free hn, fun j d' _ ej aj => ?_⟩
    obtain ⟨a', h1, h2, _⟩ := b.cp.own j d' ej
    rw [aj] at h1
    cases h1
    obtain ⟨u, hu⟩ := h2.some
    rw [hn] at hu
    cases hu
theorem or_of {a b : Bool} (h : (!a || b) = true) : a = false ∨ b = true := by
  cases a with
  | false => exact .inl rfl
  | true => exact .inr h
theorem Bs.asR (b : Bs K C F S σ H) (t : Step F H F' H') {v : V} {r : R} (i : Nat) (rp : RepR K F' H' H v r) (hp : i ≠ 0 ∨ C.p = none) (z : FinS K W C D F' (if !r.own || noRow S then SOut.nx (S.set i (slR r)) else .no)) : D.nx (σ.set i (some v)) H' := by
  split at z
  · rename_i h
    exact z F' _ H' (b.setR t i rp (or_of h) hp) (.refl _)
  · exact z.elim
/-- a held object is changed -/
theorem Bs.mut (b : Bs K C F S σ H) {i : Nat} {a : Addr} {d d' : VM.D} {o' : HO} (hs : S[i]? = some (.own d)) (ha : σ[i]? = some (some (.ref a))) (new : Own K F (upd H a o') a d') : Bs K C F (S.set i (.own d')) σ (upd H a o') := by
  have h0 := b.fr i d a hs ha
  obtain ⟨a2, e2, ow, hf⟩ := b.cp.own i d hs
  rw [ha] at e2
  cases e2
  have hil : i < S.length := (List.getElem?_eq_some_iff.mp hs).1
  have up : ∀ (G : Hp), G a = none → Gr G H → Gr G (upd H a o') := fun G hg g x u e => by
    by_cases hx : x = a
    · subst hx
      rw [hg] at e
      cases e
    · rw [upd_ne hx]
      exact g x u e
  have oth : ∀ (j : Nat) (dj : VM.D) (c : Addr), j ≠ i → S[j]? = some (.own dj) → σ[j]? = some (some (.ref c)) → c ≠ a := fun j dj c hj ej ec z => by
    subst z
    exact b.cp.dis j i dj d c hj ej hs ec ha
  have norow : ∀ (j : Nat) (dss : List (List VM.D)), (S.set i (.own d'))[j]? ≠ some (.row dss) := fun j dss e => by
    by_cases hj : j = i
    · subst hj
      have e2 := set_self e
      cases e2
    · rw [List.getElem?_set_ne (Ne.symm hj)] at e
      have z := (b.cp.row j dss e).2 i _ (Ne.symm hj) hs
      cases z
  refine ⟨⟨up F hf b.cp.sub, by simpa using b.cp.len, fun j dj e => ?_, fun j dj e => ?_, fun j k dj dk c ne ej ek cj ck => ?_, fun j dss e => absurd e (norow j dss)⟩, ⟨b.st.gf, up _ h0 b.st.gh, up F hf b.st.sub, b.st.new⟩, fun j dj c e ec => ?_, fun j dss e => absurd e (norow j dss), fun x dx ex e => ?_⟩
  · by_cases hj : j = i
    · subst hj
      have e2 := set_self e
      cases e2
    · rw [List.getElem?_set_ne (Ne.symm hj)] at e
      exact b.cp.fz j dj e
  · by_cases hj : j = i
    · subst hj
      have e2 := set_self e
      cases e2
      exact ⟨a, ha, new, hf⟩
    · rw [List.getElem?_set_ne (Ne.symm hj)] at e
      obtain ⟨c, h1, h2, h3⟩ := b.cp.own j dj e
      have nc := oth j dj c hj e h1
      refine ⟨c, h1, ?_, h3⟩
      cases h2 with
      | lst h l => exact .lst (by rw [upd_ne nc]; exact h) l
      | obj h l => exact .obj (by rw [upd_ne nc]; exact h) l
      | dic h l => exact .dic (by rw [upd_ne nc]; exact h) l
      | dki h l => exact .dki (by rw [upd_ne nc]; exact h) l
  · have key : ∀ (p : Nat) (dp : VM.D), (S.set i (.own d'))[p]? = some (.own dp) → ∃ dp', S[p]? = some (.own dp') := fun p dp ep => by
      by_cases hp : p = i
      · subst hp
        exact ⟨d, hs⟩
      · rw [List.getElem?_set_ne (Ne.symm hp)] at ep
        exact ⟨dp, ep⟩
    obtain ⟨dj', ej'⟩ := key j dj ej
    obtain ⟨dk', ek'⟩ := key k dk ek
    exact b.cp.dis j k dj' dk' c ne ej' ek' cj ck
  · by_cases hj : j = i
    · subst hj
      rw [ha] at ec
      cases ec
      exact h0
    · rw [List.getElem?_set_ne (Ne.symm hj)] at e
      exact b.fr j dj c e ec
  · by_cases h0 : 0 = i
    · subst h0
      exact b.pin x d ex hs
    · rw [List.getElem?_set_ne (Ne.symm h0)] at e
      exact b.pin x dx ex e
/-- slots forgotten -/
def wipeS (S : Ss) : List Nat → Ss
  | [] => S
  | i :: is => (wipeS S is).set i .no
theorem wipeS_len (S : Ss) : ∀ is, (wipeS S is).length = S.length
  | [] => rfl
  | i :: is => by
    unfold wipeS
    rw [List.length_set, wipeS_len S is]
theorem wipeS_get {i : Nat} {sl : Sl} : ∀ {is : List Nat}, (wipeS S is)[i]? = some sl → sl = .no ∨ S[i]? = some sl
  | [], h => .inr h
  | j :: is, h => by
    unfold wipeS at h
    by_cases hj : i = j
    · subst hj
      exact .inl (set_self h).symm
    · rw [List.getElem?_set_ne (Ne.symm hj)] at h
      exact wipeS_get h
theorem Cp.weak {S' : Ss} (c : Cp K F S σ H) (hl : S'.length = S.length) (h : ∀ (i : Nat) (sl : Sl), S'[i]? = some sl → sl = .no ∨ S[i]? = some sl) : Cp K F S' σ H := by
  have f : ∀ (i : Nat) (d : VM.D), S'[i]? = some (.fz d) → S[i]? = some (.fz d) := fun i d e => (h i _ e).elim (fun z => nomatch z) id
  have o : ∀ (i : Nat) (d : VM.D), S'[i]? = some (.own d) → S[i]? = some (.own d) := fun i d e => (h i _ e).elim (fun z => nomatch z) id
  exact ⟨c.sub, hl.trans c.len, fun i d e => c.fz i d (f i d e), fun i d e => c.own i d (o i d e), fun i j di dj a ne ei ej => c.dis i j di dj a ne (o i di ei) (o j dj ej), fun i dss e => by
    obtain ⟨h1, h2⟩ := c.row i dss ((h i _ e).elim (fun z => nomatch z) id)
    refine ⟨h1, fun j sl hj ej => ?_⟩
    rcases h j _ ej with z | z
    · rw [z]
      rfl
    · exact h2 j sl hj z⟩
theorem Bs.weak {S' : Ss} (b : Bs K C F S σ H) (hl : S'.length = S.length) (h : ∀ (i : Nat) (sl : Sl), S'[i]? = some sl → sl = .no ∨ S[i]? = some sl) : Bs K C F S' σ H :=
  ⟨b.cp.weak hl h, b.st, fun i d a e => b.fr i d a ((h i _ e).elim (fun z => nomatch z) id), fun i dss e => b.frr i dss ((h i _ e).elim (fun z => nomatch z) id), fun x d ex e => b.pin x d ex ((h 0 _ e).elim (fun z => nomatch z) id)⟩
theorem Bs.wipe (b : Bs K C F S σ H) (is : List Nat) : Bs K C F (wipeS S is) σ H := b.weak (wipeS_len S is) fun _ _ e => wipeS_get e
/-- slots frozen -/
def frz1 (S : Ss) (i : Nat) : Ss := match S[i]? with
  | some (.own d) => S.set i (.fz d)
  | some (.row dss) => S.set i (.fz (.lst (dss.map .lst)))
  | _ => S
def frzS (S : Ss) : List Nat → Ss
  | [] => S
  | i :: is => frzS (frz1 S i) is
theorem RowsOk.repL {G : Hp} (gf : Gr F G) : ∀ {rs : List Addr} {dss : List (List VM.D)}, RowsOk K F H rs dss → (∀ r ∈ rs, G r = H r) → RepL K G (rs.map V.ref) (dss.map VM.D.lst)
  | _, _, .nil, _ => .nil
  | _, _, .cons h l t, e => .cons (.lst ((e _ List.mem_cons_self).trans h) (l.mono gf)) (RowsOk.repL gf t fun r hr => e r (List.mem_cons_of_mem _ hr))
theorem Bs.frzRow (b : Bs K C F S σ H) {i : Nat} {dss : List (List VM.D)} (hs : S[i]? = some (.row dss)) : ∃ F2, Gr F F2 ∧ Bs K C F2 (S.set i (.fz (.lst (dss.map .lst)))) σ H := by
  obtain ⟨a, rs, ha, ra, h0⟩ := b.frr i dss hs
  obtain ⟨_, hlight⟩ := b.cp.row i dss hs
  have g1 : Gr F (fun x => if x ∈ a :: rs then H x else F x) := fun x u e => by
    have hx : x ∉ a :: rs := fun m => by
      rw [ra.fn x m] at e
      cases e
    show (if x ∈ a :: rs then H x else F x) = some u
    rw [if_neg hx]
    exact e
  have g2 : Gr (fun x => if x ∈ a :: rs then H x else F x) H := fun x u e => by
    have e : (if x ∈ a :: rs then H x else F x) = some u := e
    split at e
    · exact e
    · exact b.cp.sub x u e
  have hin : ∀ x ∈ a :: rs, (if x ∈ a :: rs then H x else F x) = H x := fun x m => if_pos m
  refine ⟨_, g1, ?_⟩
  have no : ∀ (j : Nat) (d : VM.D), (S.set i (.fz (.lst (dss.map .lst))))[j]? ≠ some (.own d) := fun j d e => by
    by_cases hj : j = i
    · subst hj
      have e2 := set_self e
      cases e2
    · rw [List.getElem?_set_ne (Ne.symm hj)] at e
      have z := hlight j _ hj e
      cases z
  have nor : ∀ (j : Nat) (d : List (List VM.D)), (S.set i (.fz (.lst (dss.map .lst))))[j]? ≠ some (.row d) := fun j d e => by
    by_cases hj : j = i
    · subst hj
      have e2 := set_self e
      cases e2
    · rw [List.getElem?_set_ne (Ne.symm hj)] at e
      have z := hlight j _ hj e
      cases z
  refine ⟨⟨g2, by simpa using b.cp.len, fun j dj e => ?_, fun j dj e => absurd e (no j dj), fun j k dj dk c _ ej => absurd ej (no j dj), fun j d e => absurd e (nor j d)⟩, ⟨b.st.gf.trans g1, b.st.gh, g2, fun x u e => ?_⟩, fun j dj c e => absurd e (no j dj), fun j d e => absurd e (nor j d), fun x d _ e => absurd e (no 0 d)⟩
  · by_cases hj : j = i
    · subst hj
      have e2 := set_self e
      cases e2
      exact ⟨_, ha, .lst ((hin a List.mem_cons_self).trans ra.at_) (ra.ok.repL g1 fun r hr => hin r (List.mem_cons_of_mem _ hr))⟩
    · rw [List.getElem?_set_ne (Ne.symm hj)] at e
      obtain ⟨v, h1, h2⟩ := b.cp.fz j dj e
      exact ⟨v, h1, h2.mono g1⟩
  · have e : (if x ∈ a :: rs then H x else F x) = some u := e
    split at e
    · rename_i m
      exact .inr (h0 x m)
    · exact b.st.new x u e
theorem Bs.frz1 (b : Bs K C F S σ H) (i : Nat) : ∃ F2, Gr F F2 ∧ Bs K C F2 (frz1 S i) σ H := by
  unfold VM.frz1
  cases hs : S[i]? with
  | none => exact ⟨F, .refl F, b⟩
  | some sl =>
    cases sl with
    | no => exact ⟨F, .refl F, b⟩
    | row dss => exact b.frzRow hs
    | fz d => exact ⟨F, .refl F, b⟩
    | own d =>
      obtain ⟨a, ha, ow, hf⟩ := b.cp.own i d hs
      have h0 := b.fr i d a hs ha
      obtain ⟨F2, g1, g2, g3, rp⟩ := freeze (H0 := H) b.cp.sub ow hf
      have oth : ∀ (j : Nat) (dj : VM.D) (c : Addr), j ≠ i → S[j]? = some (.own dj) → σ[j]? = some (some (.ref c)) → c ≠ a := fun j dj c hj ej ec z => by
        subst z
        exact b.cp.dis j i dj d c hj ej hs ec ha
      have norow : ∀ (j : Nat) (dss : List (List VM.D)), (S.set i (.fz d))[j]? ≠ some (.row dss) := fun j dss e => by
        by_cases hj : j = i
        · subst hj
          have e2 := set_self e
          cases e2
        · rw [List.getElem?_set_ne (Ne.symm hj)] at e
          have z := (b.cp.row j dss e).2 i _ (Ne.symm hj) hs
          cases z
      refine ⟨F2, g1, ⟨⟨g2, by simpa using b.cp.len, fun j dj e => ?_, fun j dj e => ?_, fun j k dj dk c ne ej ek cj ck => ?_, fun j dss e => absurd e (norow j dss)⟩, ⟨b.st.gf.trans g1, b.st.gh, g2, fun c u e => ?_⟩, fun j dj c e ec => ?_, fun j dss e => absurd e (norow j dss), fun x dx ex e => ?_⟩⟩
      · by_cases hj : j = i
        · subst hj
          have e2 := set_self e
          cases e2
          exact ⟨_, ha, rp⟩
        · rw [List.getElem?_set_ne (Ne.symm hj)] at e
          obtain ⟨v, h1, h2⟩ := b.cp.fz j dj e
          exact ⟨v, h1, h2.mono g1⟩
      · by_cases hj : j = i
        · subst hj
          have e2 := set_self e
          cases e2
        · rw [List.getElem?_set_ne (Ne.symm hj)] at e
          obtain ⟨c, h1, h2, h3⟩ := b.cp.own j dj e
          refine ⟨c, h1, h2.mono g1 (.refl H), ?_⟩
          cases q : F2 c with
          | none => rfl
          | some u =>
            rcases g3 c u q with z | z
            · rw [h3] at z
              cases z
            · exact absurd z (oth j dj c hj e h1)
      · have key : ∀ (p : Nat) (dp : VM.D), (S.set i (.fz d))[p]? = some (.own dp) → S[p]? = some (.own dp) := fun p dp ep => by
          by_cases hp : p = i
          · subst hp
            have e2 := set_self ep
            cases e2
          · rw [List.getElem?_set_ne (Ne.symm hp)] at ep
            exact ep
        exact b.cp.dis j k dj dk c ne (key j dj ej) (key k dk ek) cj ck
      · rcases g3 c u e with z | z
        · exact b.st.new c u z
        · rw [z]
          exact .inr h0
      · by_cases hj : j = i
        · subst hj
          have e2 := set_self e
          cases e2
        · rw [List.getElem?_set_ne (Ne.symm hj)] at e
          exact b.fr j dj c e ec
      · by_cases h0 : 0 = i
        · subst h0
          have e2 := set_self e
          cases e2
        · rw [List.getElem?_set_ne (Ne.symm h0)] at e
          exact b.pin x dx ex e
theorem Bs.frz : ∀ (is : List Nat) {F : Hp} {S : Ss}, Bs K C F S σ H → ∃ F2, Gr F F2 ∧ Bs K C F2 (frzS S is) σ H
  | [], F, S, b => ⟨F, .refl F, b⟩
  | i :: is, F, S, b => by
    obtain ⟨F1, g1, b1⟩ := b.frz1 i
    obtain ⟨F2, g2, b2⟩ := Bs.frz is b1
    exact ⟨F2, g1.trans g2, b2⟩
end

/-! ### rules for statements -/
def seqS (a b : MS) : MS := fun S => match a S with
  | .nx S1 => b S1
  | o => o
def nxS : MS := fun S => .nx S
section
variable {X : Cx} {W : WX} {pos : Pos}
theorem jss_nil : JSs X W [] nxS := ⟨fun C hC => pss_imp pss_nil fun D σ H ⟨F, S, b, q⟩ => q F σ H b (.refl F)⟩
theorem jss_one {st : Stmt} {m : MS} (h : JS X W st m) : JSs X W [st] m := ⟨fun C hC => pss_one (h.ps C hC)⟩
theorem jss_cons {st : Stmt} {rest : List Stmt} {m ms : MS} (h : JS X W st m) (t : JSs X W rest ms) : JSs X W (st :: rest) (seqS m ms) := ⟨fun C hC => pss_imp (pss_cons (h.ps C hC) (t.pss C hC)) fun D σ H ⟨F, S, b, q⟩ => ⟨F, S, b, by
  unfold seqS at q
  cases hm : m S with
  | nx S1 =>
    rw [hm] at q
    exact fun F' σ' H' b' g => ⟨F', S1, b', FinS.mono g q⟩
  | no =>
    rw [hm] at q
    exact q
  | ret r =>
    rw [hm] at q
    exact q
  | bk r =>
    rw [hm] at q
    exact q
  | ct r =>
    rw [hm] at q
    exact q
  | exc r c fs =>
    rw [hm] at q
    exact q⟩⟩
/-- slots frozen, forgotten ahead of a statement -/
theorem js_frz {st : Stmt} {m : MS} (is : List Nat) (h : JS X W st m) : JS X W st (fun S => m (frzS S is)) := ⟨fun C hC => ps_imp (h.ps C hC) fun D σ H ⟨F, S, b, q⟩ => by
  obtain ⟨F2, g, b2⟩ := Bs.frz is b
  exact ⟨F2, _, b2, FinS.mono g q⟩⟩
theorem jss_wipe {st : List Stmt} {m : MS} (is : List Nat) (h : JSs X W st m) : JSs X W st (fun S => m (wipeS S is)) := ⟨fun C hC => pss_imp (h.pss C hC) fun D σ H ⟨F, S, b, q⟩ => ⟨F, _, b.wipe is, q⟩⟩
theorem js_pass : JS X W (.Pass pos) nxS := ⟨fun C hC => ps_imp ps_pass fun D σ H ⟨F, S, b, q⟩ => q F σ H b (.refl F)⟩
def bkS : MS := fun S => .bk S
def ctS : MS := fun S => .ct S
theorem js_break : JS X W (.Break pos) bkS := ⟨fun C hC => ps_imp ps_break fun D σ H ⟨F, S, b, q⟩ => q F σ H b (.refl F)⟩
theorem js_cont : JS X W (.Continue pos) ctS := ⟨fun C hC => ps_imp ps_continue fun D σ H ⟨F, S, b, q⟩ => q F σ H b (.refl F)⟩
def noS : MS := fun _ => .no
theorem js_never {st : Stmt} : JS X W st noS := ⟨fun C hC => ps_imp ps_never fun D σ H ⟨F, S, b, q⟩ => q⟩
/-- e alone -/
def drS (m : ME) : MS := fun S => ofOut S (m S) fun _ => .nx S
theorem js_expr {e : Expr} {m : ME} (h : JE X W e m) (hs : swapsWith e none pos.line X.env = pure false := by rfl) : JS X W (.Expr e pos) (drS m) := ⟨fun C hC => ps_imp (ps_expr h.pe hs) fun D σ H ⟨F, S, b, q⟩ =>
  ⟨F, S, b.cp, Fin.imp (FinS.out b q) fun r F1 H1 t z v rp => z F1 σ H1 (b.step t) (.refl _)⟩⟩
/-! targets -/
def tG (K : Kp) (is : List Nat) (tg : D → Ss → Option Ss) : TG := fun v σ H Q => ∃ C F S d S', Bs K C F S σ H ∧ Rep K F v d ∧ tg d S = some S' ∧ ∀ σ', Bs K C F S' σ' H → (∀ vs, (∀ i ∈ is, i ∈ vs) → wipe σ' vs = wipe σ vs) → Q σ' H
def tGs (K : Kp) (is : List Nat) (tg : List D → Ss → Option Ss) : TGs := fun vs σ H Q => ∃ C F S ds S', Bs K C F S σ H ∧ RepL K F vs ds ∧ tg ds S = some S' ∧ ∀ σ', Bs K C F S' σ' H → (∀ vs, (∀ i ∈ is, i ∈ vs) → wipe σ' vs = wipe σ vs) → Q σ' H
theorem wipe_get {σ : L2.St} {i : Nat} : ∀ {vs : List Nat}, (wipe σ vs)[i]? = if i ∈ vs then (if i < σ.length then some none else none) else σ[i]?
  | [] => by simp [wipe]
  | v :: vs => by
    unfold wipe
    by_cases h : v = i
    · subst h
      by_cases h2 : v < σ.length
      · rw [List.getElem?_set_self (by rw [wipe_length]; exact h2)]
        simp [h2]
      · rw [List.getElem?_eq_none (by rw [List.length_set, wipe_length]; omega)]
        simp [h2]
    · rw [List.getElem?_set_ne h, wipe_get (vs := vs)]
      have h' : ¬ i = v := fun e => h e.symm
      simp [h']
theorem wipe_set {σ : L2.St} {i : Nat} {x : Option V} {vs : List Nat} (h : i ∈ vs) : wipe (σ.set i x) vs = wipe σ vs := by
  refine List.ext_getElem? fun j => ?_
  rw [wipe_get, wipe_get, List.length_set]
  by_cases hj : j ∈ vs
  · rw [if_pos hj, if_pos hj]
  · rw [if_neg hj, if_neg hj, List.getElem?_set_ne]
    intro e
    subst e
    exact hj h
theorem wipe_wipe {σ : L2.St} {vs : List Nat} : wipe (wipe σ vs) vs = wipe σ vs := by
  refine List.ext_getElem? fun j => ?_
  rw [wipe_get, wipe_get, wipe_length]
  by_cases hj : j ∈ vs
  · simp only [if_pos hj]
  · simp only [if_neg hj]
structure JG (X : Cx) (e : Expr) (is : List Nat) (tg : D → Ss → Option Ss) : Prop where
  pg : PG X e (tG (kp X) is tg)
structure JGs (X : Cx) (es : List Expr) (is : List Nat) (tg : List D → Ss → Option Ss) : Prop where
  pgs : PGs X es (tGs (kp X) is tg)
theorem pg_imp {e : Expr} {t t' : TG} (h : PG X e t) (f : ∀ v σ H Q, t' v σ H Q → t v σ H Q) : PG X e t' := ⟨fun pins s σ H v u Q I r q => h.run pins s σ H v u Q I r (f v σ H Q q)⟩
theorem pgs_imp {e : List Expr} {t t' : TGs} (h : PGs X e t) (f : ∀ v σ H Q, t' v σ H Q → t v σ H Q) : PGs X e t' := ⟨fun pins s σ H v u Q I r q => h.run pins s σ H v u Q I r (f v σ H Q q)⟩
def gN (i : Nat) : D → Ss → Option Ss := fun d S => some (S.set i (.fz d))
theorem jg_name {i : Nat} {x : Str} (h : PG X (.Name x pos) (gName i)) : JG X (.Name x pos) [i] (gN i) := ⟨pg_imp h fun v σ H Q ⟨C, F, S, d, S', b, r, e, q⟩ => by
  cases e
  exact q _ (b.set (sl := .fz d) i r (.inl rfl) (.inl rfl)) fun vs hv => wipe_set (hv i List.mem_cons_self)⟩
def gsNil : List D → Ss → Option Ss := fun ds S => match ds with
  | [] => some S
  | _ => none
def gsCons (t : D → Ss → Option Ss) (u : List D → Ss → Option Ss) : List D → Ss → Option Ss := fun ds S => match ds with
  | d :: ds => (t d S).bind (u ds)
  | [] => none
def gT (t : List D → Ss → Option Ss) : D → Ss → Option Ss := fun d S => match d with
  | .tup ds => t ds S
  | _ => none
theorem jgs_nil : JGs X [] [] gsNil := ⟨pgs_imp pgs_nil fun v σ H Q ⟨C, F, S, ds, S', b, r, e, q⟩ => by
  cases ds with
  | nil =>
    cases r
    cases e
    exact ⟨rfl, q _ b fun _ _ => rfl⟩
  | cons d ds => cases e⟩
theorem jgs_cons {e : Expr} {es : List Expr} {is js : List Nat} {t : D → Ss → Option Ss} {u : List D → Ss → Option Ss} (h1 : JG X e is t) (h2 : JGs X es js u)
    (hs : (assignEach (e :: es) X.env).map (·.2) = assign e X.env :: (assignEach es X.env).map (·.2) := by rfl) : JGs X (e :: es) (is ++ js) (gsCons t u) := ⟨pgs_imp (pgs_cons h1.pg h2.pgs hs) fun v σ H Q ⟨C, F, S, ds, S', b, r, e, q⟩ => by
  cases ds with
  | nil => cases e
  | cons d ds =>
    cases r with
    | cons r1 r2 =>
      unfold gsCons at e
      simp only at e
      cases h : t d S with
      | none =>
        rw [h] at e
        cases e
      | some S1 =>
        rw [h] at e
        exact ⟨_, _, rfl, C, F, S, d, S1, b, r1, h, fun σ1 b1 w1 => ⟨C, F, S1, ds, S', b1, r2, e, fun σ2 b2 w2 => q σ2 b2 fun vs hv => (w2 vs fun i hi => hv i (List.mem_append_right _ hi)).trans (w1 vs fun i hi => hv i (List.mem_append_left _ hi))⟩⟩⟩
theorem gsLen {n : Nat} {u : List D → Ss → Option Ss} (h : ∀ ds S S', u ds S = some S' → ds.length = n) (t : D → Ss → Option Ss) : ∀ ds S S', gsCons t u ds S = some S' → ds.length = n + 1 := fun ds S S' e => by
  cases ds with
  | nil => cases e
  | cons d ds =>
    unfold gsCons at e
    simp only at e
    cases ht : t d S with
    | none =>
      rw [ht] at e
      cases e
    | some S1 =>
      rw [ht] at e
      exact congrArg Nat.succ (h ds S1 S' e)
theorem gsLen0 : ∀ ds S S', gsNil ds S = some S' → ds.length = 0 := fun ds S S' e => by
  cases ds with
  | nil => rfl
  | cons d ds => cases e
theorem jg_tup {es : List Expr} {k : Nat} {is : List Nat} {t : List D → Ss → Option Ss} {n : Nat} (hc : X.calm = true) (h : JGs X es is t) (hl : ∀ ds S S', t ds S = some S' → ds.length = n)
    (hn : (assignEach es X.env).length = n := by rfl) (hst : (assignEach es X.env).findIdx? (·.1) = none := by rfl) : JG X (.Tuple es k pos) is (gT t) := ⟨pg_imp (pg_tup hc h.pgs hn hst) fun v σ H Q ⟨C, F, S, d, S', b, r, e, q⟩ => by
  cases r with
  | tup hs hl' => exact ⟨_, _, rfl, gr_t b.cp.sub hs.t, hl'.len.trans (hl _ _ _ e), C, F, S, _, S', b, hl', e, q⟩
  | _ => cases e⟩
theorem pin_or {X : Cx} {C : Ct} {i : Nat} (hC : PinOk X C) (hq : i ≠ 0 ∨ X.N.head? ≠ some ("self" : Str)) : i ≠ 0 ∨ C.p = none := by
  rcases hq with h | h
  · exact .inl h
  · rcases hC with z | z
    · exact .inr z
    · exact absurd z h
/-- x = e -/
def asS (i : Nat) (m : ME) : MS := fun S => ofOut S (m S) fun r => if !r.own || noRow S then .nx (S.set i (slR r)) else .no
theorem js_set {i : Nat} {x : Str} {e : Expr} {m : ME} {pos' : Pos} (hN : X.N.Nodup) (hi : X.N[i]? = some x) (hx : Loc X.env.scope x) (h : JE X W e m) (hs : swapsWith e (some (.Name x pos')) pos.line X.env = pure false := by rfl) (hf : X.fn x = true ∨ X.env.scope.names.lookup x = some .local := by first | exact .inl rfl | exact .inr rfl | assumption) (hq : i ≠ 0 ∨ X.N.head? ≠ some ("self" : Str) := by first | exact .inl (by decide) | exact .inr (by decide)) :
    JS X W (.Assign [.Name x pos'] e pos) (asS i m) := ⟨fun C hC => ps_imp (ps_set hN hi hx h.pe hs hf) fun D σ H ⟨F, S, b, q⟩ =>
  ⟨F, S, b.cp, Fin.imp (FinS.out b q) fun r F1 H1 t z v rp => b.asR t i rp (pin_or hC hq) z⟩⟩
/-- a, b = e -/
def agS (tg : D → Ss → Option Ss) (m : MV) : MS := fun S => ofOut S (m S) fun d => match tg d S with
  | some S1 => .nx S1
  | none => .no
theorem js_asg {tg e : Expr} {is : List Nat} {m : MV} {g : D → Ss → Option Ss} (h : JZ X W e m) (hg : JG X tg is g) (hs : swapsWithSole [tg] e pos.line X.env = pure false := by rfl) (hw : swappedStores [tg] e X.env = pure none := by rfl) (h1 : (assignEach [tg] X.env).map (·.2) = [assign tg X.env] := by rfl) : JS X W (.Assign [tg] e pos) (agS g m) := ⟨fun C hC => ps_imp (ps_asg h.pe hg.pg hs hw h1) fun D σ H ⟨F, S, b, q⟩ =>
  ⟨F, S, b.cp, Fin.imp (FinS.out b q) fun d F1 H1 t z v rp => by
    cases hg1 : g d S with
    | none =>
      rw [hg1] at z
      exact z.elim
    | some S1 =>
      rw [hg1] at z
      exact ⟨C, F1, S, d, S1, b.step t, rp, hg1, fun σ' b' _ => z F1 σ' H1 b' (.refl _)⟩⟩⟩
/-- return e; return x, x held; return -/
def reS (m : ME) : MS := fun S => ofOut S (m S) fun r => .ret r
theorem js_ret {e : Expr} {m : ME} (h : JE X W e m) : JS X W (.Return (some e) pos) (reS m) := ⟨fun C hC => ps_imp (ps_ret h.pe) fun D σ H ⟨F, S, b, q⟩ =>
  ⟨F, S, b.cp, Fin.imp (FinS.out b q) fun r F1 H1 t z v rp => z v F1 H1 (b.st.trans t) (rp.imp id fun ⟨h1, a, h2, h3, h4, h5⟩ => ⟨h1, a, h2, h3, b.st.gh.free h4, h5⟩)⟩⟩
def rvS (i : Nat) : MS := fun S => match S[i]? with
  | some (.fz d) => .ret ⟨false, d⟩
  | some (.own d) => .ret ⟨true, d⟩
  | _ => .no
theorem js_retv {i : Nat} {x : Str} {p : Pos} (h : PE X (.Name x p) (tVar i)) : JS X W (.Return (some (.Name x p)) pos) (rvS i) := ⟨fun C hC => ps_imp (ps_ret h) fun D σ H ⟨F, S, b, q⟩ => by
  unfold rvS at q
  cases hs : S[i]? with
  | none =>
    rw [hs] at q
    exact q.elim
  | some sl =>
    rw [hs] at q
    cases sl with
    | no => exact q.elim
    | row dss => exact q.elim
    | fz d =>
      obtain ⟨v, h1, h2⟩ := b.cp.fz i d hs
      exact ⟨v, h1, q v F H b.st (.inl ⟨rfl, h2⟩)⟩
    | own d =>
      obtain ⟨a, h1, h2, h3⟩ := b.cp.own i d hs
      exact ⟨.ref a, h1, q _ F H b.st (.inr ⟨rfl, a, rfl, h2, b.fr i d a hs h1, h3⟩)⟩⟩
def rnS : MS := fun _ => .ret ⟨false, .non⟩
theorem js_retn : JS X W (.Return none pos) rnS := ⟨fun C hC => ps_imp ps_retN fun D σ H ⟨F, S, b, q⟩ => q _ F H b.st (.inl ⟨rfl, .non⟩)⟩
def ifS (t : MT) (a b : MS) : MS := fun S => ofOut S (t S) fun k => if k then a S else b S
theorem js_if {c : Expr} {a b : List Stmt} {t : MT} {ma mb : MS} (hc : JT X W c t) (ha : JSs X W a ma) (hb : JSs X W b mb) : JS X W (.If c a b pos) (ifS t ma mb) := ⟨fun C hC => ps_imp (ps_if hc.pt (ha.pss C hC) (hb.pss C hC)) fun D σ H ⟨F, S, b, q⟩ =>
  ⟨F, S, b.cp, Fin.imp (FinS.out b q) fun k F1 H1 t z => by
    cases k with
    | true => exact ⟨F1, S, b.step t, z⟩
    | false => exact ⟨F1, S, b.step t, z⟩⟩⟩
/-! while -/
def whL (ks : List Nat) (t : MT) (body : MS) : Nat → MS
  | 0 => noS
  | n + 1 => fun S => ofOut S (t S) fun k => if k then (match body S with
      | .nx S1 => whL ks t body n (wipeS S1 ks)
      | .ct S1 => whL ks t body n (wipeS S1 ks)
      | .bk S1 => .nx (wipeS S1 ks)
      | o => o) else .nx S
def whS (n : Nat) (ks : List Nat) (t : MT) (body : MS) : MS := fun S => whL ks t body n (wipeS S ks)
theorem js_while (n : Nat) (ks : List Nat) {c : Expr} {body : List Stmt} {t : MT} {m : MS} (hp : PassesOwn (model X.prog X.w) X.A X.env X.xe) (hc : JT X W c t) (hb : JSs X W body m) : JS X W (.While c body [] pos) (whS n ks t m) := ⟨fun C hC => ps_imp (ps_while hp hc.pt (hb.pss C hC)) fun D σ H ⟨F, S, b, q⟩ => by
  refine ⟨fun k σ H => ∃ F S, Bs (kp X) C F S σ H ∧ FinS (kp X) W C D F (whL ks t m k S), ⟨n, F, _, b.wipe ks, q⟩, ?_⟩
  rintro k σ H ⟨F, S, b, q⟩
  cases k with
  | zero => exact q.elim
  | succ k =>
    unfold whL at q
    refine ⟨F, S, b.cp, Fin.imp (FinS.out b q) fun y F1 H1 t1 z => ?_⟩
    have b1 := b.step t1
    cases y with
    | false => exact z F1 σ H1 b1 (.refl _)
    | true =>
      refine ⟨fun σ' H' => ∃ F S, Bs (kp X) C F S σ' H' ∧ FinS (kp X) W C D F (whL ks t m k S), fun σ' H' w => ⟨k, Nat.lt_succ_self k, w⟩, ?_⟩
      simp only [if_true] at z ⊢
      refine ⟨F1, S, b1, ?_⟩
      cases hm : m S with
      | no =>
        rw [hm] at z
        exact z
      | nx S1 =>
        rw [hm] at z
        exact fun F' σ' H' b' g => ⟨F', _, b'.wipe ks, FinS.mono g z⟩
      | ct S1 =>
        rw [hm] at z
        exact fun F' σ' H' b' g => ⟨F', _, b'.wipe ks, FinS.mono g z⟩
      | bk S1 =>
        rw [hm] at z
        exact fun F' σ' H' b' g => z F' σ' H' (b'.wipe ks) g
      | ret r =>
        rw [hm] at z
        exact z
      | exc r c fs =>
        rw [hm] at z
        exact z⟩
/-! for -/
/-- what is walked gives these -/
def ItOk (K : Kp) (F1 : Hp) (J : It) (ds : List D) : Prop := ∀ F H, Gr F1 F → Gr F H → (∀ (i : Nat) (d : D), ds[i]? = some d → J.go i H ∧ ∀ x H', J.yld i H x H' → ∃ F', Step F H F' H' ∧ Rep K F' x d) ∧ ∀ i, ds.length ≤ i → J.stop i H
structure JI (X : Cx) (W : WX) (tg iter : Expr) (m : MA) : Prop where
  ex : ∃ wi, PI X tg iter wi ∧ ∀ F S σ H R, Cp (kp X) F S σ H → Fin (kp X) W F H σ (m S) (fun ds F1 H1 => ∀ J, ItOk (kp X) F1 J ds → R J H1) → wi σ H R
def foL (ks : List Nat) (tg : D → Ss → Option Ss) (body : MS) : List D → MS
  | [] => fun S => .nx S
  | d :: ds => fun S => match tg d S with
    | none => .no
    | some S1 => match body S1 with
      | .nx S2 => foL ks tg body ds (wipeS S2 ks)
      | .ct S2 => foL ks tg body ds (wipeS S2 ks)
      | .bk S2 => .nx (wipeS S2 ks)
      | o => o
def foS (ks : List Nat) (tg : D → Ss → Option Ss) (it : MA) (body : MS) : MS := fun S => ofOut S (it S) fun ds => foL ks tg body ds (wipeS S ks)
theorem js_for (ks : List Nat) {is : List Nat} {tg iter : Expr} {body : List Stmt} {mi : MA} {g : D → Ss → Option Ss} {m : MS} (hp : PassesOwn (model X.prog X.w) X.A X.env X.xe) (hc : X.calm = true) (hi : JI X W tg iter mi) (hg : JG X tg is g) (hb : JSs X W body m)
    (hs : ∀ x, foldedSetIterable iter X.env x = pure x := by intro _; rfl) : JS X W (.For tg iter body [] pos) (foS ks g mi m) := ⟨fun C hC => by
  obtain ⟨wi, h1, h2⟩ := hi.ex
  refine ps_imp (ps_for hp hc h1 hg.pg (hb.pss C hC) hs) fun D σ H ⟨F, S, b, q⟩ => ?_
  refine h2 F S σ H _ b.cp (Fin.imp (FinS.out b q) fun ds F1 H1 t1 z J ok => ?_)
  have b1 := b.step t1
  refine ⟨fun i k σ H => k = ds.length - i ∧ i ≤ ds.length ∧ ∃ F S, Gr F1 F ∧ Bs (kp X) C F S σ H ∧ FinS (kp X) W C D F (foL ks g m (ds.drop i) S), ⟨ds.length, by simp, Nat.zero_le _, F1, _, .refl _, b1.wipe ks, by simpa using z⟩, ?_⟩
  rintro i k σ H ⟨rfl, hi, F, S, g1, b, q⟩
  obtain ⟨ok1, ok2⟩ := ok F H g1 b.cp.sub
  by_cases hlt : i < ds.length
  · have hd : ds[i]? = some ds[i] := List.getElem?_eq_getElem hlt
    obtain ⟨go, yl⟩ := ok1 i _ hd
    refine .inr ⟨go, fun σ' H' => ∃ F S, Gr F1 F ∧ Bs (kp X) C F S σ' H' ∧ FinS (kp X) W C D F (foL ks g m (ds.drop (i + 1)) S), fun σ' H' w => ⟨ds.length - (i + 1), by omega, rfl, hlt, w⟩, fun x H' y => ?_⟩
    obtain ⟨F2, t2, rp⟩ := yl x H' y
    rw [List.drop_eq_getElem_cons hlt] at q
    unfold foL at q
    cases hg1 : g ds[i] S with
    | none =>
      rw [hg1] at q
      exact q.elim
    | some S1 =>
      rw [hg1] at q
      refine ⟨C, F2, S, ds[i], S1, b.step t2, rp, hg1, fun σ3 b3 _ => ⟨F2, S1, b3, ?_⟩⟩
      have q2 := FinS.mono t2.gf q
      simp only at q2
      cases hm : m S1 with
      | no =>
        rw [hm] at q2
        exact q2
      | nx S2 =>
        rw [hm] at q2
        exact fun F' σ' H' b' gg => ⟨F', _, g1.trans (t2.gf.trans gg), b'.wipe ks, FinS.mono gg q2⟩
      | ct S2 =>
        rw [hm] at q2
        exact fun F' σ' H' b' gg => ⟨F', _, g1.trans (t2.gf.trans gg), b'.wipe ks, FinS.mono gg q2⟩
      | bk S2 =>
        rw [hm] at q2
        exact fun F' σ' H' b' gg => q2 F' σ' H' (b'.wipe ks) gg
      | ret r =>
        rw [hm] at q2
        exact q2
      | exc r c fs =>
        rw [hm] at q2
        exact q2
  · have e : i = ds.length := by omega
    subst e
    refine .inl ⟨ok2 _ (Nat.le_refl _), ?_⟩
    rw [List.drop_length] at q
    exact q F σ H b (.refl _)⟩
end
end VM

namespace VM
open PySem PySem.Spec PyProof.Rows L2

/-! ### defs -/
def finO (o : SOut) : Out R := match o with
  | .nx _ => .ok ⟨false, .non⟩
  | .ret r => .ok r
  | .exc _ c fs => .exc c fs
  | _ => .no
/-- the slots at a def's entry: n names in all -/
def inS (n : Nat) (ds : List D) : Ss := ds.map Sl.fz ++ List.replicate (n - ds.length) Sl.no
/-- what a def of n parameters promises -/
def spD (K : Kp) (n : Nat) (g : List D → Out R) : Sp := fun vs H Q E => ∃ F ds, Gr F H ∧ RepL K F vs ds ∧ ds.length = n ∧ match g ds with
  | .no => False
  | .ok r => ∀ v F' H', Step F H F' H' → RepR K F' H' H v r → Q v H'
  | .exc c fs => ∀ F' H' d, Step F H F' H' → IsExc K F' H' fs d → E (.ref (He.ga K c)) d H'
theorem RepL.slots {K : Kp} {F : Hp} : ∀ {vs : List V} {ds : List D}, RepL K F vs ds → ∀ (i : Nat) (d : D), (ds.map Sl.fz)[i]? = some (.fz d) → ∃ v, (vs.map some)[i]? = some (some v) ∧ Rep K F v d := fun {vs ds} r i d e => by
  rw [List.getElem?_map] at e
  cases h : ds[i]? with
  | none =>
    rw [h] at e
    cases e
  | some d' =>
    rw [h] at e
    cases e
    obtain ⟨v, h1, h2⟩ := r.get h
    exact ⟨v, by rw [List.getElem?_map, h1] <;> rfl, h2⟩
theorem cp_start {K : Kp} {F H : Hp} {N : List Str} {vs : List V} {ds : List D} (g : Gr F H) (r : RepL K F vs ds) : Bs K ⟨F, H, none⟩ F (inS N.length ds) (L2.start N vs) H := by
  have hl := r.len
  have no : ∀ (i : Nat) (d : D), (inS N.length ds)[i]? ≠ some (.own d) := fun i d e => by
    unfold inS at e
    by_cases hi : i < (ds.map Sl.fz).length
    · rw [List.getElem?_append_left hi, List.getElem?_map] at e
      cases h : ds[i]? with
      | none =>
        rw [h] at e
        cases e
      | some d' =>
        rw [h] at e
        cases e
    · rw [List.getElem?_append_right (Nat.le_of_not_lt hi), List.getElem?_replicate] at e
      split at e <;> cases e
  have nor : ∀ (i : Nat) (d : List (List D)), (inS N.length ds)[i]? ≠ some (.row d) := fun i d e => by
    unfold inS at e
    by_cases hi : i < (ds.map Sl.fz).length
    · rw [List.getElem?_append_left hi, List.getElem?_map] at e
      cases h : ds[i]? with
      | none =>
        rw [h] at e
        cases e
      | some d' =>
        rw [h] at e
        cases e
    · rw [List.getElem?_append_right (Nat.le_of_not_lt hi), List.getElem?_replicate] at e
      split at e <;> cases e
  refine ⟨⟨g, ?_, fun i d e => ?_, fun i d e => absurd e (no i d), fun i j di dj a _ e => absurd e (no i di), fun i d e => absurd e (nor i d)⟩, .refl g, fun i d a e => absurd e (no i d), fun i d e => absurd e (nor i d), fun x d ex => nomatch ex⟩
  · unfold inS L2.start
    rw [List.length_append, List.length_append, List.length_map, List.length_map, List.length_replicate, List.length_replicate, hl]
  · unfold inS at e
    by_cases hi : i < (ds.map Sl.fz).length
    · rw [List.getElem?_append_left hi] at e
      obtain ⟨v, h1, h2⟩ := r.slots i d e
      refine ⟨v, ?_, h2⟩
      unfold L2.start
      rw [List.getElem?_append_left (by rw [List.length_map] at hi ⊢; omega)]
      exact h1
    · rw [List.getElem?_append_right (Nat.le_of_not_lt hi), List.getElem?_replicate] at e
      split at e <;> cases e
section
variable {P : Program} {w : World} {K : PySem.W.Frag} {mg : Str → Option Value} {base : Heap}
/-- a def of the text, by its body's judgement -/
theorem fn_ok {x qual : Str} {params : Arguments} {body : List Stmt} {scope : Scope} {dvs : List V} {kws : List (Str × V)} {f : Addr} {fd : FuncData} {N ps : List Str} {k n : Nat} {m : MS} {g : List D → Out R}
    (F : FunD K x qual params body scope dvs kws f fd) (S : FnScope N ps scope) (hn : ps.length = n) (hg : ∀ ds, ds.length = n → finO (m (inS N.length ds)) = g ds)
    (hb : ∀ (cdv : Value) (A : Around) (outer : List Env) (s : Shared) (H : Hp) (E : XK), Room k (A.deeper (envOfC qual scope s.heap.objs.size f cdv)) →
      JSs (cxOf (L2.CX P w) P w K mg base N qual scope f cdv A outer s H E) (fun cls d _ H' => E cls d H') body m) :
    FnOk P w K mg base (L2.CX P w) (k + 1) f fd ps (spD (kq P w K) n g) := by
  refine F.ok S (fun vs H Q E ⟨F, ds, _, r, hl, _⟩ => by rw [r.len, hl, hn]) fun cdv A outer s H vs Q E hr ⟨F1, ds, g1, r, hl, h⟩ => ?_
  refine ⟨_, (hb cdv A outer s H E hr).pss ⟨F1, H, none⟩ (.inl rfl), F1, _, cp_start g1 r, ?_⟩
  have e := hg ds hl
  rw [← e] at h
  cases hm : m (inS N.length ds) with
  | no =>
    rw [hm] at h
    exact h
  | nx S' =>
    rw [hm] at h
    exact fun F' σ' H' b gg => h .non F' H' b.st (.inl ⟨rfl, .non⟩)
  | ret r' =>
    rw [hm] at h
    exact h
  | bk S' =>
    rw [hm] at h
    exact h.elim
  | ct S' =>
    rw [hm] at h
    exact h.elim
  | exc S' c fs =>
    rw [hm] at h
    exact fun F' σ' H' d b _ ie => h F' H' d b.st ie
end
/-! ### calls -/
section
variable {X : Cx} {W : WX} {pos : Pos}
theorem RepL.appV {K : Kp} {F : Hp} {vs ws : List V} {ds es : List D} (h : RepL K F vs ds) (h2 : ∀ F, RepL K F ws es) : RepL K F (vs ++ ws) (ds ++ es) := h.app (h2 F)
theorem call_imp {K : Kp} {W : WX} {n : Nat} {g : List D → Out R} {ma : MA} {dvs : List V} {dds : List D} (hd : ∀ F, RepL K F dvs dds) (hn : ∀ ds, (∃ S, ma S = .ok ds) → (ds ++ dds).length = n) (σ : L2.St) (H : Hp) (Q : VK)
    (h : tI K W (mN (fun ds => g (ds ++ dds)) ma) σ H Q) : tCallSD (spD K n g) dvs (WE W) (tA K W ma) σ H Q := by
  obtain ⟨F, S, c, q⟩ := h
  refine ⟨F, S, c, ?_⟩
  have q2 := Fin.bind q
  cases hm : ma S with
  | no =>
    rw [hm] at q2
    exact q2
  | exc x fs =>
    rw [hm] at q2
    exact q2
  | ok ds =>
    rw [hm] at q2
    intro F1 H1 t1 vs rp
    have z := q2 F1 H1 t1
    refine ⟨F1, ds ++ dds, t1.sub, rp.app (hd F1), hn ds ⟨S, hm⟩, ?_⟩
    cases hg : g (ds ++ dds) with
    | no =>
      have z : Fin K W F1 H1 σ (g (ds ++ dds)) _ := z
      rw [hg] at z
      exact z
    | exc c fs =>
      have z : Fin K W F1 H1 σ (g (ds ++ dds)) _ := z
      rw [hg] at z
      exact fun F' H' d st ie => z F' H' d st ie
    | ok r =>
      have z : Fin K W F1 H1 σ (g (ds ++ dds)) _ := z
      rw [hg] at z
      exact fun v F' H' st rr => z F' H' st v (rr.imp id fun ⟨h1, a, h2, h3, h4, h5⟩ => ⟨h1, a, h2, h3, t1.gh.free h4, h5⟩)
/-- the number of arguments -/
inductive ALen : MA → Nat → Prop
  | nil : ALen aNil 0
  | cons {m : MV} {ms : MA} {n : Nat} : ALen ms n → ALen (aCons m ms) (n + 1)
theorem ALen.len {ma : MA} {n : Nat} (h : ALen ma n) : ∀ S ds, ma S = .ok ds → ds.length = n := by
  induction h with
  | nil =>
    intro S ds e
    cases e
    rfl
  | cons h ih =>
    rename_i m ms n
    intro S ds e
    unfold aCons at e
    cases h1 : m S with
    | no =>
      rw [h1] at e
      cases e
    | exc c fs =>
      rw [h1] at e
      cases e
    | ok d =>
      rw [h1] at e
      cases h2 : ms S with
      | no =>
        rw [h2] at e
        cases e
      | exc c fs =>
        rw [h2] at e
        cases e
      | ok ds' =>
        rw [h2] at e
        cases e
        exact congrArg Nat.succ (ih S ds' h2)
theorem je_call {k n j : Nat} {f : Addr} {fd : FuncData} {ps : List Str} {g : List D → Out R} {x : Str} {p : Pos} {e : Expr} {es : List Expr} {ma : MA} {ds : List Value} {dvs : List V} {dds : List D}
    (F : FnOk X.prog X.w X.K X.mg X.base (L2.CX X.prog X.w) k f fd ps (spD (kp X) n g)) (hr : Room k X.A) (hg : Gl X x) (hm : X.mg x = some (.ref f)) (hk : PySem.W.keepIn (kp X) (.ref f) = true) (hb : Binds (kp X) fd ps ds) (hd : Vals dvs ds) (tk : Takes X W)
    (hdd : ∀ F, RepL (kp X) F dvs dds) (ha : JA X W (e :: es) ma) (hl : ALen ma j) (hn : j + dds.length = n) (hdb : (x == ("__debug__" : Str)) = false := by decide) (he : starEach (e :: es) X.env = (false, eval e X.env) :: starEach es X.env := by rfl) (hpl : (backTo pos (starEach es X.env)).any (·.1) = false := by rfl) :
    JE X W (.Call (.Name x p) (e :: es) [] pos) (mN (fun ds => g (ds ++ dds)) ma) :=
  ⟨pe_imp (pe_callSD F hr hg hm hk hb hd (fun σ => passAt tk σ) ha.pa hdb he hpl) (call_imp hdd fun ds ⟨S, e⟩ => by rw [List.length_append, hl.len S ds e, hn])⟩
/-- f(e, ..), every parameter written -/
theorem je_calln {k n : Nat} {f : Addr} {fd : FuncData} {ps : List Str} {g : List D → Out R} {x : Str} {p : Pos} {e : Expr} {es : List Expr} {ma : MA}
    (F : FnOk X.prog X.w X.K X.mg X.base (L2.CX X.prog X.w) k f fd ps (spD (kp X) n g)) (hr : Room k X.A) (hg : Gl X x) (hm : X.mg x = some (.ref f)) (hk : PySem.W.keepIn (kp X) (.ref f) = true) (hb : Binds (kp X) fd ps []) (tk : Takes X W)
    (ha : JA X W (e :: es) ma) (hl : ALen ma n) (hdb : (x == ("__debug__" : Str)) = false := by decide) (he : starEach (e :: es) X.env = (false, eval e X.env) :: starEach es X.env := by rfl) (hpl : (backTo pos (starEach es X.env)).any (·.1) = false := by rfl) :
    JE X W (.Call (.Name x p) (e :: es) [] pos) (mN g ma) := by
  have h := je_call (p := p) (pos := pos) (dds := []) F hr hg hm hk hb .nil tk (fun F => .nil) ha hl rfl hdb he hpl
  have e2 : (fun ds : List D => g (ds ++ [])) = g := funext fun ds => by rw [List.append_nil]
  rw [e2] at h
  exact h
theorem pe_call0SD {k : Nat} {f : Addr} {fd : FuncData} {ps : List Str} {sp : Sp} {E : L2.St → XK} {x : Str} {p : Pos} (F : FnOk X.prog X.w X.K X.mg X.base (L2.CX X.prog X.w) k f fd ps sp) (hr : Room k X.A) (hg : Gl X x) (hm : X.mg x = some (.ref f)) (hk : PySem.W.keepIn (kp X) (.ref f) = true) (hb : Binds (kp X) fd ps []) (hx : ∀ σ, PassesAt (L2.CX X.prog X.w) X σ (E σ))
    (hdb : (x == ("__debug__" : Str)) = false := by decide) : PE X (.Call (.Name x p) [] [] pos) (tCallSD sp [] E tNil) := by
  refine ⟨fun pins s σ H Q I h => ?_⟩
  refine wpAny_Call_Name_kw (ld_glob I hg hm ?_ hdb)
  exact PySem.W.callWith_K0 I.kIn hk (run_fnSD (us := []) F hr hb .nil (hx σ) I .nil h)
def mK (g : Out R) : ME := fun _ => g
theorem je_call0 {k : Nat} {f : Addr} {fd : FuncData} {g : List D → Out R} {x : Str} {p : Pos}
    (F : FnOk X.prog X.w X.K X.mg X.base (L2.CX X.prog X.w) k f fd [] (spD (kp X) 0 g)) (hr : Room k X.A) (hg : Gl X x) (hm : X.mg x = some (.ref f)) (hk : PySem.W.keepIn (kp X) (.ref f) = true) (hb : Binds (kp X) fd [] []) (tk : Takes X W)
    (hdb : (x == ("__debug__" : Str)) = false := by decide) : JE X W (.Call (.Name x p) [] [] pos) (mK (g [])) := ⟨pe_imp (pe_call0SD F hr hg hm hk hb (fun σ => passAt tk σ) hdb) fun σ H Q ⟨F, S, c, q⟩ => by
  refine ⟨F, [], c.sub, .nil, rfl, ?_⟩
  unfold mK at q
  cases hg : g [] with
  | no =>
    rw [hg] at q
    exact q
  | exc c fs =>
    rw [hg] at q
    exact fun F' H' d st ie => q F' H' d st ie
  | ok r =>
    rw [hg] at q
    exact fun v F' H' st rr => q F' H' st v rr⟩

/-! ### tests -/
def tB' (m : MV) : MT := fun S => (m S).bind fun d => match d with
  | .bl b => .ok b
  | _ => .no
def tNotB (m : MT) : MT := fun S => (m S).bind fun b => .ok (!b)
def tAndB (m k : MT) : MT := fun S => (m S).bind fun b => if b then k S else .ok false
def tOrB (m k : MT) : MT := fun S => (m S).bind fun b => if b then .ok true else k S
theorem jt_val {e : Expr} {m : ME} (h : JE X W e m) (he : ∀ whole, isTrue e X.env whole = (do let v ← whole; standAt e.pos; holding [v] (truthy v)) := by intro _; rfl) : JT X W e (tB' (mZ m)) := ⟨pt_imp (pt_val h.z.pe he) fun σ H Q ⟨F, S, c, q⟩ => ⟨F, S, c, by
  refine Fin.imp (Fin.bind q) fun d F1 H1 t z v rp => ?_
  cases d with
  | bl b =>
    cases rp
    exact ⟨b, rfl, Fin.now t.sub z⟩
  | _ => exact z.elim⟩⟩
theorem jt_cmp {op : CmpOp} {a b : Expr} {g : D → D → Out R} {ma mb : MV} (ho : OpD X W (compareOp op) g) (ha : JV X W a ma) (hb : JV X W b mb) (hm : behindInMarks op b = false) : JT X W (.Compare a [op] [b] pos) (tB' (mZ (m2 g ma mb))) := by
  obtain ⟨r, h1, h2⟩ := ho.ex
  refine ⟨pt_imp (pt_cmpR h1 ha.pe hb.pe hm) fun σ H Q ⟨F, S, c, q⟩ => ?_⟩
  refine bin_imp h2 σ H _ ⟨F, S, c, ?_⟩
  have q2 := Fin.bind q
  unfold mZ at q2
  cases hm : m2 g ma mb S with
  | no =>
    rw [hm] at q2
    exact q2
  | exc x fs =>
    rw [hm] at q2
    exact q2
  | ok r =>
    rw [hm] at q2
    intro F1 H1 t v rp
    obtain ⟨F2, t2, g2, rp2⟩ := rp.fz t
    have z := q2 F2 H1 t2
    cases hd : r.d with
    | bl b =>
      rw [hd] at z rp2
      cases rp2
      exact ⟨b, rfl, Fin.now t2.sub z⟩
    | _ =>
      rw [hd] at z
      exact z.elim
theorem jt_not {a : Expr} {m : MT} (h : JT X W a m) : JT X W (.UnaryOp .Not a pos) (tNotB m) := ⟨pt_imp (pt_not h.pt) fun σ H Q ⟨F, S, c, q⟩ => ⟨F, S, c, Fin.imp (Fin.bind q) fun b F1 H1 t z => Fin.now t.sub z⟩⟩
/-- chains of and, or -/
structure JWt (X : Cx) (W : WX) (e : Expr) (m : MT) : Prop where
  pw : PW X e (tT (kp X) W m)
theorem pw_imp {e : Expr} {t t' : TT} (h : PW X e t) (f : ∀ σ H Q, t' σ H Q → t σ H Q) : PW X e t' := ⟨fun whole pins s σ H Q I q => h.run whole pins s σ H Q I (f σ H Q q)⟩
theorem jw_and1 {a : Expr} {m : MT} (h : JT X W a m) : JWt X W (.BoolOp .And [a] pos) m := ⟨pw_and1 h.pt⟩
theorem jw_or1 {a : Expr} {m : MT} (h : JT X W a m) : JWt X W (.BoolOp .Or [a] pos) m := ⟨pw_or1 h.pt⟩
theorem jw_and {a b : Expr} {rest : List Expr} {m k : MT} (h : JT X W a m) (t : JWt X W (.BoolOp .And (b :: rest) pos) k) : JWt X W (.BoolOp .And (a :: b :: rest) pos) (tAndB m k) := ⟨pw_imp (pw_and h.pt t.pw) fun σ H Q ⟨F, S, c, q⟩ => ⟨F, S, c, Fin.imp (Fin.bind q) fun b F1 H1 t z => by
  cases b with
  | true => exact ⟨F1, S, c.step t, z⟩
  | false => exact Fin.now t.sub z⟩⟩
theorem jw_or {a b : Expr} {rest : List Expr} {m k : MT} (h : JT X W a m) (t : JWt X W (.BoolOp .Or (b :: rest) pos) k) : JWt X W (.BoolOp .Or (a :: b :: rest) pos) (tOrB m k) := ⟨pw_imp (pw_or h.pt t.pw) fun σ H Q ⟨F, S, c, q⟩ => ⟨F, S, c, Fin.imp (Fin.bind q) fun b F1 H1 t z => by
  cases b with
  | false => exact ⟨F1, S, c.step t, z⟩
  | true => exact Fin.now t.sub z⟩⟩
theorem JWt.t {e : Expr} {m : MT} (h : JWt X W e m) : JT X W e m := ⟨h.pw.pt⟩
/-! and, or, not as values -/
def mB (m : MT) : ME := fun S => (m S).bind fun b => .ok ⟨false, .bl b⟩
def mNotV (m : MV) : ME := fun S => (m S).bind fun d => match d with
  | .bl b => .ok ⟨false, .bl (!b)⟩
  | _ => .no
theorem je_notV {a : Expr} {m : MV} (h : JZ X W a m) : JE X W (.UnaryOp .Not a pos) (mNotV m) := ⟨pe_imp (pe_not h.pe) fun σ H Q ⟨F, S, c, q⟩ => ⟨F, S, c, by
  refine Fin.imp (Fin.bind q) fun d F1 H1 t z v rp => ?_
  cases d with
  | bl b =>
    cases rp
    exact ⟨b, rfl, Fin.now t.sub z _ (.inl ⟨rfl, .bl _⟩)⟩
  | _ => exact z.elim⟩⟩
/-- a if t else b -/
def mIf (t : MT) (a b : ME) : ME := fun S => (t S).bind fun k => if k then a S else b S
theorem je_if {c a b : Expr} {t : MT} {ma mb : ME} (hc : JT X W c t) (ha : JE X W a ma) (hb : JE X W b mb) : JE X W (.IfExp c a b pos) (mIf t ma mb) := ⟨pe_imp (pe_ifExp hc.pt ha.pe hb.pe) fun σ H Q ⟨F, S, c, q⟩ => ⟨F, S, c, Fin.imp (Fin.bind q) fun k F1 H1 t z => by
  cases k with
  | true => exact ⟨F1, S, c.step t, Fin.kE_mono t.gh z⟩
  | false => exact ⟨F1, S, c.step t, Fin.kE_mono t.gh z⟩⟩⟩
end
end VM

namespace VM
open PySem PySem.Spec PyProof.Rows L2

def fzO (d : D) : Out R := .ok ⟨false, d⟩
def owO (d : D) : Out R := .ok ⟨true, d⟩
theorem szl {n : Nat} (h : n ≤ 16000000) : n ≤ sizeLine := Nat.le_trans h (by decide)
theorem szl' {n : Nat} (h : n < 16000000) : n < sizeLine := Nat.lt_of_lt_of_le h (by decide)

section
variable {K : Kp} {W : WX} {F H : Hp} {S : Ss} {σ : L2.St} {Q : VK}
theorem fin_fz {d : D} {v : V} (c : Cp K F S σ H) (q : Fin K W F H σ (fzO d) (kE K H Q)) (r : Rep K F v d) : Q v H := Fin.now c.sub q v (.inl ⟨rfl, r⟩)
theorem fin_int {i : Int} (c : Cp K F S σ H) (q : Fin K W F H σ (fzO (.int i)) (kE K H Q)) : Q (.int i) H := fin_fz c q (.int i)
theorem fin_bl {i : Bool} (c : Cp K F S σ H) (q : Fin K W F H σ (fzO (.bl i)) (kE K H Q)) : Q (.bl i) H := fin_fz c q (.bl i)
theorem fin_str {x : List Nat} (c : Cp K F S σ H) (q : Fin K W F H σ (fzO (.str x)) (kE K H Q)) (h : strOk' x = true) : Q (.str (ms x)) H := fin_fz c q (.str x h)
/-- a new list | a new tuple -/
theorem fin_lst {ds : List D} {vs : List V} (c : Cp K F S σ H) (q : Fin K W F H σ (owO (.lst ds)) (kE K H Q)) (r : RepL K F vs ds) : ∀ p, H p = none → Q (.ref p) (upd H p (.lst vs)) := fun p hp =>
  q F _ (.newH c.sub hp) (.ref p) (.inr ⟨rfl, p, rfl, .lst upd_same r, hp, c.sub.free hp⟩)
theorem fin_tup {ds : List D} {vs : List V} (c : Cp K F S σ H) (q : Fin K W F H σ (fzO (.tup ds)) (kE K H Q)) (r : RepL K F vs ds) : ∀ p its n, H p = none → Q (.ref p) (upd H p (.frz (tupO its n) (.tup vs))) := fun p its n hp =>
  q _ _ (.newF c.sub hp) (.ref p) (.inl ⟨rfl, .tup (.inl ⟨its, n, upd_same⟩) (r.mono (.new (c.sub.free hp)))⟩)
end

/-! ### arithmetic -/
def addD : D → D → Out R
  | .int i, .int j => fzO (.int (i + j))
  | .str x, .str y => if x.length + y.length ≤ 16000000 then fzO (.str (x ++ y)) else .no
  | .lst xs, .lst ys => if xs.length + ys.length ≤ 16000000 then owO (.lst (xs ++ ys)) else .no
  | .tup xs, .tup ys => if xs.length + ys.length ≤ 16000000 then fzO (.tup (xs ++ ys)) else .no
  | _, _ => .no
theorem ms_len (x : List Nat) : (ms x).length = x.length := by simp [ms, Str.length]
theorem ms_app (x y : List Nat) : ms x ++ ms y = ms (x ++ y) := by
  show Str.mk _ = Str.mk _
  simp [ms]
section
variable {X : Cx} {W : WX}
/-! tuples whose objects are known -/
theorem tupO_ok {P : Program} {w : World} {H : Hp} {h : Heap} {a : Addr} {xs : List V} {its : List Value} {n : Nat} (hz : xs.length ≤ sizeLine) (r : Vals xs its) (e : h.get? a = some (tupO its n)) : ObjOk P w H h a (.frz (tupO its n) (.tup xs)) :=
  ⟨e, hz, its, r, _, e, rfl, n, rfl⟩
def tTupX (t : TA) : TE := fun σ H Q => t σ H fun xs H1 => xs.length ≤ sizeLine ∧ ∀ p its n, H1 p = none → Q (.ref p) (upd H1 p (.frz (tupO its n) (.tup xs)))
theorem pe_tupX {es : List Expr} {pos : Pos} {t : TA} {x1 : Nat} (h : PA X es t) : PE X (.Tuple es x1 pos) (tTupX t) := by
  refine ⟨fun pins s σ H Q I hq => ?_⟩
  refine wpAny_Tuple_spliced (thn (h.run pos pins s σ H _ I hq) fun us s1 ⟨xs, H1, I1, r, z, q⟩ => ⟨by rw [← r.length]; exact z, ?_⟩)
  have hf : H1 s1.heap.objs.size = none := I1.hok.fresh (Nat.le_refl _)
  exact ⟨.ref s1.heap.objs.size, _, I1.laid (t' := s1.toks) (fun b u e => Heap.get?_push_of_some _ e) (Nat.le_refl _) (tupO_ok z r (n := 0) (Heap.get?_push_size _ rfl)), rfl, q _ _ _ hf⟩
theorem call_tuple_ofX : CallR X (.type "tuple") (fun xs H Q => ∃ p ys, xs = [.ref p] ∧ ((SqL (kp X) H p ys ∧ ∀ l its n, H l = none → Q (.ref l) (upd H l (.frz (tupO its n) (.tup ys)))) ∨ (SqT (kp X) H p ys ∧ Q (.ref p) H))) := by
  intro pins s σ H xs us Q I r h
  obtain ⟨p, ys, rfl, h⟩ := h
  obtain ⟨u, rfl, rx⟩ := vals1 r
  cases rx
  rcases h with ⟨hq, q⟩ | ⟨hq, q⟩
  · obtain ⟨its, r', pl, hz⟩ := I.list hq
    have hlen := r'.length
    refine call_tuple_list pl.isList (fun h' kp => ?_) (by simp only [List.size_toArray] <;> omega)
    have I1 : Inv X pins σ H { s with heap := h' } := I.kept (t' := s.toks) kp
    exact ⟨.ref h'.objs.size, _, I1.laid (t' := s.toks) (h' := h'.push (tupO its 0)) (fun b o e => Heap.get?_push_of_some _ e) (Nat.le_refl _) (tupO_ok hz r' (Heap.get?_push_size _ rfl)), rfl, q _ _ _ (I1.hok.fresh (Nat.le_refl _))⟩
  · obtain ⟨its, r', pl, hz⟩ := I.tuple hq
    exact call_tuple_same pl ⟨.ref p, H, I, rfl, q⟩
def rCatX (K : Kp) : R2 := fun x y H Q => ∃ a b xs ys, x = .ref a ∧ y = .ref b ∧ SqT K H a xs ∧ SqT K H b ys ∧ xs.length + ys.length ≤ sizeLine ∧
  (xs = [] → Q (.ref b) H) ∧ (xs ≠ [] → ys = [] → Q (.ref a) H) ∧ (xs ≠ [] → ys ≠ [] → ∀ p its n, H p = none → Q (.ref p) (upd H p (.frz (tupO its n) (.tup (xs ++ ys)))))
theorem op_catX : OpR X (binaryOp .Add) (rCatX (kp X)) := by
  intro pins s σ H x y v u Q I rx ry h
  obtain ⟨a, b, xs, ys, rfl, rfl, ha, hb, hz, q0, q1, q2⟩ := h
  cases rx
  cases ry
  obtain ⟨its, r1, p1, _⟩ := I.tuple ha
  obtain ⟨its2, r2, p2, _⟩ := I.tuple hb
  by_cases hx : xs = []
  · subst hx
    cases r1
    exact cat_tup0 p1 p2 ⟨.ref b, H, I, rfl, q0 rfl⟩
  · refine HT.cat_tup p1 p2 (fun z => hx (r1.nil_iff.mp z)) (fun z => ⟨.ref a, H, I, rfl, q1 hx (r2.nil_iff.mp z)⟩) (fun z => ?_) (by rw [← r1.length, ← r2.length]; exact hz)
    exact ⟨.ref s.heap.objs.size, _, I.laid (t' := s.toks) (fun b ob q => Heap.get?_push_of_some _ q) (Nat.le_refl _) (tupO_ok (n := 0) (by rw [List.length_append]; exact hz) (r1.append r2) (Heap.get?_push_size _ rfl)), rfl, q2 hx (fun w => z (r2.nil_iff.mpr w)) _ _ _ (I.hok.fresh (Nat.le_refl _))⟩
def rSlX (K : Kp) : V → Option Int → Option Int → Hp → VK → Prop := fun x lo hi H Q => ∃ a xs, x = .ref a ∧ SqT K H a xs ∧
  (HT.sIx xs.length 0 lo = 0 ∧ HT.sIx xs.length xs.length hi = xs.length → Q (.ref a) H) ∧ (¬ (HT.sIx xs.length 0 lo = 0 ∧ HT.sIx xs.length xs.length hi = xs.length) → ∀ p its n, H p = none → Q (.ref p) (upd H p (.frz (tupO its n) (.tup (cutV xs lo hi)))))
theorem sl_tupX : SlR X (rSlX (kp X)) := by
  intro pins s σ H x v vl vu lo hi sl Q I rx hs pl pu h
  obtain ⟨a, xs, rfl, hx, q1, q2⟩ := h
  cases rx
  obtain ⟨its, r, ht, hz⟩ := I.tuple hx
  have hlen : its.toArray.size = xs.length := by rw [List.size_toArray]; exact r.length.symm
  refine ⟨"tuple", _, PyProof.Rows.slot_tuple_getitem.lookup, ht.typeIs, ?_⟩
  by_cases hw : HT.sIx xs.length 0 lo = 0 ∧ HT.sIx xs.length xs.length hi = xs.length
  · exact getItem_tuple_whole ht hs pl pu (by rw [hlen]; exact hw) ⟨.ref a, H, I, rfl, q1 hw⟩
  · refine HT.getItem_tuple_cut ht hs pl pu (by rw [hlen]; exact hw) ?_ (by rw [hlen]; exact hz)
    rw [hlen]
    exact ⟨.ref s.heap.objs.size, _, I.laid (t' := s.toks) (fun b ob q => Heap.get?_push_of_some _ q) (Nat.le_refl _) (tupO_ok (n := 0) (Nat.le_trans (cutV_length xs lo hi) hz) ((r.drop (HT.sIx xs.length 0 lo)).take (HT.sIx xs.length xs.length hi - HT.sIx xs.length 0 lo)) (Heap.get?_push_size _ rfl)), rfl, q2 hw _ _ _ (I.hok.fresh (Nat.le_refl _))⟩
theorem op_addD : OpD X W (binaryOp .Add) addD := ⟨_, op_add.or (op_add_str.or (op_cat.or op_catX)), fun F S σ H x y dx dy Q c hx hy q => by
  unfold addD at q
  split at q
  · have e1 := hx.int c
    have e2 := hy.int c
    exact .inl ⟨_, _, e1, e2, fin_int c q⟩
  · obtain ⟨e1, k1⟩ := hx.str c
    obtain ⟨e2, k2⟩ := hy.str c
    split at q
    · rename_i x y hl
      refine .inr (.inl ⟨_, _, e1, e2, szl (by rw [ms_len, ms_len]; exact hl), ?_⟩)
      rw [ms_app]
      refine fin_str c q ?_
      unfold strOk' at *
      rw [List.all_append, k1, k2] <;> rfl
    · exact q.elim
  · obtain ⟨a, vs, rfl, h1, r1⟩ := hx.lst c
    obtain ⟨b, ws, rfl, h2, r2⟩ := hy.lst c
    split at q
    · rename_i hl
      exact .inr (.inr (.inl ⟨a, b, vs, ws, rfl, rfl, h1, h2, szl (by rw [r1.len, r2.len]; exact hl), fin_lst c q (r1.app r2)⟩))
    · exact q.elim
  · obtain ⟨a, vs, rfl, h1, h1', r1⟩ := hx.tup c
    obtain ⟨b, ws, rfl, h2, h2', r2⟩ := hy.tup c
    split at q
    · rename_i hl
      refine .inr (.inr (.inr ⟨a, b, vs, ws, rfl, rfl, h1', h2', szl (by rw [r1.len, r2.len]; exact hl), fun e => ?_, fun e1 e2 => ?_, fun _ _ => fin_tup c q (r1.app r2)⟩))
      · subst e
        cases r1
        exact fin_fz c q (.tup h2 r2)
      · subst e2
        cases r2
        rw [List.append_nil] at q
        exact fin_fz c q (.tup h1 r1)
    · exact q.elim
  · exact q.elim⟩
def subD : D → D → Out R
  | .int i, .int j => fzO (.int (i - j))
  | _, _ => .no
theorem op_subD : OpD X W (binaryOp .Sub) subD := ⟨_, op_sub, fun F S σ H x y dx dy Q c hx hy q => by
  unfold subD at q
  split at q
  · exact ⟨_, _, hx.int c, hy.int c, fin_int c q⟩
  · exact q.elim⟩
def mulD : D → D → Out R
  | .int i, .int j => if i.natAbs.log2 + j.natAbs.log2 < 1000000 then fzO (.int (i * j)) else .no
  | .lst xs, .int k => if xs.length * k.toNat ≤ 16000000 ∧ k.toNat ≤ 1000000000 ∧ (-k).toNat ≤ 1000000000 then owO (.lst (List.replicate k.toNat xs).flatten) else .no
  | _, _ => .no
theorem op_mulD : OpD X W (binaryOp .Mult) mulD := ⟨_, op_mulW.or op_rep, fun F S σ H x y dx dy Q c hx hy q => by
  unfold mulD at q
  split at q
  · split at q
    · rename_i h
      exact .inl ⟨_, _, hx.int c, hy.int c, h, fin_int c q⟩
    · exact q.elim
  · split at q
    · rename_i h
      obtain ⟨a, vs, rfl, h1, r1⟩ := hx.lst c
      exact .inr ⟨a, _, vs, rfl, hy.int c, h1, by omega, by omega, szl (by rw [r1.len]; exact h.1), fin_lst c q (r1.rep _)⟩
    · exact q.elim
  · exact q.elim⟩
def divD : D → D → Out R
  | .int i, .int j => if 0 < j ∧ j.natAbs.log2 < 9000 then fzO (.int (i / j)) else .no
  | _, _ => .no
theorem op_divD : OpD X W (binaryOp .FloorDiv) divD := ⟨_, op_fdivW, fun F S σ H x y dx dy Q c hx hy q => by
  unfold divD at q
  split at q
  · split at q
    · rename_i h
      exact ⟨_, _, hx.int c, hy.int c, h, fin_int c q⟩
    · exact q.elim
  · exact q.elim⟩
def modD : D → D → Out R
  | .int i, .int j => if 0 < j then fzO (.int (i % j)) else if j ≠ 0 then fzO (.int (i.fmod j)) else .no
  | _, _ => .no
theorem op_modD : OpD X W (binaryOp .Mod) modD := ⟨_, op_mod.or op_modN, fun F S σ H x y dx dy Q c hx hy q => by
  unfold modD at q
  split at q
  · split at q
    · rename_i h
      exact .inl ⟨_, _, hx.int c, hy.int c, h, fin_int c q⟩
    · split at q
      · rename_i h
        exact .inr ⟨_, _, hx.int c, hy.int c, h, fin_int c q⟩
      · exact q.elim
  · exact q.elim⟩
def powD : D → D → Out R
  | .int i, .int j => if 0 ≤ j ∧ j ≤ 1000000 ∧ i.natAbs ≤ 1000000000 then fzO (.int (i ^ j.toNat)) else .no
  | _, _ => .no
theorem op_powD : OpD X W (binaryOp .Pow) powD := ⟨_, op_pow, fun F S σ H x y dx dy Q c hx hy q => by
  unfold powD at q
  split at q
  · split at q
    · rename_i h
      exact ⟨_, _, hx.int c, hy.int c, ⟨h.1, h.2.1, Nat.lt_of_le_of_lt h.2.2 (by decide)⟩, fin_int c q⟩
    · exact q.elim
  · exact q.elim⟩
def negD : D → Out R
  | .int i => fzO (.int (-i))
  | _ => .no
theorem un_negD : UnD X W (unaryOp .USub) negD := ⟨_, un_neg, fun F S σ H x dx Q c hx q => by
  unfold negD at q
  split at q
  · exact ⟨_, hx.int c, fin_int c q⟩
  · exact q.elim⟩

/-! ### comparisons -/
def ltD : D → D → Out R
  | .int i, .int j => fzO (.bl (decide (i < j)))
  | _, _ => .no
def leD : D → D → Out R
  | .int i, .int j => fzO (.bl (decide (i ≤ j)))
  | _, _ => .no
def gtD : D → D → Out R
  | .int i, .int j => fzO (.bl (decide (j < i)))
  | _, _ => .no
def geD : D → D → Out R
  | .int i, .int j => fzO (.bl (decide (j ≤ i)))
  | _, _ => .no
theorem op_ltD : OpD X W (compareOp .Lt) ltD := ⟨_, op_lt, fun F S σ H x y dx dy Q c hx hy q => by
  unfold ltD at q
  split at q
  · exact ⟨_, _, hx.int c, hy.int c, fin_bl c q⟩
  · exact q.elim⟩
theorem op_leD : OpD X W (compareOp .LtE) leD := ⟨_, op_le, fun F S σ H x y dx dy Q c hx hy q => by
  unfold leD at q
  split at q
  · exact ⟨_, _, hx.int c, hy.int c, fin_bl c q⟩
  · exact q.elim⟩
theorem op_gtD : OpD X W (compareOp .Gt) gtD := ⟨_, op_gt, fun F S σ H x y dx dy Q c hx hy q => by
  unfold gtD at q
  split at q
  · exact ⟨_, _, hx.int c, hy.int c, fin_bl c q⟩
  · exact q.elim⟩
theorem op_geD : OpD X W (compareOp .GtE) geD := ⟨_, op_ge, fun F S σ H x y dx dy Q c hx hy q => by
  unfold geD at q
  split at q
  · exact ⟨_, _, hx.int c, hy.int c, fin_bl c q⟩
  · exact q.elim⟩
def eqD (x y : D) : Out R := if x.cmpOk && y.cmpOk then fzO (.bl (D.eqv x y)) else .no
def neD (x y : D) : Out R := if x.cmpOk && y.cmpOk then fzO (.bl (!D.eqv x y)) else .no
theorem cmp_fl {d : D} (h : d.cmpOk = true) : d.flat = true := by
  unfold D.cmpOk at h
  rw [Bool.and_eq_true] at h
  exact h.1
theorem op_eqDD (hu : X.A.units + 65 < cLine) : OpD X W (compareOp .Eq) eqD := ⟨_, op_eqD (by omega), fun F S σ H x y dx dy Q c hx hy q => by
  unfold eqD at q
  split at q
  · rename_i h
    rw [Bool.and_eq_true] at h
    have r1 := hx.repH c
    have r2 := hy.repH c
    refine ⟨_, _, r1.dp (cmp_fl h.1), r2.dp (cmp_fl h.2), r1.shaped h.1, r2.shaped h.2, ?_⟩
    rw [D.py_eqv _ _ (cmp_fl h.1) (cmp_fl h.2)]
    exact fin_bl c q
  · exact q.elim⟩
theorem op_neDD (hu : X.A.units + 65 < cLine) : OpD X W (compareOp .NotEq) neD := ⟨_, op_neD (by omega), fun F S σ H x y dx dy Q c hx hy q => by
  unfold neD at q
  split at q
  · rename_i h
    rw [Bool.and_eq_true] at h
    have r1 := hx.repH c
    have r2 := hy.repH c
    refine ⟨_, _, r1.dp (cmp_fl h.1), r2.dp (cmp_fl h.2), r1.shaped h.1, r2.shaped h.2, ?_⟩
    rw [D.py_eqv _ _ (cmp_fl h.1) (cmp_fl h.2)]
    exact fin_bl c q
  · exact q.elim⟩
/-! in -/
def anyEq (x : D) (ds : List D) : Bool := ds.any fun z => D.eqv z x
theorem any_py (x : D) (hx : x.flat = true) : ∀ ds : List D, D.flatAll ds = true → ((D.pyAll ds).any fun z => PyData.eqv z x.py) = anyEq x ds
  | [], _ => by simp [D.pyAll, anyEq]
  | d :: ds, h => by
    rw [D.flatAll, Bool.and_eq_true] at h
    have ih := any_py x hx ds h.2
    unfold anyEq at ih ⊢
    rw [D.pyAll, List.any_cons, List.any_cons, ih, D.py_eqv d x h.1 hx]
def inD (neg : Bool) (x y : D) : Out R := match y with
  | .lst ds => if x.cmpOk && (D.lst ds).cmpOk then fzO (.bl (xor neg (anyEq x ds))) else .no
  | .tup ds => if x.cmpOk && (D.tup ds).cmpOk then fzO (.bl (xor neg (anyEq x ds))) else .no
  | .str z => match x with
    | .str [c] => fzO (.bl (xor neg (decide (c ∈ z))))
    | _ => .no
  | _ => .no
def rInDT (K : Kp) : R2 := fun x y H Q => ∃ d ds, Dp K H x d ∧ Dp K H y (.tuple ds) ∧ SeqAt.shaped d = true ∧ SeqAt.shaped (.tuple ds) = true ∧ Q (.bl (ds.any fun z => PyData.eqv z d)) H
def rNotInDT (K : Kp) : R2 := fun x y H Q => ∃ d ds, Dp K H x d ∧ Dp K H y (.tuple ds) ∧ SeqAt.shaped d = true ∧ SeqAt.shaped (.tuple ds) = true ∧ Q (.bl (!ds.any fun z => PyData.eqv z d)) H
theorem op_inDT (hu : X.A.units + 65 < cLine) : OpR X (compareOp .In) (rInDT (kp X)) := by
  intro pins s σ H x y v u Q I rx ry h
  obtain ⟨d, ds, hd, he, sd, se, q⟩ := h
  obtain ⟨as, r1⟩ := Dp.reads I d x v hd rx
  obtain ⟨bs, r2⟩ := Dp.reads I (.tuple ds) y u he ry
  exact SeqAt.in_tuple_reads r2 r1 (SeqAt.canLay_of_shaped se) (SeqAt.canLay_of_shaped sd) (room_in_shaped sd hu) ⟨.bl _, H, I, rfl, q⟩
theorem op_notInDT (hu : X.A.units + 65 < cLine) : OpR X (compareOp .NotIn) (rNotInDT (kp X)) := by
  intro pins s σ H x y v u Q I rx ry h
  obtain ⟨d, ds, hd, he, sd, se, q⟩ := h
  obtain ⟨as, r1⟩ := Dp.reads I d x v hd rx
  obtain ⟨bs, r2⟩ := Dp.reads I (.tuple ds) y u he ry
  exact SeqAt.notIn_tuple_reads r2 r1 (SeqAt.canLay_of_shaped se) (SeqAt.canLay_of_shaped sd) (room_in_shaped sd hu) ⟨.bl _, H, I, rfl, q⟩
theorem op_inDD (hu : X.A.units + 65 < cLine) : OpD X W (compareOp .In) (inD false) := ⟨_, (op_inD hu).or ((op_inDT hu).or op_in_sign), fun F S σ H x y dx dy Q c hx hy q => by
  unfold inD at q
  split at q
  · split at q
    · rename_i ds h
      rw [Bool.and_eq_true] at h
      have r1 := hx.repH c
      have r2 := hy.repH c
      refine .inl ⟨_, D.pyAll ds, r1.dp (cmp_fl h.1), ?_, r1.shaped h.1, ?_, ?_⟩
      · have z := r2.dp (cmp_fl h.2)
        rw [D.py] at z
        exact z
      · have z := r2.shaped h.2
        rw [D.py] at z
        exact z
      · rw [any_py _ (cmp_fl h.1) ds (by have z := cmp_fl h.2; rw [D.flat] at z; exact z)]
        have z := fin_bl c q
        rw [Bool.false_xor] at z
        exact z
    · exact q.elim
  · split at q
    · rename_i ds h
      rw [Bool.and_eq_true] at h
      have r1 := hx.repH c
      have r2 := hy.repH c
      refine .inr (.inl ⟨_, D.pyAll ds, r1.dp (cmp_fl h.1), ?_, r1.shaped h.1, ?_, ?_⟩)
      · have z := r2.dp (cmp_fl h.2)
        rw [D.py] at z
        exact z
      · have z := r2.shaped h.2
        rw [D.py] at z
        exact z
      · rw [any_py _ (cmp_fl h.1) ds (by have z := cmp_fl h.2; rw [D.flat] at z; exact z)]
        have z := fin_bl c q
        rw [Bool.false_xor] at z
        exact z
    · exact q.elim
  · split at q
    · rename_i z x0 ch
      refine .inr (.inr ⟨ch, ms z, ?_, (hy.str c).1, ?_⟩)
      · exact (hx.str c).1
      · have e := fin_bl c q
        rw [Bool.false_xor] at e
        have e2 : (ms z).cps.toList = z := by simp [ms]
        rw [e2]
        exact e
    · exact q.elim
  · exact q.elim⟩
theorem op_notInDD (hu : X.A.units + 65 < cLine) : OpD X W (compareOp .NotIn) (inD true) := ⟨_, (op_notInD hu).or ((op_notInDT hu).or op_notIn_sign), fun F S σ H x y dx dy Q c hx hy q => by
  unfold inD at q
  split at q
  · split at q
    · rename_i ds h
      rw [Bool.and_eq_true] at h
      have r1 := hx.repH c
      have r2 := hy.repH c
      refine .inl ⟨_, D.pyAll ds, r1.dp (cmp_fl h.1), ?_, r1.shaped h.1, ?_, ?_⟩
      · have z := r2.dp (cmp_fl h.2)
        rw [D.py] at z
        exact z
      · have z := r2.shaped h.2
        rw [D.py] at z
        exact z
      · rw [any_py _ (cmp_fl h.1) ds (by have z := cmp_fl h.2; rw [D.flat] at z; exact z)]
        have z := fin_bl c q
        rw [Bool.true_xor] at z
        exact z
    · exact q.elim
  · split at q
    · rename_i ds h
      rw [Bool.and_eq_true] at h
      have r1 := hx.repH c
      have r2 := hy.repH c
      refine .inr (.inl ⟨_, D.pyAll ds, r1.dp (cmp_fl h.1), ?_, r1.shaped h.1, ?_, ?_⟩)
      · have z := r2.dp (cmp_fl h.2)
        rw [D.py] at z
        exact z
      · have z := r2.shaped h.2
        rw [D.py] at z
        exact z
      · rw [any_py _ (cmp_fl h.1) ds (by have z := cmp_fl h.2; rw [D.flat] at z; exact z)]
        have z := fin_bl c q
        rw [Bool.true_xor] at z
        exact z
    · exact q.elim
  · split at q
    · rename_i z x0 ch
      refine .inr (.inr ⟨ch, ms z, ?_, (hy.str c).1, ?_⟩)
      · exact (hx.str c).1
      · have e := fin_bl c q
        rw [Bool.true_xor] at e
        have e2 : (ms z).cps.toList = z := by simp [ms]
        rw [e2]
        exact e
    · exact q.elim
  · exact q.elim⟩
/-! is -/
def isNon : D → Bool
  | .non => true
  | _ => false
theorem Rep.isNon {K : Kp} {F : Hp} {v : V} {d : D} (r : Rep K F v d) : decide (v = V.non) = isNon d := by
  cases r <;> simp [VM.isNon]
def isD (neg : Bool) (x y : D) : Out R := match y with
  | .non => fzO (.bl (xor neg (isNon x)))
  | .bl b => match x with
    | .bl a => fzO (.bl (xor neg (decide (a = b))))
    | _ => .no
  | _ => .no
theorem op_isDD : OpD X W (compareOp .Is) (isD false) := ⟨_, op_isN.or op_isBl, fun F S σ H x y dx dy Q c hx hy q => by
  unfold isD at q
  split at q
  · refine .inl ⟨hy.non c, ?_⟩
    rw [(hx.repH c).isNon]
    have z := fin_bl c q
    rw [Bool.false_xor] at z
    exact z
  · split at q
    · have z := fin_bl c q
      rw [Bool.false_xor] at z
      exact .inr ⟨_, _, hx.bl c, hy.bl c, z⟩
    · exact q.elim
  · exact q.elim⟩
theorem op_isNotDD : OpD X W (compareOp .IsNot) (isD true) := ⟨_, op_notN.or op_notBl, fun F S σ H x y dx dy Q c hx hy q => by
  unfold isD at q
  split at q
  · refine .inl ⟨hy.non c, ?_⟩
    rw [(hx.repH c).isNon]
    have z := fin_bl c q
    rw [Bool.true_xor] at z
    exact z
  · split at q
    · have z := fin_bl c q
      rw [Bool.true_xor] at z
      exact .inr ⟨_, _, hx.bl c, hy.bl c, z⟩
    · exact q.elim
  · exact q.elim⟩
end
end VM

namespace VM
open PySem PySem.Spec PyProof.Rows L2

section
variable {X : Cx} {W : WX} {pos : Pos}
/-! ### an item -/
def optO {α : Type} (o : Option α) (k : α → Out R) : Out R := match o with
  | some a => k a
  | none => .no
def ixD : D → D → Out R
  | .lst ds, .int i => optO (atI ds i) fzO
  | .tup ds, .int i => optO (atI ds i) fzO
  | .str x, .int i => if x.length ≤ 16000000 then optO (atI x i) fun c => fzO (.str [c]) else .no
  | .scr ns, .int i => optO (atI ns i) fun n => fzO (.int n)
  | _, _ => .no
theorem atI_rep {K : Kp} {F : Hp} {vs : List V} {ds : List D} {i : Int} {d : D} (r : RepL K F vs ds) (h : atI ds i = some d) : ∃ v, atI vs i = some v ∧ Rep K F v d := by
  unfold atI at h ⊢
  rw [r.len]
  cases e : ixN ds.length i with
  | none =>
    rw [e] at h
    cases h
  | some j =>
    rw [e] at h
    exact r.get h
theorem atI_map {α β : Type} (f : α → β) (xs : List α) (i : Int) : atI (xs.map f) i = (atI xs i).map f := by
  unfold atI
  rw [List.length_map]
  cases ixN xs.length i with
  | none => rfl
  | some j =>
    show (xs.map f)[j]? = (xs[j]?).map f
    rw [List.getElem?_map]
theorem ix_okD (X : Cx) (W : WX) : ∃ r, IxR X r ∧ ∀ F S σ H x y dx dy Q, Cp (kp X) F S σ H → Vw (kp X) F S σ x dx → Vw (kp X) F S σ y dy → Fin (kp X) W F H σ (ixD dx dy) (kE (kp X) H Q) → r x y H Q := ⟨_, ix_seq, fun F S σ H x y dx dy Q c hx hy q => by
  unfold ixD at q
  split at q
  · rename_i ds i
    obtain ⟨a, vs, rfl, h1, r1⟩ := hx.lst c
    have ey := hy.int c
    cases h : atI ds i with
    | none =>
      rw [h] at q
      exact q.elim
    | some d =>
      rw [h] at q
      obtain ⟨v, e1, e2⟩ := atI_rep r1 h
      exact .inl ⟨a, vs, i, v, rfl, ey, .inl (.inl h1), e1, fin_fz c q e2⟩
  · rename_i ds i
    obtain ⟨a, vs, rfl, h1, h1', r1⟩ := hx.tup c
    have ey := hy.int c
    cases h : atI ds i with
    | none =>
      rw [h] at q
      exact q.elim
    | some d =>
      rw [h] at q
      obtain ⟨v, e1, e2⟩ := atI_rep r1 h
      exact .inr (.inl ⟨a, vs, i, v, rfl, ey, h1', e1, fin_fz c q e2⟩)
  · rename_i z i
    obtain ⟨ex, hz⟩ := hx.str c
    have ey := hy.int c
    split at q
    · rename_i hl
      cases h : atI z i with
      | none =>
        rw [h] at q
        exact q.elim
      | some ch =>
        rw [h] at q
        refine .inr (.inr ⟨ms z, i, ch, ex, ey, szl (by rw [ms_len]; exact hl), ?_, ?_⟩)
        · have e2 : (ms z).cps.toList = z := by simp [ms]
          rw [e2]
          exact h
        · refine fin_fz c q (.str [ch] ?_)
          have hm : ch ∈ z := by
            unfold atI at h
            cases e : ixN z.length i with
            | none =>
              rw [e] at h
              cases h
            | some j =>
              rw [e] at h
              exact List.mem_of_getElem? h
          have := List.all_eq_true.mp hz ch hm
          simpa using this
    · exact q.elim
  · rename_i ns i
    obtain ⟨a, rfl, h1⟩ := hx.scr c
    have ey := hy.int c
    cases h : atI ns i with
    | none =>
      rw [h] at q
      exact q.elim
    | some n =>
      rw [h] at q
      exact .inl ⟨a, _, i, .int n, rfl, ey, h1, by rw [atI_map, h] <;> rfl, fin_int c q⟩
  · exact q.elim⟩
theorem je_item {a b : Expr} {ma mb : MV} (ha : JV X W a ma) (hb : JV X W b mb) (hs : PlainIx b) : JE X W (.Subscript a b pos) (m2 ixD ma mb) := by
  obtain ⟨r, h1, h2⟩ := ix_okD X W
  exact je_ix h1 h2 ha hb hs

/-! ### slices -/
def cutL {α : Type} (xs : List α) (lo hi : Option Int) : List α := (xs.drop (HT.sIx xs.length 0 lo)).take (HT.sIx xs.length xs.length hi - HT.sIx xs.length 0 lo)
abbrev MO := Ss → Out (Option Int)
def tOp' (K : Kp) (W : WX) (m : MO) : TO := fun σ H Q => ∃ F S, Cp K F S σ H ∧ Fin K W F H σ (m S) fun o F' H' => Q o H'
structure JO (X : Cx) (W : WX) (e : Option Expr) (m : MO) : Prop where
  po : PO X e (tOp' (kp X) W m)
theorem po_imp {e : Option Expr} {t t' : TO} (h : PO X e t) (f : ∀ σ H Q, t' σ H Q → t σ H Q) : PO X e t' := ⟨fun pins s σ H Q I q => h.run pins s σ H Q I (f σ H Q q)⟩
def oNone : MO := fun _ => .ok none
def oSome (m : MV) : MO := fun S => (m S).bind fun d => match d with
  | .int i => .ok (some i)
  | _ => .no
theorem jo_none : JO X W none oNone := ⟨po_imp po_none fun σ H Q ⟨F, S, c, q⟩ => Fin.now c.sub q⟩
theorem jo_some {e : Expr} {m : MV} (h : JV X W e m) : JO X W (some e) (oSome m) := ⟨po_imp (po_some h.pe) fun σ H Q ⟨F, S, c, q⟩ => ⟨F, S, c, Fin.imp (Fin.bind q) fun d F1 H1 t z v rp => by
  cases d with
  | int i => exact ⟨i, rp.int (c.step t), Fin.now t.sub z⟩
  | _ => exact z.elim⟩⟩
def slD (x : D) (lo hi : Option Int) : Out R := match x with
  | .lst ds => owO (.lst (cutL ds lo hi))
  | .tup ds => fzO (.tup (cutL ds lo hi))
  | .str x => if x.length ≤ 16000000 then fzO (.str (cutL x lo hi)) else .no
  | .scr ns => owO (.lst ((cutL ns lo hi).map D.int))
  | _ => .no
def mSl (a : MV) (lo hi : MO) : ME := fun S => (a S).bind fun x => (lo S).bind fun l => (hi S).bind fun h => slD x l h
theorem RepL.cut {K : Kp} {F : Hp} {vs : List V} {ds : List D} (r : RepL K F vs ds) (lo hi : Option Int) : RepL K F (cutV vs lo hi) (cutL ds lo hi) := by
  unfold cutV cutL
  rw [r.len]
  exact (r.drop _).take _
theorem cut_map {α β : Type} (f : α → β) (xs : List α) (lo hi : Option Int) : cutL (xs.map f) lo hi = (cutL xs lo hi).map f := by
  unfold cutL
  rw [List.length_map, List.map_take, List.map_drop]
theorem je_slice {a : Expr} {lo hi : Option Expr} {p2 : Pos} {ma : MV} {ml mh : MO} (ha : JV X W a ma) (hl : JO X W lo ml) (hh : JO X W hi mh) : JE X W (.Subscript a (.Slice lo hi none p2) pos) (mSl ma ml mh) := ⟨pe_imp (pe_slice (sl_list.or (sl_tupX.or sl_str)) ha.pe hl.po hh.po) fun σ H Q ⟨F, S, c, q⟩ =>
  ⟨F, S, c, Fin.imp (Fin.bind q) fun x F1 H1 t1 z1 v1 r1 => ⟨F1, S, c.step t1, Fin.imp (Fin.bind z1) fun l F2 H2 t2 z2 => ⟨F2, S, (c.step t1).step t2, Fin.imp (Fin.bind z2) fun h F3 H3 t3 z3 => by
    have c3 := ((c.step t1).step t2).step t3
    have hx : Vw (kp X) F3 S σ v1 x := r1.mono (t2.gf.trans t3.gf)
    have q : Fin (kp X) W F3 H3 σ (slD x l h) (kE (kp X) H3 Q) := Fin.kE_mono (t1.gh.trans (t2.gh.trans t3.gh)) z3
    unfold slD at q
    split at q
    · obtain ⟨a, vs, rfl, h1, r⟩ := hx.lst c3
      exact .inl ⟨a, vs, rfl, .inl (.inl h1), fin_lst c3 q (r.cut l h)⟩
    · obtain ⟨a, vs, rfl, h1, h1', r⟩ := hx.tup c3
      refine .inr (.inl ⟨a, vs, rfl, h1', fun ⟨e1, e2⟩ => ?_, fun _ => fin_tup c3 q (r.cut l h)⟩)
      refine fin_fz c3 q (.tup h1 ?_)
      have e3 : cutV vs l h = vs := by
        unfold cutV
        rw [e1, e2]
        simp
      have r2 := r.cut l h
      rw [e3] at r2
      exact r2
    · rename_i z
      obtain ⟨ex, hz⟩ := hx.str c3
      split at q
      · rename_i hl
        refine .inr (.inr ⟨ms z, ex, szl (by rw [ms_len]; exact hl), ?_⟩)
        have e : cutS (ms z) l h = ms (cutL z l h) := by
          unfold cutS cutL
          rw [ms_len]
          simp [ms]
        rw [e]
        refine fin_str c3 q ?_
        unfold strOk' cutL
        rw [List.all_eq_true]
        intro ch hm
        exact List.all_eq_true.mp hz ch (List.mem_of_mem_drop (List.mem_of_mem_take hm))
      · exact q.elim
    · rename_i ns
      obtain ⟨a, rfl, h1⟩ := hx.scr c3
      refine .inl ⟨a, _, rfl, h1, fin_lst c3 q ?_⟩
      have e : cutV (ns.map V.int) l h = (cutL ns l h).map V.int := cut_map V.int ns l h
      rw [e]
      exact .of_ints _
    · exact q.elim⟩⟩⟩⟩

/-! ### displays -/
def tupD (ds : List D) : Out R := if ds.length ≤ 16000000 then fzO (.tup ds) else .no
def lstD (ds : List D) : Out R := if ds.length ≤ 16000000 then owO (.lst ds) else .no
theorem je_tup {es : List Expr} {ma : MA} {x1 : Nat} (ha : JA X W es ma) : JE X W (.Tuple es x1 pos) (mN tupD ma) := ⟨pe_imp (pe_tupX ha.pa) fun σ H Q ⟨F, S, c, q⟩ => ⟨F, S, c, Fin.imp (Fin.bind q) fun ds F1 H1 t z vs rp => by
  have c1 := c.step t
  have q : Fin (kp X) W F1 H1 σ (tupD ds) (kE (kp X) H1 Q) := Fin.kE_mono t.gh z
  unfold tupD at q
  split at q
  · rename_i hl
    exact ⟨szl (by rw [rp.len]; exact hl), fin_tup c1 q rp⟩
  · exact q.elim⟩⟩
theorem je_lst {es : List Expr} {ma : MA} (ha : JA X W es ma) : JE X W (.List es pos) (mN lstD ma) := ⟨pe_imp (pe_lst ha.pa) fun σ H Q ⟨F, S, c, q⟩ => ⟨F, S, c, Fin.imp (Fin.bind q) fun ds F1 H1 t z vs rp => by
  have c1 := c.step t
  have q : Fin (kp X) W F1 H1 σ (lstD ds) (kE (kp X) H1 Q) := Fin.kE_mono t.gh z
  unfold lstD at q
  split at q
  · rename_i hl
    exact ⟨szl (by rw [rp.len]; exact hl), fin_lst c1 q rp⟩
  · exact q.elim⟩⟩

/-! ### built-ins -/
theorem VwL.one {K : Kp} {F : Hp} {S : Ss} {σ : L2.St} {vs : List V} {d : D} (h : VwL K F S σ vs [d]) : ∃ v, vs = [v] ∧ Vw K F S σ v d := by
  cases h with
  | cons h t =>
    cases t
    exact ⟨_, rfl, h⟩
theorem VwL.two {K : Kp} {F : Hp} {S : Ss} {σ : L2.St} {vs : List V} {d e : D} (h : VwL K F S σ vs [d, e]) : ∃ v u, vs = [v, u] ∧ Vw K F S σ v d ∧ Vw K F S σ u e := by
  cases h with
  | cons h t =>
    cases t with
    | cons h2 t =>
      cases t
      exact ⟨_, _, rfl, h, h2⟩
def lenD : List D → Out R
  | [.lst ds] => fzO (.int ds.length)
  | [.tup ds] => fzO (.int ds.length)
  | [.scr ns] => fzO (.int ns.length)
  | [.str x] => if x.length ≤ 16000000 then fzO (.int x.length) else .no
  | _ => .no
theorem ca_len : CaD X W (.builtin "len") lenD := ⟨_, call_len_seq.or call_len_str, fun F S σ H xs dxs Q c hx q => by
  unfold lenD at q
  split at q
  · obtain ⟨v, rfl, h⟩ := hx.one
    obtain ⟨a, vs, rfl, h1, r⟩ := h.lst c
    refine .inl ⟨a, vs, rfl, .inl (.inl (.inl h1)), ?_⟩
    rw [r.len]
    exact fin_int c q
  · obtain ⟨v, rfl, h⟩ := hx.one
    obtain ⟨a, vs, rfl, h1, h1', r⟩ := h.tup c
    refine .inl ⟨a, vs, rfl, .inr h1', ?_⟩
    rw [r.len]
    exact fin_int c q
  · obtain ⟨v, rfl, h⟩ := hx.one
    obtain ⟨a, rfl, h1⟩ := h.scr c
    refine .inl ⟨a, _, rfl, .inl h1, ?_⟩
    rw [List.length_map]
    exact fin_int c q
  · obtain ⟨v, rfl, h⟩ := hx.one
    obtain ⟨e, _⟩ := h.str c
    split at q
    · rename_i hl
      refine .inr ⟨_, by rw [e], szl (by rw [ms_len]; exact hl), ?_⟩
      rw [ms_len]
      exact fin_int c q
    · exact q.elim
  · exact q.elim⟩
def intD : List D → Out R
  | [.int i] => fzO (.int i)
  | [.bl b] => fzO (.int (if b then 1 else 0))
  | _ => .no
theorem ca_int : CaD X W (.type "int") intD := ⟨_, call_int1, fun F S σ H xs dxs Q c hx q => by
  unfold intD at q
  split at q
  · obtain ⟨v, rfl, h⟩ := hx.one
    exact .inl ⟨_, by rw [h.int c], fin_int c q⟩
  · obtain ⟨v, rfl, h⟩ := hx.one
    exact .inr ⟨_, by rw [h.bl c], fin_int c q⟩
  · exact q.elim⟩
def minD : List D → Out R
  | [.int i, .int j] => fzO (.int (if j < i then j else i))
  | _ => .no
def maxD : List D → Out R
  | [.int i, .int j] => fzO (.int (if j > i then j else i))
  | _ => .no
theorem ca_min (hc : X.calm = true) : CaD X W (.builtin "min") minD := ⟨_, call_min2 hc, fun F S σ H xs dxs Q c hx q => by
  unfold minD at q
  split at q
  · obtain ⟨v, u, rfl, h, h2⟩ := hx.two
    exact ⟨_, _, by rw [h.int c, h2.int c], fin_int c q⟩
  · exact q.elim⟩
theorem ca_max (hc : X.calm = true) : CaD X W (.builtin "max") maxD := ⟨_, call_max2 hc, fun F S σ H xs dxs Q c hx q => by
  unfold maxD at q
  split at q
  · obtain ⟨v, u, rfl, h, h2⟩ := hx.two
    exact ⟨_, _, by rw [h.int c, h2.int c], fin_int c q⟩
  · exact q.elim⟩
def tupleD : List D → Out R
  | [.lst ds] => fzO (.tup ds)
  | [.tup ds] => fzO (.tup ds)
  | [.scr ns] => fzO (.tup (ns.map .int))
  | _ => .no
theorem ca_tuple : CaD X W (.type "tuple") tupleD := ⟨_, call_tuple_ofX, fun F S σ H xs dxs Q c hx q => by
  unfold tupleD at q
  split at q
  · obtain ⟨v, rfl, h⟩ := hx.one
    obtain ⟨a, vs, rfl, h1, r⟩ := h.lst c
    exact ⟨a, vs, rfl, .inl ⟨.inl (.inl h1), fin_tup c q r⟩⟩
  · obtain ⟨v, rfl, h⟩ := hx.one
    obtain ⟨a, vs, rfl, h1, h1', r⟩ := h.tup c
    exact ⟨a, vs, rfl, .inr ⟨h1', fin_fz c q (.tup h1 r)⟩⟩
  · obtain ⟨v, rfl, h⟩ := hx.one
    obtain ⟨a, rfl, h1⟩ := h.scr c
    exact ⟨a, _, rfl, .inl ⟨h1, fin_tup c q (.of_ints _)⟩⟩
  · exact q.elim⟩
def listD : List D → Out R
  | [.lst ds] => owO (.lst ds)
  | [.tup ds] => owO (.lst ds)
  | [.scr ns] => owO (.lst (ns.map .int))
  | _ => .no
theorem ca_list : CaD X W (.type "list") listD := ⟨_, call_list_of, fun F S σ H xs dxs Q c hx q => by
  unfold listD at q
  split at q
  · obtain ⟨v, rfl, h⟩ := hx.one
    obtain ⟨a, vs, rfl, h1, r⟩ := h.lst c
    exact ⟨a, vs, rfl, .inl (.inl (.inl h1)), fin_lst c q r⟩
  · obtain ⟨v, rfl, h⟩ := hx.one
    obtain ⟨a, vs, rfl, h1, h1', r⟩ := h.tup c
    exact ⟨a, vs, rfl, .inr h1', fin_lst c q r⟩
  · obtain ⟨v, rfl, h⟩ := hx.one
    obtain ⟨a, rfl, h1⟩ := h.scr c
    exact ⟨a, _, rfl, .inl h1, fin_lst c q (.of_ints _)⟩
  · exact q.elim⟩
def blsOf : List D → Option (List Bool)
  | [] => some []
  | .bl b :: ds => (blsOf ds).map (b :: ·)
  | _ :: _ => none
theorem blsOf_eq : ∀ {ds : List D} {bs : List Bool}, blsOf ds = some bs → ds = bs.map D.bl
  | [], _, h => by
    cases h
    rfl
  | d :: ds, bs, h => by
    cases d with
    | bl b =>
      unfold blsOf at h
      cases e : blsOf ds with
      | none =>
        rw [e] at h
        cases h
      | some r =>
        rw [e] at h
        cases h
        rw [blsOf_eq e]
        rfl
    | _ => cases h
def allD : List D → Out R
  | [.lst ds] => optO (blsOf ds) fun bs => fzO (.bl (bs.all id))
  | _ => .no
def anyD : List D → Out R
  | [.lst ds] => optO (blsOf ds) fun bs => fzO (.bl (bs.any id))
  | _ => .no
theorem ca_all (hc : X.calm = true) : CaD X W (.builtin "all") allD := ⟨_, cr_all hc, fun F S σ H xs dxs Q c hx q => by
  unfold allD at q
  split at q
  · rename_i ds
    obtain ⟨v, rfl, h⟩ := hx.one
    obtain ⟨a, vs, rfl, h1, r⟩ := h.lst c
    cases e : blsOf ds with
    | none =>
      rw [e] at q
      exact q.elim
    | some bs =>
      rw [e] at q
      rw [blsOf_eq e] at r
      have e2 := r.bls
      subst e2
      exact ⟨a, bs, rfl, .inl (.inl h1), fin_bl c q⟩
  · exact q.elim⟩
theorem ca_any (hc : X.calm = true) : CaD X W (.builtin "any") anyD := ⟨_, cr_any hc, fun F S σ H xs dxs Q c hx q => by
  unfold anyD at q
  split at q
  · rename_i ds
    obtain ⟨v, rfl, h⟩ := hx.one
    obtain ⟨a, vs, rfl, h1, r⟩ := h.lst c
    cases e : blsOf ds with
    | none =>
      rw [e] at q
      exact q.elim
    | some bs =>
      rw [e] at q
      rw [blsOf_eq e] at r
      have e2 := r.bls
      subst e2
      exact ⟨a, bs, rfl, .inl (.inl h1), fin_bl c q⟩
  · exact q.elim⟩
end
end VM

namespace VM
open PySem PySem.Spec PyProof.Rows L2

section
variable {X : Cx} {W : WX} {pos : Pos}
/-! ### what is walked -/
theorem pi_or {tg e : Expr} {w1 w2 : TI} (h1 : PI X tg e w1) (h2 : PI X tg e w2) : PI X tg e (fun σ H R => w1 σ H R ∨ w2 σ H R) := ⟨fun pins s σ H R I h => by
  rcases h with h | h
  · exact h1.run pins s σ H R I h
  · exact h2.run pins s σ H R I h⟩
def itemsD : D → Out (List D)
  | .lst ds => .ok ds
  | .tup ds => .ok ds
  | .scr ns => .ok (ns.map .int)
  | .str x => .ok (x.map fun c => .str [c])
  | _ => .no
def iV (m : MV) : MA := fun S => (m S).bind itemsD
theorem it_list {K : Kp} {F1 : Hp} {a : Addr} {vs : List V} {ds : List D} (h : SqL K F1 a vs) (r : RepL K F1 vs ds) : ItOk K F1 (Itl K a) ds := fun F H g1 g2 => by
  have hs : SqL K H a vs := gr_l (g1.trans g2) h
  refine ⟨fun i d e => ?_, fun i hi => ⟨vs, hs, by rw [r.len]; exact hi⟩⟩
  obtain ⟨v, e1, e2⟩ := r.get e
  refine ⟨⟨vs, v, hs, e1⟩, fun x H' y => ?_⟩
  obtain ⟨rfl, y⟩ := y
  have ex := y vs hs
  rw [e1] at ex
  cases ex
  exact ⟨F, .refl g2, e2.mono g1⟩
theorem it_tup {K : Kp} {F1 : Hp} {a : Addr} {vs : List V} {ds : List D} (h : SqT K F1 a vs) (r : RepL K F1 vs ds) : ItOk K F1 (Itt K a) ds := fun F H g1 g2 => by
  have hs : SqT K H a vs := gr_t (g1.trans g2) h
  refine ⟨fun i d e => ?_, fun i hi => ⟨vs, hs, by rw [r.len]; exact hi⟩⟩
  obtain ⟨v, e1, e2⟩ := r.get e
  refine ⟨⟨vs, v, hs, e1⟩, fun x H' y => ?_⟩
  obtain ⟨rfl, y⟩ := y
  have ex := y vs hs
  rw [e1] at ex
  cases ex
  exact ⟨F, .refl g2, e2.mono g1⟩
theorem it_str {K : Kp} {F1 : Hp} {x : List Nat} (hx : strOk' x = true) : ItOk K F1 (Its (ms x)) (x.map fun c => .str [c]) := fun F H g1 g2 => by
  refine ⟨fun i d e => ?_, fun i hi => ?_⟩
  · rw [List.getElem?_map] at e
    cases h : x[i]? with
    | none =>
      rw [h] at e
      cases e
    | some ch =>
      rw [h] at e
      cases e
      have hl := (List.getElem?_eq_some_iff.mp h).1
      refine ⟨by show i < (ms x).cps.size; simp [ms]; exact hl, fun v H' y => ?_⟩
      obtain ⟨rfl, c, e1, rfl⟩ := y
      have e2 : (ms x).cps[i]? = x[i]? := by simp [ms]
      rw [e2, h] at e1
      cases e1
      refine ⟨F, .refl g2, .str [ch] ?_⟩
      have := List.all_eq_true.mp hx ch (List.mem_of_getElem? h)
      simpa using this
  · show (ms x).cps.size ≤ i
    rw [List.length_map] at hi
    simp [ms]
    exact hi
theorem ji_val {tg e : Expr} {m : MV} (h : JZ X W e m) : JI X W tg e (iV m) := ⟨_, pi_or (pi_list h.pe) (pi_or (pi_tup h.pe) (pi_str h.pe)), fun F S σ H R c q => by
  unfold iV at q
  have q2 := Fin.bind q
  cases hm : m S with
  | no =>
    rw [hm] at q2
    exact q2.elim
  | exc x fs =>
    rw [hm] at q2
    exact .inl ⟨F, S, c, by rw [hm]; exact q2⟩
  | ok d =>
    rw [hm] at q2
    cases d with
    | lst ds =>
      refine .inl ⟨F, S, c, ?_⟩
      rw [hm]
      intro F1 H1 t v rp
      cases rp with
      | lst h r =>
        refine ⟨_, rfl, ⟨_, .inl (.inl (t.sub _ _ h))⟩, ?_⟩
        exact Fin.now t.sub (q2 F1 H1 t) _ (it_list (.inl (.inl h)) r)
    | scr ns =>
      refine .inl ⟨F, S, c, ?_⟩
      rw [hm]
      intro F1 H1 t v rp
      cases rp with
      | scr h =>
        refine ⟨_, rfl, ⟨_, gr_l t.sub h⟩, ?_⟩
        exact Fin.now t.sub (q2 F1 H1 t) _ (it_list h (.of_ints ns))
    | tup ds =>
      refine .inr (.inl ⟨F, S, c, ?_⟩)
      rw [hm]
      intro F1 H1 t v rp
      cases rp with
      | tup h r =>
        refine ⟨_, rfl, ⟨_, gr_t t.sub (SqX.t h)⟩, ?_⟩
        exact Fin.now t.sub (q2 F1 H1 t) _ (it_tup (SqX.t h) r)
    | str x =>
      refine .inr (.inr ⟨F, S, c, ?_⟩)
      rw [hm]
      intro F1 H1 t v rp
      cases rp with
      | str _ hx =>
        refine ⟨_, rfl, ?_⟩
        exact Fin.now t.sub (q2 F1 H1 t) _ (it_str hx)
    | _ =>
      have z := q2 F H (.refl c.sub)
      exact z.elim⟩
/-- lo, lo + 1, .. -/
def rangeL (lo : Int) (n : Nat) : List D := (List.range n).map fun (i : Nat) => .int (lo + i)
theorem rangeL_get {lo : Int} {n i : Nat} {d : D} (h : (rangeL lo n)[i]? = some d) : i < n ∧ d = .int (lo + i) := by
  unfold rangeL at h
  rw [List.getElem?_map] at h
  cases e : (List.range n)[i]? with
  | none =>
    rw [e] at h
    cases h
  | some j =>
    rw [e] at h
    cases h
    obtain ⟨h1, h2⟩ := List.getElem?_eq_some_iff.mp e
    rw [List.length_range] at h1
    rw [List.getElem_range] at h2
    subst h2
    exact ⟨h1, rfl⟩
theorem rangeL_len (lo : Int) (n : Nat) : (rangeL lo n).length = n := by
  unfold rangeL
  rw [List.length_map, List.length_range]
theorem it_rng {K : Kp} {F1 : Hp} (lo : Int) (n : Nat) : ItOk K F1 (Itr lo n) (rangeL lo n) := fun F H g1 g2 => by
  refine ⟨fun i d e => ?_, fun i hi => by rw [rangeL_len] at hi; exact hi⟩
  obtain ⟨h1, rfl⟩ := rangeL_get e
  refine ⟨h1, fun x H' y => ?_⟩
  obtain ⟨rfl, rfl⟩ := y
  exact ⟨F, .refl g2, .int _⟩
def rng1 : List D → Out (List D)
  | [.int n] => if n.toNat ≤ 1000000000 ∧ (-n).toNat ≤ 1000000000 then .ok (rangeL 0 n.toNat) else .no
  | _ => .no
def rng2 : List D → Out (List D)
  | [.int a, .int b] => if a.toNat ≤ 1000000000 ∧ (-a).toNat ≤ 1000000000 ∧ b.toNat ≤ 1000000000 ∧ (-b).toNat ≤ 1000000000 then .ok (rangeL a (b - a).toNat) else .no
  | _ => .no
def iR (f : List D → Out (List D)) (m : MA) : MA := fun S => (m S).bind f
theorem ji_range1 {tg a : Expr} {ma : MA} {p : Pos} (hg : Gl X "range") (hm : X.mg "range" = none) (ha : JW X W [a] ma) (hs : starEach [a] X.env = [(false, eval a X.env)] := by rfl) : JI X W tg (.Call (.Name "range" p) [a] [] pos) (iR rng1 ma) := ⟨_, pi_range1 hg hm ha.pa hs, fun F S σ H R c q => by
  refine ⟨F, S, c, Fin.imp (Fin.bind q) fun ds F1 H1 t z vs rp => ?_⟩
  unfold rng1 at z
  split at z
  · obtain ⟨v, rfl, h⟩ := rp.one
    split at z
    · rename_i hb
      refine ⟨_, by rw [h.int (c.step t)], by omega, by omega, Fin.now t.sub z _ (it_rng 0 _)⟩
    · exact z.elim
  · exact z.elim⟩
theorem ji_range2 {tg a b : Expr} {ma : MA} {p : Pos} (hg : Gl X "range") (hm : X.mg "range" = none) (ha : JW X W [a, b] ma) (hs : starEach [a, b] X.env = [(false, eval a X.env), (false, eval b X.env)] := by rfl) (hs2 : starEach [b] X.env = [(false, eval b X.env)] := by rfl) : JI X W tg (.Call (.Name "range" p) [a, b] [] pos) (iR rng2 ma) := ⟨_, pi_range2 hg hm ha.pa hs hs2, fun F S σ H R c q => by
  refine ⟨F, S, c, Fin.imp (Fin.bind q) fun ds F1 H1 t z vs rp => ?_⟩
  unfold rng2 at z
  split at z
  · obtain ⟨v, u, rfl, h, h2⟩ := rp.two
    split at z
    · rename_i hb
      refine ⟨_, _, by rw [h.int (c.step t), h2.int (c.step t)], by omega, Fin.now t.sub z _ (it_rng _ _)⟩
    · exact z.elim
  · exact z.elim⟩

/-! ### comprehensions -/
def W0 : WX := fun _ _ _ _ => False
def lcL (tg : D → Ss → Option Ss) (tt : MT) (te : MV) (S0 : Ss) : List D → Out (List D)
  | [] => .ok []
  | d :: ds => match tg d S0 with
    | none => .no
    | some S1 => match tt S1 with
      | .ok true => (match te S1 with
        | .ok x => (lcL tg tt te S0 ds).bind fun r => .ok (x :: r)
        | _ => .no)
      | .ok false => lcL tg tt te S0 ds
      | _ => .no
def mLc (vs : List Nat) (tg : D → Ss → Option Ss) (it : MA) (tt : MT) (te : MV) : ME := fun S => (it S).bind fun ds => match lcL tg tt te (wipeS S vs) ds with
  | .ok rs => lstD rs
  | _ => .no
def mYes : MT := fun _ => .ok true
theorem wipeS_wipe {σ : L2.St} {S : Ss} {K : Kp} {F H : Hp} (c : Cp K F S σ H) (vs : List Nat) : Cp K F (wipeS S vs) (wipe σ vs) H := by
  have e : ∀ (i : Nat), i ∉ vs → (wipe σ vs)[i]? = σ[i]? := fun i hi => by rw [wipe_get, if_neg hi]
  have k : ∀ (i : Nat) (sl : Sl), (wipeS S vs)[i]? = some sl → sl = .no ∨ (S[i]? = some sl ∧ i ∉ vs) := by
    intro i sl
    induction vs with
    | nil => exact fun h => .inr ⟨h, by simp⟩
    | cons v vs ih =>
      intro h
      unfold wipeS at h
      by_cases hv : i = v
      · subst hv
        exact .inl (set_self h).symm
      · rw [List.getElem?_set_ne (Ne.symm hv)] at h
        rcases ih (fun j hj => by rw [wipe_get, if_neg hj]) h with z | ⟨z1, z2⟩
        · exact .inl z
        · exact .inr ⟨z1, by simp [hv, z2]⟩
  refine ⟨c.sub, by rw [wipeS_len, wipe_length]; exact c.len, fun i d h => ?_, fun i d h => ?_, fun i j di dj a ne hi hj ai aj => ?_, fun i dss h => ?_⟩
  · rcases k i _ h with z | ⟨z1, z2⟩
    · cases z
    · obtain ⟨v, h1, h2⟩ := c.fz i d z1
      exact ⟨v, by rw [e i z2]; exact h1, h2⟩
  · rcases k i _ h with z | ⟨z1, z2⟩
    · cases z
    · obtain ⟨a, h1, h2⟩ := c.own i d z1
      exact ⟨a, by rw [e i z2]; exact h1, h2⟩
  · rcases k i _ hi with z | ⟨z1, z2⟩
    · cases z
    · rcases k j _ hj with z | ⟨y1, y2⟩
      · cases z
      · rw [e i z2] at ai
        rw [e j y2] at aj
        exact c.dis i j di dj a ne z1 y1 ai aj
  · rcases k i _ h with z | ⟨z1, z2⟩
    · cases z
    · obtain ⟨⟨a, rs, h1, h2⟩, h3⟩ := c.row i dss z1
      refine ⟨⟨a, rs, by rw [e i z2]; exact h1, h2⟩, fun j sl hj ej => ?_⟩
      rcases k j _ ej with y | ⟨y1, _⟩
      · rw [y]
        rfl
      · exact h3 j sl hj y1
def C00 : Ct := ⟨fun _ => none, fun _ => none, none⟩
theorem bs0 {K : Kp} {F H : Hp} {S : Ss} {σ : L2.St} (c : Cp K F S σ H) : Bs K C00 F S σ H := ⟨c, ⟨(fun _ _ h => by cases h), (fun _ _ h => by cases h), c.sub, fun _ _ _ => .inr rfl⟩, fun _ _ _ _ _ => rfl, fun i dss e => by
  obtain ⟨⟨a, rs, h1, h2⟩, _⟩ := c.row i dss e
  exact ⟨a, rs, h1, h2, fun _ _ => rfl⟩, fun x d ex => nomatch ex⟩
structure JTs (X : Cx) (W : WX) (ifs : List Expr) (m : MT) : Prop where
  pts : PTs X ifs (tT (kp X) W m)
theorem jts_nil : JTs X W [] mYes := ⟨⟨fun pins s σ H Q I ⟨F, S, c, q⟩ => pts_nil.run pins s σ H Q I (Fin.now c.sub q)⟩⟩
theorem jts_one {c : Expr} {m : MT} (h : JT X W c m) : JTs X W [c] m := ⟨pts_one h.pt⟩
theorem lc_imp {K : Kp} {vs is : List Nat} {g : D → Ss → Option Ss} {mi : MA} {tt : MT} {te : MV} {wi : TI} (hv : ∀ i ∈ is, i ∈ vs)
    (h2 : ∀ F S σ H R, Cp K F S σ H → Fin K W F H σ (mi S) (fun ds F1 H1 => ∀ J, ItOk K F1 J ds → R J H1) → wi σ H R)
    (σ : L2.St) (H : Hp) (Q : VK) (h : tI K W (mLc vs g mi tt te) σ H Q) : tLc wi (tG K is g) (tT K W0 tt) (tZ K W0 te) vs σ H Q := by
  obtain ⟨F, S, c, q⟩ := h
  refine h2 F S σ H _ c (Fin.imp (Fin.bind q) fun ds F1 H1 t1 z J ok => fun D hD => ?_)
  -- what is to come
  have c1 := c.step t1
  cases hl : lcL g tt te (wipeS S vs) ds with
  | no =>
    simp only [hl] at z
    exact z.elim
  | exc x fs =>
    simp only [hl] at z
    exact z.elim
  | ok rs =>
    simp only [hl] at z
    unfold lstD at z
    split at z
    · rename_i hz
      refine ⟨fun i k H2 => k = ds.length - i ∧ i ≤ ds.length ∧ ∃ F2 acc r1 r2, Step F1 H1 F2 H2 ∧ H2 D = some (.lst acc) ∧ RepL K F2 acc r1 ∧ F2 D = none ∧ lcL g tt te (wipeS S vs) (ds.drop i) = .ok r2 ∧ r1 ++ r2 = rs, ⟨ds.length, by simp, Nat.zero_le _, F1, [], [], rs, .newH t1.sub hD, upd_same, .nil, t1.sub.free hD, by simpa using hl, rfl⟩, ?_⟩
      rintro i k H2 ⟨rfl, hi, F2, acc, r1, r2, t2, hacc, rep, hF2, hr2, hrs⟩
      obtain ⟨ok1, ok2⟩ := ok F2 H2 t2.gf t2.sub
      by_cases hlt : i < ds.length
      · have hd : ds[i]? = some ds[i] := List.getElem?_eq_getElem hlt
        obtain ⟨go, yl⟩ := ok1 i _ hd
        rw [List.drop_eq_getElem_cons hlt] at hr2
        unfold lcL at hr2
        cases hg : g ds[i] (wipeS S vs) with
        | none =>
          rw [hg] at hr2
          cases hr2
        | some S1 =>
          rw [hg] at hr2
          simp only at hr2
          refine .inr ⟨go, fun H3 => ∃ F2 acc r1 r2, Step F1 H1 F2 H3 ∧ H3 D = some (.lst acc) ∧ RepL K F2 acc r1 ∧ F2 D = none ∧ lcL g tt te (wipeS S vs) (ds.drop (i + 1)) = .ok r2 ∧ r1 ++ r2 = rs, fun H3 w => ⟨ds.length - (i + 1), by omega, rfl, hlt, w⟩, fun x H3 y => ?_⟩
          obtain ⟨F3, t3, rp⟩ := yl x H3 y
          have t13 := t2.trans t3
          have cw : Cp K F3 (wipeS S vs) (wipe σ vs) H3 := (wipeS_wipe (c1.step t13) vs)
          have keepD : ∀ {F4 H4 : Hp}, Step F2 H2 F4 H4 → H4 D = some (.lst acc) ∧ F4 D = none := fun {F4 H4} t4 => by
            refine ⟨t4.gh _ _ hacc, ?_⟩
            cases hq : F4 D with
            | none => rfl
            | some o =>
              rcases t4.new D o hq with y | y
              · rw [hF2] at y
                cases y
              · rw [hacc] at y
                cases y
          refine ⟨C00, F3, wipeS S vs, ds[i], S1, bs0 cw, rp, hg, fun σ4 b4 w4 => ⟨(w4 vs hv).trans wipe_wipe, F3, S1, b4.cp, ?_⟩⟩
          cases ht : tt S1 with
          | no =>
            rw [ht] at hr2
            cases hr2
          | exc c fs =>
            rw [ht] at hr2
            cases hr2
          | ok b =>
            rw [ht] at hr2
            intro F4 H4 t4
            cases b with
            | false =>
              simp only at hr2 ⊢
              obtain ⟨k1, k2⟩ := keepD (t3.trans t4)
              exact ⟨F4, acc, r1, r2, t13.trans t4, k1, rep.mono (t3.gf.trans t4.gf), k2, hr2, hrs⟩
            | true =>
              simp only [if_true] at hr2 ⊢
              cases he : te S1 with
              | no =>
                rw [he] at hr2
                cases hr2
              | exc c fs =>
                rw [he] at hr2
                cases hr2
              | ok x =>
                rw [he] at hr2
                simp only at hr2
                refine ⟨F4, S1, b4.cp.step t4, ?_⟩
                rw [he]
                intro F5 H5 t5 v rv
                obtain ⟨k1, k2⟩ := keepD ((t3.trans t4).trans t5)
                cases hr : lcL g tt te (wipeS S vs) (ds.drop (i + 1)) with
                | no =>
                  rw [hr] at hr2
                  cases hr2
                | exc c fs =>
                  rw [hr] at hr2
                  cases hr2
                | ok r3 =>
                  rw [hr] at hr2
                  cases hr2
                  have hlen : r1.length + (r3.length + 1) = rs.length := by
                    rw [← hrs, List.length_append, List.length_cons]
                  have t15 := (t13.trans t4).trans t5
                  refine ⟨acc, k1, szl' (by rw [rep.len]; omega), F5, acc ++ [v], r1 ++ [x], r3, ⟨t15.gf, ?_, ?_, t15.new⟩, upd_same, (rep.mono ((t3.gf.trans t4.gf).trans t5.gf)).app (.cons rv .nil), k2, rfl, by simpa using hrs⟩
                  · intro a o e
                    rw [upd_ne (ne_of_none e hD)]
                    exact t15.gh a o e
                  · intro a o e
                    rw [upd_ne (ne_of_none e k2)]
                    exact t15.sub a o e
      · have e : i = ds.length := by omega
        subst e
        refine .inl ⟨ok2 _ (Nat.le_refl _), ?_⟩
        rw [List.drop_length] at hr2
        cases hr2
        rw [List.append_nil] at hrs
        subst hrs
        refine z F2 H2 t2 (.ref D) (.inr ⟨rfl, D, rfl, .lst hacc rep, ?_, hF2⟩)
        exact t1.gh.free hD
    · exact z.elim
theorem je_lc {elt tg iter : Expr} {ifs : List Expr} {scope : Scope} {own : List (Str × Nat)} {is : List Nat} {g : D → Ss → Option Ss} {mi : MA} {tt : MT} {te : MV} (hc : X.calm = true) (hN : X.N.Nodup) (hi : JI X W tg iter mi) (ok : BlkOk X.N X.env.scope scope own)
    (hg : ∀ (s : Shared) (H : Hp) (C : Addr) (cl : List (Str × Addr)) (fp : List Addr), JG (X.blk s H scope (compEnvC scope cl C X.env) fp) tg is g) (ht : ∀ (s : Shared) (H : Hp) (C : Addr) (cl : List (Str × Addr)) (fp : List Addr), JTs (X.blk s H scope (compEnvC scope cl C X.env) fp) W0 ifs tt)
    (he : ∀ (s : Shared) (H : Hp) (C : Addr) (cl : List (Str × Addr)) (fp : List Addr), JZ (X.blk s H scope (compEnvC scope cl C X.env) fp) W0 elt te) (hv : ∀ i ∈ is, i ∈ own.map (·.2) := by decide) (hs : ∀ x, foldedSetIterable iter X.env x = pure x := by intro _; rfl) :
    JE X W (.ListComp elt [⟨tg, iter, ifs, 0⟩] scope pos) (mLc (own.map (·.2)) g mi tt te) := by
  obtain ⟨wi, h1, h2⟩ := hi.ex
  exact ⟨pe_imp (pe_lc hc hN h1 ok (fun s H C cl fp => (hg s H C cl fp).pg) (fun s H C cl fp => (ht s H C cl fp).pts) (fun s H C cl fp => (he s H C cl fp).pe) hs) (lc_imp hv h2)⟩
/-- y = [..] -/
theorem js_setLc {i : Nat} {y : Str} {py : Pos} {elt tg iter : Expr} {ifs : List Expr} {scope : Scope} {own : List (Str × Nat)} {spos : Pos} {is : List Nat} {g : D → Ss → Option Ss} {mi : MA} {tt : MT} {te : MV} (hc : X.calm = true) (hN : X.N.Nodup) (hy : X.N[i]? = some y) (hyl : X.env.scope.names.lookup y = some .local)
    (hsw : swapsWith (.ListComp elt [⟨tg, iter, ifs, 0⟩] scope pos) (some (.Name y py)) spos.line X.env = pure true) (hi : JI X W tg iter mi) (ok : BlkOk X.N X.env.scope scope own)
    (hg : ∀ (s : Shared) (H : Hp) (C : Addr) (cl : List (Str × Addr)) (fp : List Addr), JG (X.blk s H scope (compEnvC scope cl C X.env) fp) tg is g) (ht : ∀ (s : Shared) (H : Hp) (C : Addr) (cl : List (Str × Addr)) (fp : List Addr), JTs (X.blk s H scope (compEnvC scope cl C X.env) fp) W0 ifs tt)
    (he : ∀ (s : Shared) (H : Hp) (C : Addr) (cl : List (Str × Addr)) (fp : List Addr), JZ (X.blk s H scope (compEnvC scope cl C X.env) fp) W0 elt te) (hv : ∀ i ∈ is, i ∈ own.map (·.2) := by decide) (hs : ∀ x, foldedSetIterable iter X.env x = pure x := by intro _; rfl) (hq : i ≠ 0 ∨ X.N.head? ≠ some ("self" : Str) := by first | exact .inl (by decide) | exact .inr (by decide)) :
    JS X W (.Assign [.Name y py] (.ListComp elt [⟨tg, iter, ifs, 0⟩] scope pos) spos) (asS i (mLc (own.map (·.2)) g mi tt te)) := by
  obtain ⟨wi, h1, h2⟩ := hi.ex
  refine ⟨fun C hC => ps_imp (ps_setLc (g := tG (kp X) is g) (tt := tT (kp X) W0 tt) (te := tZ (kp X) W0 te) hc hN hy hyl hsw h1 ok (fun s H C cl fp => (hg s H C cl fp).pg) (fun s H C cl fp => (ht s H C cl fp).pts) (fun s H C cl fp => (he s H C cl fp).pe) hs) fun D σ H ⟨F, S, b, q⟩ => ?_⟩
  refine lc_imp hv h2 σ H _ ⟨F, S, b.cp, Fin.imp (FinS.out b q) fun r F1 H1 t z v rp => b.asR t i rp (pin_or hC hq) z⟩

/-! ### x.append(e), x held -/
def apS (i : Nat) (m : MV) : MS := fun S => match S[i]? with
  | some (.own (.lst ds)) => ofOut S (m S) fun d => if ds.length < 16000000 then .nx (S.set i (.own (.lst (ds ++ [d])))) else .no
  | _ => .no
theorem js_app {i : Nat} {x : Str} {p apos cpos : Pos} {e : Expr} {m : MV} (h0 : PE X (.Name x p) (tVar i)) (h : JZ X W e m)
    (hbase : attributeBase (.Name x p) "append" X.env (eval (.Name x p) X.env) = eval (.Name x p) X.env := by rfl)
    (hfew : ((backTo cpos (starEach [e] X.env)).all (fun x => !x.1) && (backToKw cpos (keywordEach [] X.env)).all (fun x => x.1.isSome)
      && decide (([e] : List Expr).length + ([] : List Keyword).length + (if ([] : List Keyword).isEmpty then 0 else 1) < 30)) = true := by rfl)
    (hline : (apos.endLine == cpos.line) = true := by rfl) (hs : starEach [e] X.env = (false, eval e X.env) :: starEach [] X.env := by rfl) (hplain : (backTo cpos (starEach [] X.env)).any (·.1) = false := by rfl)
    (hsw : swapsWith (.Call (.Attribute (.Name x p) "append" apos) [e] [] cpos) none pos.line X.env = pure false := by rfl) :
    JS X W (.Expr (.Call (.Attribute (.Name x p) "append" apos) [e] [] cpos) pos) (apS i m) := ⟨fun C hC => ps_imp (ps_expr (pe_bm PySem.F.plainAttrs_list PySem.F.slot_list_append PySem.F.type_list_append mt_append h0 (pa_cons h.pe pa_nil hs) hbase hfew hline hs hplain) hsw) fun D σ H ⟨F, S, b, q⟩ => by
  unfold apS at q
  split at q
  · rename_i ds hS
    obtain ⟨a, ha, ow, hf⟩ := b.cp.own i _ hS
    cases ow with
    | lst hH r =>
      refine ⟨.ref a, ha, .inl ⟨rfl, _, .inl (.inl hH)⟩, F, S, b.cp, Fin.imp (FinS.out b q) fun d F1 H1 t z v rv => ?_⟩
      split at z
      · rename_i hl
        refine ⟨a, _, v, rfl, rfl, t.gh _ _ hH, szl' (by rw [r.len]; exact hl), ?_⟩
        exact z F1 σ _ ((b.step t).mut hS ha (.lst upd_same ((r.mono t.gf).app (.cons rv .nil)))) (.refl _)
      · exact z.elim
  · exact q.elim⟩
end
end VM

namespace VM
open PySem PySem.Spec PyProof.Rows L2

section
variable {X : Cx} {W : WX} {pos : Pos}
/-! ### constants -/
theorem je_int {i : Int} {j : Nat} : JE X W (.Constant (.int i) j pos) (mC (.int i)) := je_c pe_int fun _ => .int i
theorem je_bl {b : Bool} {j : Nat} : JE X W (.Constant (.bool b) j pos) (mC (.bl b)) := je_c pe_bl fun _ => .bl b
theorem je_non {j : Nat} : JE X W (.Constant .none j pos) (mC .non) := je_c pe_non fun _ => .non
theorem rep_str {K : Kp} {F : Hp} {x : Str} {z : List Nat} (h : decide (x = ms z) = true) (ok : strOk' z = true) : Rep K F (.str x) (.str z) := by
  rw [of_decide_eq_true h]
  exact .str z ok
theorem je_str {x : Str} {j : Nat} (z : List Nat) (h : decide (x = ms z) = true) (ok : strOk' z = true) : JE X W (.Constant (.str x) j pos) (mC (.str z)) := je_c pe_str fun _ => rep_str h ok
/-- a name of the module that holds a constant -/
def CstOk (K : PySem.W.Frag) (mg : Str → Option Value) (x : Str) (d : D) : Prop := ∃ v u, mg x = some u ∧ RelV v u ∧ ∀ dm F, Rep ⟨K, dm⟩ F v d
theorem je_cst {x : Str} {d : D} (h : CstOk X.K X.mg x d) (hg : Gl X x) (hd : (x == ("__debug__" : Str)) = false := by decide) : JE X W (.Name x pos) (mC d) := by
  obtain ⟨v, u, h1, h2, h3⟩ := h
  exact je_c (pe_glob hg h1 h2 hd) (h3 _)
mutual
def valB (K : PySem.W.Frag) : D → Value → Bool
  | .non, .none => true
  | .bl b, .bool c => b == c
  | .int i, .int j _ => decide (i = j)
  | .str x, .str y _ => decide (y = ms x) && strOk' x
  | .tup ds, .ref a => match K.lookup a with
    | some ⟨.type c, none, .seq its _, sl⟩ => decide (c = "tuple") && (sl.isEmpty && (decide (its.size ≤ sizeLine) && valAllB K ds its.toList))
    | _ => false
  | _, _ => false
def valAllB (K : PySem.W.Frag) : List D → List Value → Bool
  | [], [] => true
  | d :: ds, u :: us => valB K d u && valAllB K ds us
  | _, _ => false
end
mutual
theorem valB_ok {K : PySem.W.Frag} : ∀ (d : D) (u : Value), valB K d u = true → ∃ v, RelV v u ∧ ∀ dm F, Rep ⟨K, dm⟩ F v d
  | .non, u, h => by
    cases u <;> first | (simp [valB] at h; done) | exact ⟨.non, rfl, fun _ _ => .non⟩
  | .bl b, u, h => by
    cases u with
    | bool c =>
      simp only [valB, beq_iff_eq] at h
      subst h
      exact ⟨.bl b, rfl, fun _ _ => .bl b⟩
    | _ => simp [valB] at h
  | .int i, u, h => by
    cases u with
    | int j t =>
      simp only [valB, decide_eq_true_eq] at h
      subst h
      exact ⟨.int i, ⟨t, rfl⟩, fun _ _ => .int i⟩
    | _ => simp [valB] at h
  | .str x, u, h => by
    cases u with
    | str y t =>
      simp only [valB, Bool.and_eq_true, decide_eq_true_eq] at h
      obtain ⟨h1, h2⟩ := h
      subst h1
      exact ⟨.str (ms x), ⟨t, rfl⟩, fun _ _ => .str x h2⟩
    | _ => simp [valB] at h
  | .tup ds, u, h => by
    cases u with
    | ref a =>
      simp only [valB] at h
      split at h
      · rename_i c its n osl hk
        simp only [Bool.and_eq_true, decide_eq_true_eq] at h
        obtain ⟨h1, h4, h2, h3⟩ := h
        obtain ⟨vs, r1, r2⟩ := valAllB_ok ds its.toList h3
        rw [Array.isEmpty_iff] at h4
        subst h1 h4
        exact ⟨.ref a, rfl, fun dm F => .tup (.inr ⟨its.toList, n, hk, by simpa using h2, r1⟩) (r2 dm F)⟩
      · cases h
    | _ => simp [valB] at h
  | .lst _, u, h => by cases u <;> simp [valB] at h
  | .dic _, u, h => by cases u <;> simp [valB] at h
  | .obj _ _, u, h => by cases u <;> simp [valB] at h
  | .scr _, u, h => by cases u <;> simp [valB] at h
theorem valAllB_ok {K : PySem.W.Frag} : ∀ (ds : List D) (us : List Value), valAllB K ds us = true → ∃ vs, Vals vs us ∧ ∀ dm F, RepL ⟨K, dm⟩ F vs ds
  | [], us, h => by
    cases us with
    | nil => exact ⟨[], .nil, fun _ _ => .nil⟩
    | cons u us => simp [valAllB] at h
  | d :: ds, us, h => by
    cases us with
    | nil => simp [valAllB] at h
    | cons u us =>
      simp only [valAllB, Bool.and_eq_true] at h
      obtain ⟨v, r1, r2⟩ := valB_ok d u h.1
      obtain ⟨vs, q1, q2⟩ := valAllB_ok ds us h.2
      exact ⟨v :: vs, .cons r1 q1, fun dm F => .cons (r2 dm F) (q2 dm F)⟩
end
def cstB (K : PySem.W.Frag) (p : Str × D) : Bool := match PySem.W.nsIn K mainGlobals p.1 with
  | some (some u) => valB K p.2 u
  | _ => false
theorem cstB_ok {K : PySem.W.Frag} {mg : Str → Option Value} {h : Heap} {p : Str × D} (X : K.In h) (G : h.Ns mainGlobals mg) (c : cstB K p = true) : CstOk K mg p.1 p.2 := by
  unfold cstB at c
  split at c
  · rename_i u hu
    obtain ⟨v, r1, r2⟩ := valB_ok p.2 u c
    exact ⟨v, u, PySem.W.mg_of X G hu, r1, r2⟩
  · cases c

/-! ### methods of texts -/
structure MtD (X : Cx) (W : WX) (id : String) (g : D → List D → Out R) : Prop where
  ex : ∃ r : V → List V → Hp → VK → Prop, MtR X id r ∧ ∀ F S σ H x dx xs dxs Q, Cp (kp X) F S σ H → Vw (kp X) F S σ x dx → VwL (kp X) F S σ xs dxs → Fin (kp X) W F H σ (g dx dxs) (kE (kp X) H Q) → r x xs H Q
def isStr : D → Bool
  | .str _ => true
  | _ => false
/-- o.m(..) of a text -/
def mMs (g : D → List D → Out R) (a : MV) (as : MA) : ME := fun S => (a S).bind fun x => if isStr x then (as S).bind fun ds => g x ds else .no
theorem je_bms {o e : Expr} {es : List Expr} {name : Str} {apos cpos : Pos} {id : String} {g : D → List D → Out R} {mo : MV} {ma : MA} (slot : Slot "str" name id) (hty : typeOf (.builtin id) = pure (.type "method_descriptor")) (hm : MtD X W id g) (ho : JV X W o mo) (ha : JW X W (e :: es) ma)
    (hbase : attributeBase o name X.env (eval o X.env) = eval o X.env := by rfl)
    (hfew : ((backTo cpos (starEach (e :: es) X.env)).all (fun x => !x.1) && (backToKw cpos (keywordEach [] X.env)).all (fun x => x.1.isSome)
      && decide ((e :: es).length + ([] : List Keyword).length + (if ([] : List Keyword).isEmpty then 0 else 1) < 30)) = true := by rfl)
    (hline : (apos.endLine == cpos.line) = true := by rfl) (hs : starEach (e :: es) X.env = (false, eval e X.env) :: starEach es X.env := by rfl) (hplain : (backTo cpos (starEach es X.env)).any (·.1) = false := by rfl) :
    JE X W (.Call (.Attribute o name apos) (e :: es) [] cpos) (mMs g mo ma) := by
  obtain ⟨r, h1, h2⟩ := hm.ex
  refine ⟨pe_imp (pe_bm PySem.F.plainAttrs_str slot hty h1 ho.pe ha.pa hbase hfew hline hs hplain) fun σ H Q ⟨F, S, c, q⟩ => ⟨F, S, c, Fin.imp (Fin.bind q) fun x F1 H1 t1 z1 v1 r1 => ?_⟩⟩
  have c1 := c.step t1
  split at z1
  · rename_i hx
    cases x with
    | str z =>
      obtain ⟨ex, _⟩ := r1.str c1
      subst ex
      exact ⟨rfl, F1, S, c1, Fin.imp (Fin.bind z1) fun ds F2 H2 t2 z2 vs r2 => h2 F2 S σ H2 _ _ vs ds Q (c1.step t2) (r1.mono t2.gf) r2 (Fin.kE_mono (t1.gh.trans t2.gh) z2)⟩
    | _ => cases hx
  · exact z1.elim
def spL (x y : List Nat) : List (List Nat) := (Txt.split (ms x) (ms y)).map fun z => z.cps.toList
def splitD (x : D) (as : List D) : Out R := match x, as with
  | .str x, [.str y] => if y.isEmpty = false ∧ x.length ≤ 15000000 ∧ (spL x y).all strOk' = true then owO (.lst ((spL x y).map .str)) else .no
  | _, _ => .no
theorem ms_to (z : Str) : ms z.cps.toList = z := by
  simp [ms]
theorem mt_splitD : MtD X W "str.split" splitD := ⟨_, mt_split, fun F S σ H x dx xs dxs Q c hx hxs q => by
  unfold splitD at q
  split at q
  · rename_i x y
    obtain ⟨ex, _⟩ := hx.str c
    obtain ⟨v, rfl, hv⟩ := hxs.one
    obtain ⟨ey, _⟩ := hv.str c
    split at q
    · rename_i hc
      refine ⟨ms x, ms y, ex, by rw [ey], ?_, szl (by rw [ms_len]; have := hc.2.1; omega), ?_⟩
      · rw [ms_len]
        cases y with
        | nil => simp at hc
        | cons a r => simp
      · intro p hp
        have e : (Txt.split (ms x) (ms y)).map V.str = (((spL x y)).map ms).map V.str := by
          unfold spL
          rw [List.map_map, List.map_map]
          exact List.map_congr_left fun z _ => congrArg V.str (ms_to z).symm
        rw [e]
        exact fin_lst c q (RepL.of_strs fun z hz => List.all_eq_true.mp hc.2.2 z hz) p hp
    · exact q.elim
  · exact q.elim⟩
def strsOf : List D → Option (List (List Nat))
  | [] => some []
  | .str b :: ds => (strsOf ds).map (b :: ·)
  | _ :: _ => none
theorem strsOf_eq : ∀ {ds : List D} {bs : List (List Nat)}, strsOf ds = some bs → ds = bs.map D.str
  | [], _, h => by
    cases h
    rfl
  | d :: ds, bs, h => by
    cases d with
    | str b =>
      unfold strsOf at h
      cases e : strsOf ds with
      | none =>
        rw [e] at h
        cases h
      | some r =>
        rw [e] at h
        cases h
        rw [strsOf_eq e]
        rfl
    | _ => cases h
theorem strsOf_map (bs : List (List Nat)) : strsOf (bs.map D.str) = some bs := by
  induction bs with
  | nil => rfl
  | cons b bs ih =>
    rw [List.map_cons]
    unfold strsOf
    rw [ih]
    rfl
/-- texts joined -/
def jnL (sep : List Nat) (xs : List (List Nat)) : List Nat := (xs.drop 1).foldl (fun acc p => acc ++ sep ++ p) (xs.headD [])
theorem jn_foldl (sep : Str) : ∀ (xs : List (List Nat)) (acc : List Nat), ((xs.map ms).foldl (fun acc p => acc ++ sep.cps ++ p.cps) acc.toArray) = (xs.foldl (fun acc p => acc ++ sep.cps.toList ++ p) acc).toArray
  | [], acc => rfl
  | x :: xs, acc => by
    rw [List.map_cons, List.foldl_cons, List.foldl_cons, ← jn_foldl sep xs]
    congr 1
    simp [ms]
theorem jn_eq (sep : List Nat) (xs : List (List Nat)) : Txt.join (ms sep) (xs.map ms) = ms (jnL sep xs) := by
  unfold Txt.join Builtin.Str.glued jnL
  have e : ((xs.map ms).headD Str.empty).cps = (xs.headD []).toArray := by
    cases xs with
    | nil => rfl
    | cons x xs => rfl
  rw [e, ← List.map_drop, jn_foldl]
  show Str.mk _ = Str.mk _
  simp [ms]
def joinD (x : D) (as : List D) : Out R := match x, as with
  | .str x, [.lst ds] => optO (strsOf ds) fun xs => if (xs.map (·.length)).sum + xs.length * x.length ≤ 16000000 then fzO (.str (jnL x xs)) else .no
  | .str x, [.tup ds] => optO (strsOf ds) fun xs => if (xs.map (·.length)).sum + xs.length * x.length ≤ 16000000 then fzO (.str (jnL x xs)) else .no
  | _, _ => .no
theorem jn_ok {sep : List Nat} (hs : strOk' sep = true) : ∀ (xs : List (List Nat)), (∀ x ∈ xs, strOk' x = true) → ∀ acc : List Nat, strOk' acc = true → strOk' (xs.foldl (fun acc p => acc ++ sep ++ p) acc) = true
  | [], _, acc, h => h
  | x :: xs, hx, acc, h => by
    rw [List.foldl_cons]
    refine jn_ok hs xs (fun y hy => hx y (List.mem_cons_of_mem _ hy)) _ ?_
    have := hx x List.mem_cons_self
    unfold strOk' at *
    rw [List.all_append, List.all_append, h, hs, this]
    rfl
theorem jnL_ok {sep : List Nat} (hs : strOk' sep = true) {xs : List (List Nat)} (hx : ∀ x ∈ xs, strOk' x = true) : strOk' (jnL sep xs) = true := by
  unfold jnL
  cases xs with
  | nil => rfl
  | cons x xs => exact jn_ok hs xs (fun y hy => hx y (List.mem_cons_of_mem _ hy)) x (hx x List.mem_cons_self)
theorem mt_joinD : MtD X W "str.join" joinD := ⟨_, mt_join, fun F S σ H x dx xs dxs Q c hx hxs q => by
  unfold joinD at q
  have le : ∀ ys : List (List Nat), (ys.map ms).map (·.length) = ys.map (·.length) := fun ys => by
    rw [List.map_map]
    exact List.map_congr_left fun z _ => ms_len z
  split at q
  · rename_i x ds
    obtain ⟨ex, kx⟩ := hx.str c
    obtain ⟨v, rfl, hv⟩ := hxs.one
    obtain ⟨a, vs, rfl, h1, r⟩ := hv.lst c
    cases hs : strsOf ds with
    | none =>
      rw [hs] at q
      exact q.elim
    | some ys =>
      simp only [hs, optO] at q
      rw [strsOf_eq hs] at r
      obtain ⟨e2, ky⟩ := r.strs
      subst e2
      split at q
      · rename_i hl
        refine ⟨ms x, a, ys.map ms, ex, rfl, .inl (.inl (.inl h1)), ?_, ?_⟩
        · rw [le, List.length_map, ms_len]
          omega
        · rw [jn_eq]
          exact fin_str c q (jnL_ok kx ky)
      · exact q.elim
  · rename_i x ds
    obtain ⟨ex, kx⟩ := hx.str c
    obtain ⟨v, rfl, hv⟩ := hxs.one
    obtain ⟨a, vs, rfl, h1, h1', r⟩ := hv.tup c
    cases hs : strsOf ds with
    | none =>
      rw [hs] at q
      exact q.elim
    | some ys =>
      simp only [hs, optO] at q
      rw [strsOf_eq hs] at r
      obtain ⟨e2, ky⟩ := r.strs
      subst e2
      split at q
      · rename_i hl
        refine ⟨ms x, a, ys.map ms, ex, rfl, .inr h1', ?_, ?_⟩
        · rw [le, List.length_map, ms_len]
          omega
        · rw [jn_eq]
          exact fin_str c q (jnL_ok kx ky)
      · exact q.elim
  · exact q.elim⟩

/-! ### a op b op c -/
def m3 (g h : D → D → Out R) (a b c : MV) : ME := fun S => (a S).bind fun x => (b S).bind fun y => (g x y).bind fun r => match r.d with
  | .bl true => (c S).bind fun z => h y z
  | .bl false => fzO (.bl false)
  | _ => .no
theorem chain_imp {K : Kp} {W : WX} {r r' : R2} {g g' : D → D → Out R} {ma mb mc : MV} (hr : ∀ F S σ H x y dx dy Q, Cp K F S σ H → Vw K F S σ x dx → Vw K F S σ y dy → Fin K W F H σ (g dx dy) (kE K H Q) → r x y H Q)
    (hr' : ∀ F S σ H x y dx dy Q, Cp K F S σ H → Vw K F S σ x dx → Vw K F S σ y dy → Fin K W F H σ (g' dx dy) (kE K H Q) → r' x y H Q)
    (σ : L2.St) (H : Hp) (Q : VK) (h : tI K W (m3 g g' ma mb mc) σ H Q) : tChain r r' (tV K W ma) (tV K W mb) (tV K W mc) σ H Q := by
  obtain ⟨F, S, c, q⟩ := h
  refine ⟨F, S, c, Fin.imp (Fin.bind q) fun x F1 H1 t1 z1 v1 r1 => ⟨F1, S, c.step t1, Fin.imp (Fin.bind z1) fun y F2 H2 t2 z2 v2 r2 => ?_⟩⟩
  have c2 := (c.step t1).step t2
  refine hr F2 S σ H2 v1 v2 x y _ c2 (r1.mono t2.gf) r2 ?_
  have z3 := Fin.bind z2
  cases hg : g x y with
  | no =>
    rw [hg] at z3
    exact z3
  | exc cc fs =>
    rw [hg] at z3
    exact z3
  | ok w =>
    rw [hg] at z3
    intro F3 H3 t3 v rp
    have z4 := z3 F3 H3 t3
    have c3 := c2.step t3
    cases hw : w.d with
    | bl b =>
      rcases rp with ⟨_, rp⟩ | ⟨_, a, _, o, _⟩
      · rw [hw] at rp
        cases rp
        cases b with
        | true =>
          simp only [hw] at z4
          refine ⟨true, rfl, ?_⟩
          rw [if_pos rfl]
          exact ⟨F3, S, c3, Fin.imp (Fin.bind z4) fun z F4 H4 t4 z5 v3 r3 => hr' F4 S σ H4 v2 v3 y z Q (c3.step t4) (r2.mono (t3.gf.trans t4.gf)) r3 (Fin.kE_mono (t1.gh.trans (t2.gh.trans (t3.gh.trans t4.gh))) z5)⟩
        | false =>
          simp only [hw] at z4
          refine ⟨false, rfl, ?_⟩
          rw [if_neg Bool.false_ne_true]
          exact Fin.now t3.sub z4 _ (.inl ⟨rfl, .bl false⟩)
      · rw [hw] at o
        cases o
    | _ =>
      simp only [hw] at z4
      exact z4.elim
theorem je_chain {op op' : CmpOp} {a b e : Expr} {g g' : D → D → Out R} {ma mb mc : MV} (ho : OpD X W (compareOp op) g) (ho' : OpD X W (compareOp op') g') (ha : JV X W a ma) (hb : JV X W b mb) (he : JV X W e mc)
    (hm : lastMarks [op, op'] [b, e] = false := by with_unfolding_all rfl) : JE X W (.Compare a [op, op'] [b, e] pos) (m3 g g' ma mb mc) := by
  obtain ⟨r, h1, h2⟩ := ho.ex
  obtain ⟨r', h1', h2'⟩ := ho'.ex
  exact ⟨pe_imp (pe_chain h1 h1' ha.pe hb.pe he.pe hm) (chain_imp h2 h2')⟩
theorem jt_of {e : Expr} {t : TE} {m : ME} (h : PT X e (tTest t)) (f : ∀ σ H Q, tI (kp X) W m σ H Q → t σ H Q) : JT X W e (tB' (mZ m)) := ⟨pt_imp h fun σ H Q ⟨F, S, c, q⟩ => by
  refine f σ H _ ⟨F, S, c, ?_⟩
  have q2 := Fin.bind q
  unfold mZ at q2
  cases hm : m S with
  | no =>
    rw [hm] at q2
    exact q2
  | exc x fs =>
    rw [hm] at q2
    exact q2
  | ok r =>
    rw [hm] at q2
    intro F1 H1 t v rp
    obtain ⟨F2, t2, g2, rp2⟩ := rp.fz t
    have z := q2 F2 H1 t2
    cases hd : r.d with
    | bl b =>
      rw [hd] at z rp2
      cases rp2
      exact ⟨b, rfl, Fin.now t2.sub z⟩
    | _ =>
      rw [hd] at z
      exact z.elim⟩
theorem jt_chain {op op' : CmpOp} {a b e : Expr} {g g' : D → D → Out R} {ma mb mc : MV} (ho : OpD X W (compareOp op) g) (ho' : OpD X W (compareOp op') g') (ha : JV X W a ma) (hb : JV X W b mb) (he : JV X W e mc)
    (hm : lastMarks [op, op'] [b, e] = false := by with_unfolding_all rfl) : JT X W (.Compare a [op, op'] [b, e] pos) (tB' (mZ (m3 g g' ma mb mc))) := by
  obtain ⟨r, h1, h2⟩ := ho.ex
  obtain ⟨r', h1', h2'⟩ := ho'.ex
  exact jt_of (pt_chain h1 h1' ha.pe hb.pe he.pe hm) (chain_imp h2 h2')
end

/-! ### defs by name -/
structure Fx (P : Program) (w : World) (K : PySem.W.Frag) (mg : Str → Option Value) (base : Heap) (k : Nat) (ps : List Str) (x : Str) (g : List D → Out R) : Prop where
  ex : ∃ fd, FnOk P w K mg base (L2.CX P w) k (He.ga K x) fd ps (spD (kq P w K) ps.length g) ∧ mg x = some (.ref (He.ga K x)) ∧ PySem.W.keepIn K (.ref (He.ga K x)) = true ∧ (∀ (s : Shared) (us : List Value), us.length = ps.length → BindsTo s fd ⟨us, []⟩ (ps.zip us)) ∧
    ∃ oc od sl, K.lookup (He.ga K x) = some ⟨oc, od, .func fd, sl⟩
section
variable {P : Program} {w : World} {K : PySem.W.Frag} {mg : Str → Option Value} {base : Heap}
theorem fx_mk {x qual : Str} {params : Arguments} {body : List Stmt} {scope : Scope} {kws : List (Str × V)} {N ps : List Str} {k : Nat} {m : MS} {g : List D → Out R}
    (F : ∃ fd, FunD K x qual params body scope [] kws (He.ga K x) fd) (hm : mg x = some (.ref (He.ga K x))) (S : FnScope N ps scope)
    (hbd : ∀ (kV doc pm : Value) (an : Option Addr) (cdv ct : Value) (us : List Value), us.length = ps.length → bindArgs (PySem.W.fnOf x qual params body scope .none kV doc pm an cdv ct) ⟨us, []⟩ = pure (ps.zip us))
    (hg : ∀ ds, ds.length = ps.length → finO (m (inS N.length ds)) = g ds)
    (hb : ∀ (cdv : Value) (A : Around) (outer : List Env) (s : Shared) (H : Hp) (E : XK), Room k (A.deeper (envOfC qual scope s.heap.objs.size (He.ga K x) cdv)) →
      JSs (cxOf (L2.CX P w) P w K mg base N qual scope (He.ga K x) cdv A outer s H E) (fun cls d _ H' => E cls d H') body m) :
    Fx P w K mg base (k + 1) ps x g := by
  obtain ⟨fd, F⟩ := F
  refine ⟨fd, fn_ok F S rfl hg hb, hm, F.kp, fun s us hl => F.bindsA hbd s us hl, ?_⟩
  obtain ⟨oc, od, dV, kV, doc, pm, an, cdv, ct, osl, rfl, lk, _⟩ := F.ex
  exact ⟨oc, od, osl, lk⟩
theorem hu65 {k : Nat} {A : Around} (r : Room k A) : A.units + 65 < cLine := by
  have := r.un
  omega
theorem bindsK {fd : FuncData} {ps : List Str} (h : ∀ (s : Shared) (us : List Value), us.length = ps.length → BindsTo s fd ⟨us, []⟩ (ps.zip us)) : Binds K fd ps [] := fun s us _ hl => by
  rw [List.append_nil] at hl ⊢
  exact h s us hl
/-- the law's own def -/
theorem law_fx {x p : Str} {fa : Addr} {k : Nat} {g : List D → Out R} (h : ∀ base, Fx P w K mg base k [p] x g) (hm : mg x = some (.ref fa)) :
    ∃ fd, (∀ (s : Shared) (u : Value), BindsTo s fd ⟨[u], []⟩ [(p, u)]) ∧ ∀ base, FnOk P w K mg base (L2.CX P w) k fa fd [p] (spD (kq P w K) 1 g) := by
  obtain ⟨fd, _, m0, _, hb, oc, od, sl, lk⟩ := (h default).ex
  have e : fa = He.ga K x := by
    rw [hm] at m0
    exact Value.ref.inj (Option.some.inj m0)
  subst e
  refine ⟨fd, fun s u => hb s [u] rfl, fun base => ?_⟩
  obtain ⟨fd2, F2, _, _, _, oc2, od2, sl2, lk2⟩ := (h base).ex
  rw [lk] at lk2
  cases lk2
  exact F2
end
section
variable {X : Cx} {W : WX} {pos : Pos}
theorem je_fx {k j : Nat} {ps : List Str} {x : Str} {p : Pos} {e : Expr} {es : List Expr} {g : List D → Out R} {ma : MA} (F : Fx X.prog X.w X.K X.mg X.base k ps x g) (hr : Room j X.A) (hk : k ≤ j) (hg : Gl X x) (tk : Takes X W) (ha : JA X W (e :: es) ma) (hl : ALen ma ps.length)
    (hdb : (x == ("__debug__" : Str)) = false := by decide) (he : starEach (e :: es) X.env = (false, eval e X.env) :: starEach es X.env := by rfl) (hpl : (backTo pos (starEach es X.env)).any (·.1) = false := by rfl) :
    JE X W (.Call (.Name x p) (e :: es) [] pos) (mN g ma) := by
  obtain ⟨fd, h1, h2, h3, h4, _⟩ := F.ex
  exact je_calln h1 (hr.mono hk) hg h2 h3 (bindsK h4) tk ha hl hdb he hpl
theorem je_fx0 {k j : Nat} {x : Str} {p : Pos} {g : List D → Out R} (F : Fx X.prog X.w X.K X.mg X.base k [] x g) (hr : Room j X.A) (hk : k ≤ j) (hg : Gl X x) (tk : Takes X W)
    (hdb : (x == ("__debug__" : Str)) = false := by decide) : JE X W (.Call (.Name x p) [] [] pos) (mK (g [])) := by
  obtain ⟨fd, h1, h2, h3, h4, _⟩ := F.ex
  exact je_call0 h1 (hr.mono hk) hg h2 h3 (bindsK h4) tk hdb
end

/-! ### the end -/
theorem walk_E {l : PySem.W.OpenLaw} {n k : Nat} {q : Program} {loose : List Str} {XP : (Str → Option Value) → Heap → Prop} {YP : World → Heap → Prop} {d : DefRec} {g : List D → Out R}
    (hn : l.most = some n) (hn2 : n ≤ sizeLine) (hdf : d.params.defaults = []) (hr : Room k callerA)
    (F : ∀ (w : World) (mg : Str → Option Value) (fa : Addr) (h : Heap), YP w h → h.Ns mainGlobals mg → mg d.name = some (.ref fa) →
      ∃ (K : PySem.W.Frag) (fd : FuncData) (x : Str), K.In h ∧ (∀ (s : Shared) (u : Value), BindsTo s fd ⟨[u], []⟩ [(x, u)]) ∧
        ∀ base : Heap, K.In base → base.Ns mainGlobals mg → FnOk l.prog w K mg base (L2.CX l.prog w) k fa fd [x] (spD (kq l.prog w K) 1 g))
    (hg : ∀ ns : List Int, ns.length ≤ n → (∀ z ∈ ns, Builtin.Int.intBits z ≤ 1048576) → g [.scr ns] = .ok ⟨false, .bl true⟩) :
    PySem.W.WalkO q loose XP YP l.row.toRowW d [] (fun f vs => PySem.call f vs) := by
  refine Att.attach_callB hn hdf fun w s₀ s₁ mg mb fa o pm cd doc a vs ns G Y ho hd hcd hmg hobj hints hlen hbits hg2 => ?_
  obtain ⟨K, fd, x, KX, hb, hF⟩ := F w mg fa _ Y G.T.g hmg
  refine law_call (CX := L2.CX l.prog w) KX G.T.g G.T.b G.T.builtins G.T.nolimit hg2 hobj hints (Nat.le_trans hlen hn2) hr hF hb (fun H hO hS => ?_) fun H e s' hc => ?_
  · refine ⟨H, [.scr ns], .refl H, .cons (.scr hS) .nil, rfl, ?_⟩
    rw [hg ns hlen hbits]
    intro v F' H' st rr
    rcases rr with ⟨_, rr⟩ | ⟨e, _⟩
    · cases rr
      rfl
    · cases e
  · obtain ⟨_, _, _, _, _, _, _, _, _, _, _, _, z⟩ := hc
    exact z.elim
end VM

namespace VM
open PySem PySem.Spec PyProof.Rows L2
def frW (is : List Nat) (m : MS) : MS := fun S => m (frzS S is)
theorem js_frw {X : Cx} {W : WX} {st : Stmt} {m : MS} (is : List Nat) (h : JS X W st m) : JS X W st (frW is m) := js_frz is h
/-- what the head tells of a text: its defs, its module's names, the built-ins that it leaves alone, its constants, its classes, the names that its classes have not -/
structure Tx (fn : List He.DefD) (glo fr : List Str) (cs : List (Str × D)) (cl : List Str) (na : List (Str × Str)) (K : PySem.W.Frag) (mg : Str → Option Value) : Prop where
  fn : ∀ {i : Nat} {d : He.DefD}, fn[i]? = some d → ∃ fd, FunD K d.name d.qual d.params d.body d.scope (d.dvs K) (d.kws K) (He.fAd K d.at_) fd
  glo : ∀ {i : Nat} {x : Str}, glo[i]? = some x → mg x = some (.ref (He.ga K x))
  free : ∀ {i : Nat} {x : Str}, fr[i]? = some x → mg x = none
  cst : ∀ {i : Nat} {p : Str × D}, cs[i]? = some p → CstOk K mg p.1 p.2
  cls : ∀ {i : Nat} {x : Str}, cl[i]? = some x → Cls K (He.ga K x)
  mkr : ∀ {i : Nat} {x : Str}, cl[i]? = some x → Mk K (He.ga K x) (He.ma K (He.ga K x) "__init__")
  noat : ∀ {i : Nat} {p : Str × Str}, na[i]? = some p → NoAttr K (He.ga K p.1) p.2
def faOf (glo fr : List Str) (cl : List Str) (na : List (Str × Str)) : List He.Fa := glo.map He.Fa.glo ++ (fr.map He.Fa.free ++ (cl.map He.Fa.cls ++ (cl.map He.Fa.mkr ++ na.map fun p => He.Fa.noat p.1 p.2)))
def exOf (cs : List (Str × D)) (K : PySem.W.Frag) : Bool := cs.all (cstB K)
theorem tx_of {fn : List He.DefD} {glo fr : List Str} {cs : List (Str × D)} {cl : List Str} {na : List (Str × Str)} {w : World} {h0 h : Heap} {K : PySem.W.Frag} {mg : Str → Option Value} (X : K.In h) (G : h.Ns mainGlobals mg) (c : He.SaysX (faOf glo fr cl na) fn [] [] (exOf cs) w h0 K) : Tx fn glo fr cs cl na K mg where
  fn := fun {i d} e => c.t.d.defs (List.mem_of_getElem? e)
  glo := fun {i x} e => He.glo_ok X G (c.t.d.facts (f := .glo x) (List.mem_append_left _ (List.mem_map_of_mem (List.mem_of_getElem? e))))
  free := fun {i x} e => He.free_ok X G (c.t.d.facts (f := .free x) (List.mem_append_right _ (List.mem_append_left _ (List.mem_map_of_mem (List.mem_of_getElem? e)))))
  cst := fun {i p} e => cstB_ok X G (List.all_eq_true.mp c.more p (List.mem_of_getElem? e))
  cls := fun {i x} e => He.cls_ok (c.t.d.facts (f := .cls x) (List.mem_append_right _ (List.mem_append_right _ (List.mem_append_left _ (List.mem_map_of_mem (List.mem_of_getElem? e))))))
  mkr := fun {i x} e => He.mkr_ok (c.t.d.facts (f := .mkr x) (List.mem_append_right _ (List.mem_append_right _ (List.mem_append_right _ (List.mem_append_left _ (List.mem_map_of_mem (List.mem_of_getElem? e)))))))
  noat := fun {i p} e => He.noat_ok (c.t.d.facts (f := .noat p.1 p.2) (List.mem_append_right _ (List.mem_append_right _ (List.mem_append_right _ (List.mem_append_right _ (List.mem_map.mpr ⟨p, List.mem_of_getElem? e, rfl⟩))))))
end VM

/-! lists of lists that one def fills; x[i] = e; x.pop(..) -/
namespace VM
open PySem PySem.Spec PyProof.Rows L2
theorem RowsOk.congr {K : Kp} {F H H' : Hp} : ∀ {rs : List Addr} {dss : List (List D)}, RowsOk K F H rs dss → (∀ r ∈ rs, H' r = H r) → RowsOk K F H' rs dss
  | _, _, .nil, _ => .nil
  | _, _, .cons h l t, e => .cons ((e _ List.mem_cons_self).trans h) l (RowsOk.congr t fun r hr => e r (List.mem_cons_of_mem _ hr))
theorem RowsOk.snoc {K : Kp} {F H : Hp} {r : Addr} {vs : List V} {ds : List D} (h : H r = Option.some (.lst vs)) (l : RepL K F vs ds) : ∀ {rs : List Addr} {dss : List (List D)}, RowsOk K F H rs dss → RowsOk K F H (rs ++ [r]) (dss ++ [ds])
  | _, _, .nil => .cons h l .nil
  | _, _, .cons h1 l1 t => .cons h1 l1 (RowsOk.snoc h l t)
theorem RowsOk.len {K : Kp} {F H : Hp} : ∀ {rs : List Addr} {dss : List (List D)}, RowsOk K F H rs dss → rs.length = dss.length
  | _, _, .nil => rfl
  | _, _, .cons _ _ t => congrArg Nat.succ t.len
theorem RowsOk.get {K : Kp} {F H : Hp} : ∀ {rs : List Addr} {dss : List (List D)} {k : Nat} {ds : List D}, RowsOk K F H rs dss → dss[k]? = Option.some ds → ∃ r vs, rs[k]? = Option.some r ∧ H r = Option.some (.lst vs) ∧ RepL K F vs ds
  | _, _, _, _, .nil, e => by simp at e
  | _, _, 0, _, .cons h l _, e => by
    simp at e
    subst e
    exact ⟨_, _, rfl, h, l⟩
  | _, _, k + 1, ds, .cons _ _ t, e => by
    obtain ⟨r, vs, h1, h2⟩ := RowsOk.get (k := k) (ds := ds) t (by simpa using e)
    exact ⟨r, vs, by simpa using h1, h2⟩
/-- one of them is changed -/
theorem RowsOk.upd {K : Kp} {F H : Hp} {r : Addr} {vs : List V} {ds : List D} (l : RepL K F vs ds) : ∀ {rs : List Addr} {dss : List (List D)} {k : Nat}, RowsOk K F H rs dss → rs.Nodup → rs[k]? = Option.some r → RowsOk K F (L2.upd H r (.lst vs)) rs (dss.set k ds)
  | _, _, _, .nil, _, e => by simp at e
  | _, _, 0, .cons (rs := rs) h l1 t, nd, e => by
    simp at e
    subst e
    rw [List.nodup_cons] at nd
    exact .cons upd_same l (t.congr fun x hx => upd_ne fun z => nd.1 (z ▸ hx))
  | _, _, k + 1, .cons (r := r0) (rs := rs) h l1 t, nd, e => by
    have e : rs[k]? = Option.some r := by simpa using e
    rw [List.nodup_cons] at nd
    refine .cons ?_ l1 (RowsOk.upd l t nd.2 e)
    rw [upd_ne (show r0 ≠ r from fun z => nd.1 (by rw [z]; exact List.mem_of_getElem? e))]
    exact h
section
variable {X : Cx} {W : WX} {pos : Pos}
def lightS (S : Ss) : Bool := S.all Sl.light
/-- x = [[] for y in ..] -/
def rwS (i : Nat) (it : MA) : MS := fun S => ofOut S (it S) fun ds => if ds.length ≤ 16000000 ∧ lightS S = true then .nx (S.set i (.row (ds.map fun _ => []))) else .no
theorem light_get {S : Ss} {j : Nat} {sl : Sl} (h : lightS S = true) (e : S[j]? = some sl) : sl.light = true := List.all_eq_true.mp h _ (List.mem_of_getElem? e)
/-- a row is stored -/
theorem Bs.setRow {K : Kp} {C : Ct} {F H : Hp} {S : Ss} {σ : L2.St} (b : Bs K C F S σ H) {a : Addr} {rs : List Addr} {dss : List (List D)} (i : Nat) (hl : lightS S = true) (ra : RowAt K F H a rs dss) (h0 : ∀ x ∈ a :: rs, C.H0 x = none) :
    Bs K C F (S.set i (.row dss)) (σ.set i (some (.ref a))) H := by
  have hlen : S.length = σ.length := b.cp.len
  have no : ∀ (j : Nat) (d : D), (S.set i (.row dss))[j]? ≠ some (.own d) := fun j d e => by
    by_cases hj : j = i
    · subst hj
      have e2 := set_self e
      cases e2
    · rw [List.getElem?_set_ne (Ne.symm hj)] at e
      have z := light_get hl e
      cases z
  have nor : ∀ (j : Nat) (d : List (List D)), (S.set i (.row dss))[j]? = some (.row d) → j = i ∧ d = dss ∧ i < S.length := fun j d e => by
    by_cases hj : j = i
    · subst hj
      have hi := set_lt e
      have e2 := set_self e
      cases e2
      exact ⟨rfl, rfl, hi⟩
    · rw [List.getElem?_set_ne (Ne.symm hj)] at e
      have z := light_get hl e
      cases z
  refine ⟨⟨b.cp.sub, by simpa using hlen, fun j dj e => ?_, fun j dj e => absurd e (no j dj), fun j k dj dk c _ ej => absurd ej (no j dj), fun j d e => ?_⟩, b.st, fun j dj c e => absurd e (no j dj), fun j d e => ?_, fun x d _ e => absurd e (no 0 d)⟩
  · by_cases hj : j = i
    · subst hj
      have e2 := set_self e
      cases e2
    · rw [List.getElem?_set_ne (Ne.symm hj)] at e ⊢
      exact b.cp.fz j dj e
  · obtain ⟨rfl, rfl, hi⟩ := nor j d e
    refine ⟨⟨a, rs, by rw [List.getElem?_set_self (by omega)], ra⟩, fun k sl hk ek => ?_⟩
    rw [List.getElem?_set_ne (Ne.symm hk)] at ek
    exact light_get hl ek
  · obtain ⟨rfl, rfl, hi⟩ := nor j d e
    exact ⟨a, rs, by rw [List.getElem?_set_self (by omega)], ra, h0⟩
theorem rows_imp {K : Kp} {vs : List Nat} {j : Nat} {mi : MA} {wi : TI} (hv : j ∈ vs)
    (h2 : ∀ F S σ H R, Cp K F S σ H → Fin K W F H σ (mi S) (fun ds F1 H1 => ∀ J, ItOk K F1 J ds → R J H1) → wi σ H R)
    (F : Hp) (S : Ss) (σ : L2.St) (H : Hp) (Q : VK) (c : Cp K F S σ H) (q : Fin K W F H σ (mi S) fun ds F1 H1 => ds.length ≤ 16000000 ∧ ∀ F2 H2 D rs, Step F1 H1 F2 H2 → RowAt K F2 H2 D rs (ds.map fun _ => []) → (∀ x ∈ D :: rs, H1 x = none) → Q (.ref D) H2) :
    tLc wi (tG K [j] (gN j)) (tT K W0 mYes) (tI K W0 (mN lstD aNil)) vs σ H Q := by
  refine h2 F S σ H _ c (Fin.imp q fun ds F1 H1 t1 z J ok => fun D hD => ?_)
  obtain ⟨hz, z⟩ := z
  have c1 := c.step t1
  refine ⟨fun i k H2 => k = ds.length - i ∧ i ≤ ds.length ∧ ∃ F2 rs, Step F1 H1 F2 H2 ∧ RowAt K F2 H2 D rs (List.replicate i []) ∧ ∀ x ∈ D :: rs, H1 x = none, ⟨ds.length, by simp, Nat.zero_le _, F1, [], .newH t1.sub hD, ⟨upd_same, .nil, by simp, fun x hx => ?_⟩, fun x hx => ?_⟩, ?_⟩
  · rw [List.mem_singleton.mp hx]
    exact t1.sub.free hD
  · rw [List.mem_singleton.mp hx]
    exact hD
  rintro i k H2 ⟨rfl, hi, F2, rs, t2, ra, h0⟩
  obtain ⟨ok1, ok2⟩ := ok F2 H2 t2.gf t2.sub
  by_cases hlt : i < ds.length
  · have hd : ds[i]? = some ds[i] := List.getElem?_eq_getElem hlt
    obtain ⟨go, yl⟩ := ok1 i _ hd
    refine .inr ⟨go, fun H3 => ∃ F2 rs, Step F1 H1 F2 H3 ∧ RowAt K F2 H3 D rs (List.replicate (i + 1) []) ∧ ∀ x ∈ D :: rs, H1 x = none, fun H3 w => ⟨ds.length - (i + 1), by omega, rfl, hlt, w⟩, fun x H3 y => ?_⟩
    obtain ⟨F3, t3, rp⟩ := yl x H3 y
    have t13 := t2.trans t3
    have cw : Cp K F3 (wipeS S vs) (wipe σ vs) H3 := (wipeS_wipe (c1.step t13) vs)
    refine ⟨C00, F3, wipeS S vs, ds[i], _, bs0 cw, rp, rfl, fun σ4 b4 w4 => ⟨(w4 vs fun k hk => by rw [List.mem_singleton.mp hk]; exact hv).trans wipe_wipe, F3, _, b4.cp, ?_⟩⟩
    intro F4 H4 t4
    show (if true = true then _ else _)
    rw [if_pos rfl]
    refine ⟨F4, _, b4.cp.step t4, ?_⟩
    intro F5 H5 t5 v rv
    rcases rv with ⟨e, _⟩ | ⟨_, r, rfl, o, hn, hf⟩
    · cases e
    · have ra4 := (ra.step t3).step t4
      have ra5 := ra4.step t5
      cases o with
      | lst hr lr =>
        cases lr
        have hnr : r ∉ D :: rs := fun m => by
          obtain ⟨o, e⟩ := ra4.some r m
          rw [hn] at e
          cases e
        have nrs : r ∉ rs := fun m => hnr (List.mem_cons_of_mem _ m)
        have nrD : r ≠ D := fun e => hnr (e ▸ List.mem_cons_self)
        have nd := ra5.nd
        rw [List.nodup_cons] at nd
        have hlen := ra5.ok.len
        rw [List.length_replicate] at hlen
        have t15 := (t13.trans t4).trans t5
        have e1 : H1 D = none := h0 D List.mem_cons_self
        have e5 : F5 D = none := ra5.fn D List.mem_cons_self
        refine ⟨rs.map V.ref, ra5.at_, szl' (by rw [List.length_map]; omega), F5, rs ++ [r], ⟨t15.gf, ?_, ?_, t15.new⟩, ⟨?_, ?_, ?_, ?_⟩, ?_⟩
        · intro a o e
          rw [upd_ne (ne_of_none e e1)]
          exact t15.gh a o e
        · intro a o e
          rw [upd_ne (ne_of_none e e5)]
          exact t15.sub a o e
        · rw [upd_same, List.map_append]
          rfl
        · rw [List.replicate_succ']
          refine RowsOk.snoc (by rw [upd_ne nrD]; exact hr) .nil (ra5.ok.congr fun x hx => upd_ne fun e => nd.1 (e ▸ hx))
        · rw [List.nodup_cons]
          refine ⟨fun m => ?_, ?_⟩
          · rcases List.mem_append.mp m with m | m
            · exact nd.1 m
            · exact nrD (List.mem_singleton.mp m).symm
          · rw [List.nodup_append]
            refine ⟨nd.2, by simp, fun x hx y hy => ?_⟩
            rw [List.mem_singleton.mp hy]
            exact fun e => nrs (e ▸ hx)
        · intro x hx
          rw [← List.cons_append] at hx
          rcases List.mem_append.mp hx with m | m
          · exact ra5.fn x m
          · rw [List.mem_singleton.mp m]
            exact hf
        · intro x hx
          rw [← List.cons_append] at hx
          rcases List.mem_append.mp hx with m | m
          · exact h0 x m
          · rw [List.mem_singleton.mp m]
            exact ((t13.trans t4).gh).free hn
  · have e : i = ds.length := by omega
    subst e
    refine .inl ⟨ok2 _ (Nat.le_refl _), ?_⟩
    have er : (ds.map fun _ => ([] : List VM.D)) = List.replicate ds.length [] := List.map_const' ..
    rw [← er] at ra
    exact z F2 H2 D rs t2 ra h0
theorem js_setRows {i j : Nat} {y z : Str} {py pz lp : Pos} {iter : Expr} {scope : Scope} {own : List (Str × Nat)} {spos : Pos} {mi : MA} (hc : X.calm = true) (hN : X.N.Nodup) (hy : X.N[i]? = some y) (hyl : X.env.scope.names.lookup y = some .local)
    (hsw : swapsWith (.ListComp (.List [] lp) [⟨.Name z pz, iter, [], 0⟩] scope pos) (some (.Name y py)) spos.line X.env = pure true) (hi : JI X W (.Name z pz) iter mi) (ok : BlkOk X.N X.env.scope scope own)
    (hg : ∀ (s : Shared) (H : Hp) (C : Addr) (cl : List (Str × Addr)) (fp : List Addr), JG (X.blk s H scope (compEnvC scope cl C X.env) fp) (.Name z pz) [j] (gN j)) (hv : j ∈ own.map (·.2) := by decide) (hs : ∀ x, foldedSetIterable iter X.env x = pure x := by intro _; rfl) :
    JS X W (.Assign [.Name y py] (.ListComp (.List [] lp) [⟨.Name z pz, iter, [], 0⟩] scope pos) spos) (rwS i mi) := by
  obtain ⟨wi, h1, h2⟩ := hi.ex
  refine ⟨fun C hC => ps_imp (ps_setLc (g := tG (kp X) [j] (gN j)) (tt := tT (kp X) W0 mYes) (te := tI (kp X) W0 (mN lstD aNil)) hc hN hy hyl hsw h1 ok (fun s H C cl fp => (hg s H C cl fp).pg) (fun s H C cl fp => (jts_nil (X := X.blk s H scope (compEnvC scope cl C X.env) fp)).pts) (fun s H C cl fp => (je_lst (X := X.blk s H scope (compEnvC scope cl C X.env) fp) ja_nil).pe) hs) fun D' σ H ⟨F, S, b, q⟩ => ?_⟩
  refine rows_imp hv h2 F S σ H _ b.cp (Fin.imp (FinS.out b q) fun ds F1 H1 t z => ?_)
  split at z
  · rename_i hz
    refine ⟨hz.1, fun F2 H2 D rs t2 ra h0 => ?_⟩
    have b2 := (b.step t).step t2
    exact z F2 _ H2 (b2.setRow i hz.2 ra fun x hx => (b.step t).st.gh.free (h0 x hx)) t2.gf
  · exact z.elim
/-- x[e].append(v) -/
def rwA (i : Nat) (me mv : MV) : MS := fun S => match S[i]? with
  | some (.row dss) => ofOut S (me S) fun k => match k with
    | .int k => (match ixN dss.length k with
      | some j => (match dss[j]? with
        | some ds => ofOut S (mv S) fun d => if ds.length < 16000000 then .nx (S.set i (.row (dss.set j (ds ++ [d])))) else .no
        | none => .no)
      | none => .no)
    | _ => .no
  | _ => .no
theorem Bs.updRow {K : Kp} {C : Ct} {F H : Hp} {S : Ss} {σ : L2.St} (b : Bs K C F S σ H) {a r : Addr} {rs : List Addr} {dss : List (List VM.D)} {i j : Nat} {vs : List V} {ds : List VM.D} (hS : S[i]? = some (.row dss)) (ha : σ[i]? = some (some (.ref a))) (ra : RowAt K F H a rs dss) (h0 : ∀ x ∈ a :: rs, C.H0 x = none)
    (hj : rs[j]? = some r) (l : RepL K F vs ds) : Bs K C F (S.set i (.row (dss.set j ds))) σ (upd H r (.lst vs)) := by
  have hlen : S.length = σ.length := b.cp.len
  have hi : i < S.length := (List.getElem?_eq_some_iff.mp hS).1
  obtain ⟨_, hlight⟩ := b.cp.row i dss hS
  have mr : r ∈ rs := List.mem_of_getElem? hj
  have hr : r ∈ a :: rs := List.mem_cons_of_mem _ mr
  have nd := ra.nd
  rw [List.nodup_cons] at nd
  have no : ∀ (j' : Nat) (d : VM.D), (S.set i (.row (dss.set j ds)))[j']? ≠ some (.own d) := fun j' d e => by
    by_cases hj : j' = i
    · subst hj
      have e2 := set_self e
      cases e2
    · rw [List.getElem?_set_ne (Ne.symm hj)] at e
      have z := hlight j' _ hj e
      cases z
  have up : ∀ (G : Hp), G r = none → Gr G H → Gr G (upd H r (.lst vs)) := fun G hg g x u e => by
    by_cases hx : x = r
    · subst hx
      rw [hg] at e
      cases e
    · rw [upd_ne hx]
      exact g x u e
  have ra' : RowAt K F (upd H r (.lst vs)) a rs (dss.set j ds) := ⟨by rw [upd_ne (show a ≠ r from fun z => nd.1 (by rw [z]; exact mr))]; exact ra.at_, ra.ok.upd l nd.2 hj, ra.nd, ra.fn⟩
  have only : ∀ (j' : Nat) (d : List (List VM.D)), (S.set i (.row (dss.set j ds)))[j']? = some (.row d) → j' = i ∧ d = dss.set j ds := fun j' d e => by
    by_cases hj : j' = i
    · subst hj
      have e2 := set_self e
      cases e2
      exact ⟨rfl, rfl⟩
    · rw [List.getElem?_set_ne (Ne.symm hj)] at e
      have z := hlight j' _ hj e
      cases z
  refine ⟨⟨up F (ra.fn r hr) b.cp.sub, by simpa using hlen, fun j' dj e => ?_, fun j' dj e => absurd e (no j' dj), fun j' k dj dk c _ ej => absurd ej (no j' dj), fun j' d e => ?_⟩, ⟨b.st.gf, up _ (h0 r hr) b.st.gh, up F (ra.fn r hr) b.st.sub, b.st.new⟩, fun j' dj c e => absurd e (no j' dj), fun j' d e => ?_, fun x d _ e => absurd e (no 0 d)⟩
  · by_cases hj : j' = i
    · subst hj
      have e2 := set_self e
      cases e2
    · rw [List.getElem?_set_ne (Ne.symm hj)] at e
      exact b.cp.fz j' dj e
  · obtain ⟨rfl, rfl⟩ := only j' d e
    refine ⟨⟨a, rs, ha, ra'⟩, fun k sl hk ek => ?_⟩
    rw [List.getElem?_set_ne (Ne.symm hk)] at ek
    exact hlight k sl hk ek
  · obtain ⟨rfl, rfl⟩ := only j' d e
    exact ⟨a, rs, ha, ra', h0⟩
theorem js_rowApp {i : Nat} {x : Str} {p p2 apos cpos : Pos} {e ev : Expr} {me mv : MV} (h0 : PE X (.Name x p) (tVar i)) (he : JV X W e me) (h : JZ X W ev mv) (hix : PlainIx e)
    (hbase : attributeBase (.Subscript (.Name x p) e p2) "append" X.env (eval (.Subscript (.Name x p) e p2) X.env) = eval (.Subscript (.Name x p) e p2) X.env := by rfl)
    (hfew : ((backTo cpos (starEach [ev] X.env)).all (fun x => !x.1) && (backToKw cpos (keywordEach [] X.env)).all (fun x => x.1.isSome)
      && decide (([ev] : List Expr).length + ([] : List Keyword).length + (if ([] : List Keyword).isEmpty then 0 else 1) < 30)) = true := by rfl)
    (hline : (apos.endLine == cpos.line) = true := by rfl) (hs : starEach [ev] X.env = (false, eval ev X.env) :: starEach [] X.env := by rfl) (hplain : (backTo cpos (starEach [] X.env)).any (·.1) = false := by rfl)
    (hsw : swapsWith (.Call (.Attribute (.Subscript (.Name x p) e p2) "append" apos) [ev] [] cpos) none pos.line X.env = pure false := by rfl) :
    JS X W (.Expr (.Call (.Attribute (.Subscript (.Name x p) e p2) "append" apos) [ev] [] cpos) pos) (rwA i me mv) := ⟨fun C hC => ps_imp (ps_expr (pe_bm PySem.F.plainAttrs_list PySem.F.slot_list_append PySem.F.type_list_append mt_append (pe_ix ix_seq h0 he.pe hix) (pa_cons h.pe pa_nil hs) hbase hfew hline hs hplain) hsw) fun D σ H ⟨F, S, b, q⟩ => by
  unfold rwA at q
  split at q
  · rename_i dss hS
    obtain ⟨a, rs, ha, ra, hC⟩ := b.frr i _ hS
    refine ⟨.ref a, ha, F, S, b.cp, Fin.imp (FinS.out b q) fun kd F1 H1 t1 z v1 rv1 => ?_⟩
    have b1 := b.step t1
    split at z
    · rename_i k
      have ek := rv1.int b1.cp
      split at z
      · rename_i j hj
        split at z
        · rename_i ds hds
          have ra1 := ra.step t1
          obtain ⟨r, vs, hr, hH, lr⟩ := ra1.ok.get hds
          have hat : atI (rs.map V.ref) k = some (.ref r) := by
            unfold atI
            rw [List.length_map, ra1.ok.len, hj]
            show (rs.map V.ref)[j]? = _
            rw [List.getElem?_map, hr]
            rfl
          refine .inl ⟨a, _, k, .ref r, rfl, ek, .inl (.inl ra1.at_), hat, .inl ⟨rfl, _, .inl (.inl hH)⟩, F1, S, b1.cp, Fin.imp (FinS.out b1 z) fun d F2 H2 t2 z2 v rv => ?_⟩
          split at z2
          · rename_i hl
            have ra2 := ra1.step t2
            refine ⟨r, _, v, rfl, rfl, t2.gh _ _ hH, szl' (by rw [lr.len]; exact hl), ?_⟩
            exact z2 F2 σ _ ((b1.step t2).updRow hS ha ra2 hC hr ((lr.mono t2.gf).app (.cons rv .nil))) (.refl _)
          · exact z2.elim
        · exact z.elim
      · exact z.elim
    · exact z.elim
  · exact q.elim⟩
/-! ### x[e] = v, x a list held -/
def siS (i : Nat) (mi mv : MV) : MS := fun S => ofOut S (mv S) fun d => match S[i]? with
  | some (.own (.lst ds)) => ofOut S (mi S) fun k => (match k with
    | .int k => (match ixN ds.length k with
      | some j => .nx (S.set i (.own (.lst (ds.set j d))))
      | none => .no)
    | _ => .no)
  | _ => .no
theorem js_setItem {i : Nat} {x : Str} {p p2 : Pos} {e ev : Expr} {me mv : MV} (h0 : PE X (.Name x p) (tVar i)) (he : JV X W e me) (h : JZ X W ev mv)
    (hs : swapsWithSole [.Subscript (.Name x p) e p2] ev pos.line X.env = pure false := by rfl) (hw : swappedStores [.Subscript (.Name x p) e p2] ev X.env = pure none := by rfl) (h1 : (assignEach [.Subscript (.Name x p) e p2] X.env).map (·.2) = [assign (.Subscript (.Name x p) e p2) X.env] := by rfl)
    (ha : ∀ v, assign (.Subscript (.Name x p) e p2) X.env v = (do
      let ov ← holding [v] (eval (.Name x p) X.env)
      let iv ← holding [v, ov] (eval e X.env)
      standAt p2
      holding [v, ov, iv] (setItem ov iv v)
      release [v, ov, iv] []) := by intro _; rfl) : JS X W (.Assign [.Subscript (.Name x p) e p2] ev pos) (siS i me mv) := ⟨fun C hC => ps_imp (ps_asg h.pe (pg_sub h0 he.pe set_list ha) hs hw h1) fun D σ H ⟨F, S, b, q⟩ =>
  ⟨F, S, b.cp, Fin.imp (FinS.out b q) fun d F1 H1 t1 z v rv => by
    have b1 := b.step t1
    split at z
    · rename_i ds hS
      obtain ⟨a, ha, ow, hf⟩ := b1.cp.own i _ hS
      refine ⟨.ref a, ha, F1, S, b1.cp, Fin.imp (FinS.out b1 z) fun k F2 H2 t2 z2 y ry => ?_⟩
      have b2 := b1.step t2
      split at z2
      · rename_i k
        have ek := ry.int b2.cp
        split at z2
        · rename_i j hj
          obtain ⟨a', ha', ow2, _⟩ := b2.cp.own i _ hS
          rw [ha] at ha'
          cases ha'
          cases ow2 with
          | lst hH r =>
            refine ⟨a, _, k, j, rfl, ek, hH, by rw [r.len]; exact hj, ?_⟩
            exact z2 F2 σ _ (b2.mut hS ha (.lst upd_same (RepL.set (rv.mono t2.gf) j r))) (.refl _)
        · exact z2.elim
      · exact z2.elim
    · exact z.elim⟩⟩
/-! ### x = y.pop(), x.append(y.pop(e)) -/
theorem RepL.erase {K : Kp} {F : Hp} : ∀ {vs : List V} {ds : List VM.D} (n : Nat), RepL K F vs ds → RepL K F (vs.eraseIdx n) (ds.eraseIdx n)
  | _, _, _, .nil => .nil
  | _, _, 0, .cons _ t => t
  | _, _, n + 1, .cons h t => .cons h (RepL.erase n t)
def poS (i j : Nat) : MS := fun S => match S[j]? with
  | some (.own (.lst ds)) => (match ds.getLast? with
    | some d => if i = j then .no else .nx ((S.set j (.own (.lst ds.dropLast))).set i (.fz d))
    | none => .no)
  | _ => .no
theorem js_setPop {i j : Nat} {z x : Str} {pz p apos cpos : Pos} (hN : X.N.Nodup) (hi : X.N[i]? = some z) (hz : Loc X.env.scope z) (h0 : PE X (.Name x p) (tVar j))
    (hbase : attributeBase (.Name x p) "pop" X.env (eval (.Name x p) X.env) = eval (.Name x p) X.env := by rfl) (hline : (apos.endLine == cpos.line) = true := by rfl)
    (hs : swapsWith (.Call (.Attribute (.Name x p) "pop" apos) [] [] cpos) (some (.Name z pz)) pos.line X.env = pure false := by rfl) (hf : X.fn z = true ∨ X.env.scope.names.lookup z = some .local := by first | exact .inl rfl | exact .inr rfl | assumption) :
    JS X W (.Assign [.Name z pz] (.Call (.Attribute (.Name x p) "pop" apos) [] [] cpos) pos) (poS i j) := ⟨fun C hC => ps_imp (ps_set hN hi hz (pe_bm0 PySem.F.plainAttrs_list PySem.F.slot_list_pop PySem.F.type_list_pop mt_pop h0 hbase hline) hs hf) fun D σ H ⟨F, S, b, q⟩ => by
  unfold poS at q
  split at q
  · rename_i ds hS
    split at q
    · rename_i d hd
      split at q
      · exact q.elim
      · rename_i hij
        obtain ⟨a, ha, ow, hf⟩ := b.cp.own j _ hS
        cases ow with
        | lst hH r =>
          have hd2 : ds[ds.length - 1]? = some d := by rw [← List.getLast?_eq_getElem?]; exact hd
          obtain ⟨v, h1, h2⟩ := r.get hd2
          refine ⟨.ref a, ha, .inl ⟨rfl, _, .inl (.inl hH)⟩, a, _, v, rfl, rfl, hH, by rw [r.len]; exact h1, ?_⟩
          exact q F _ _ ((b.mut hS ha (.lst upd_same r.dropLast)).set (sl := .fz d) i h2 (.inl rfl) (.inl rfl)) (.refl _)
    · exact q.elim
  · exact q.elim⟩
def apPopS (i j : Nat) (me : MV) : MS := fun S => match S[i]? with
  | some (.own (.lst ds)) => (match S[j]? with
    | some (.own (.lst es)) => ofOut S (me S) fun k => (match k with
      | .int k => (match ixN es.length k with
        | some n => (match es[n]? with
          | some d => if i ≠ j ∧ ds.length < 16000000 ∧ k.toNat ≤ 1000000000 ∧ (-k).toNat ≤ 1000000000 then .nx ((S.set j (.own (.lst (es.eraseIdx n)))).set i (.own (.lst (ds ++ [d])))) else .no
          | none => .no)
        | none => .no)
      | _ => .no)
    | _ => .no)
  | _ => .no
theorem js_appPop {i j : Nat} {x y : Str} {p apos cpos p' apos' cpos' : Pos} {e : Expr} {me : MV} (h0 : PE X (.Name x p) (tVar i)) (h1 : PE X (.Name y p') (tVar j)) (he : JV X W e me)
    (hbase' : attributeBase (.Name y p') "pop" X.env (eval (.Name y p') X.env) = eval (.Name y p') X.env := by rfl)
    (hfew' : ((backTo cpos' (starEach [e] X.env)).all (fun x => !x.1) && (backToKw cpos' (keywordEach [] X.env)).all (fun x => x.1.isSome)
      && decide (([e] : List Expr).length + ([] : List Keyword).length + (if ([] : List Keyword).isEmpty then 0 else 1) < 30)) = true := by rfl)
    (hline' : (apos'.endLine == cpos'.line) = true := by rfl) (hs' : starEach [e] X.env = (false, eval e X.env) :: starEach [] X.env := by rfl) (hplain' : (backTo cpos' (starEach [] X.env)).any (·.1) = false := by rfl)
    (hbase : attributeBase (.Name x p) "append" X.env (eval (.Name x p) X.env) = eval (.Name x p) X.env := by rfl)
    (hfew : ((backTo cpos (starEach [.Call (.Attribute (.Name y p') "pop" apos') [e] [] cpos'] X.env)).all (fun x => !x.1) && (backToKw cpos (keywordEach [] X.env)).all (fun x => x.1.isSome)
      && decide (([.Call (.Attribute (.Name y p') "pop" apos') [e] [] cpos'] : List Expr).length + ([] : List Keyword).length + (if ([] : List Keyword).isEmpty then 0 else 1) < 30)) = true := by rfl)
    (hline : (apos.endLine == cpos.line) = true := by rfl) (hs : starEach [.Call (.Attribute (.Name y p') "pop" apos') [e] [] cpos'] X.env = (false, eval (.Call (.Attribute (.Name y p') "pop" apos') [e] [] cpos') X.env) :: starEach [] X.env := by rfl) (hplain : (backTo cpos (starEach [] X.env)).any (·.1) = false := by rfl)
    (hsw : swapsWith (.Call (.Attribute (.Name x p) "append" apos) [.Call (.Attribute (.Name y p') "pop" apos') [e] [] cpos'] [] cpos) none pos.line X.env = pure false := by rfl) :
    JS X W (.Expr (.Call (.Attribute (.Name x p) "append" apos) [.Call (.Attribute (.Name y p') "pop" apos') [e] [] cpos'] [] cpos) pos) (apPopS i j me) := ⟨fun C hC => ps_imp (ps_expr (pe_bm PySem.F.plainAttrs_list PySem.F.slot_list_append PySem.F.type_list_append mt_append h0
    (pa_cons (pe_bm PySem.F.plainAttrs_list PySem.F.slot_list_pop PySem.F.type_list_pop mt_popAt h1 (pa_cons he.pe pa_nil hs') hbase' hfew' hline' hs' hplain') pa_nil hs) hbase hfew hline hs hplain) hsw) fun D σ H ⟨F, S, b, q⟩ => by
  unfold apPopS at q
  split at q
  · rename_i ds hS
    split at q
    · rename_i es hT
      obtain ⟨a, ha, ow, hf⟩ := b.cp.own i _ hS
      obtain ⟨c, hc, ow2, hf2⟩ := b.cp.own j _ hT
      cases ow with
      | lst hH r =>
        cases ow2 with
        | lst hH2 r2 =>
          refine ⟨.ref a, ha, .inl ⟨rfl, _, .inl (.inl hH)⟩, .ref c, hc, .inl ⟨rfl, _, .inl (.inl hH2)⟩, F, S, b.cp, Fin.imp (FinS.out b q) fun k F1 H1 t z v rv => ?_⟩
          have b1 := b.step t
          split at z
          · rename_i k
            have ek := rv.int b1.cp
            split at z
            · rename_i n hn
              split at z
              · rename_i d hd
                split at z
                · rename_i hb
                  have r2' := r2.mono t.gf
                  obtain ⟨u, hu, ru⟩ := r2'.get hd
                  refine ⟨c, _, k, n, u, rfl, by rw [ek], t.gh _ _ hH2, by have := hb.2.2.1; omega, by have := hb.2.2.2; omega, ?_, hu, ?_⟩
                  · rw [r2.len]
                    exact (ixN_seq hn).1
                  · have hac : a ≠ c := fun e => b.cp.dis i j _ _ c hb.1 hS hT (e ▸ ha) hc
                    have b2 := b1.mut hT hc (.lst upd_same (RepL.erase n r2'))
                    have hS2 : (S.set j (.own (.lst (es.eraseIdx n))))[i]? = some (.own (.lst ds)) := by
                      rw [List.getElem?_set_ne (Ne.symm hb.1)]
                      exact hS
                    refine ⟨a, _, u, rfl, rfl, by rw [upd_ne hac]; exact t.gh _ _ hH, szl' (by rw [r.len]; exact hb.2.1), ?_⟩
                    exact z F1 σ _ (b2.mut hS2 ha (.lst upd_same ((r.mono t.gf).app (.cons ru .nil)))) (.refl _)
                · exact z.elim
              · exact z.elim
            · exact z.elim
          · exact z.elim
    · exact q.elim
  · exact q.elim⟩
end
end VM

/-! raw rules: range objects, tuples of them, sorted tuples, t.index -/
namespace VMR
open PySem PySem.Spec PyProof.Rows L2
section
variable {prog : Program} {w : World} {A : Around} {E : Value → Shared → Prop} {s : Shared}
theorem collect_range {Q : List Value → Shared → Prop} {r : Addr} {a b c : Int} {t u v : Tok} {n : Nat} (hh : A.handled = none) (hr : IsRange s.heap r a b c t u v) (hsmall : Builtin.Range.small a b c = true)
    (hn : Builtin.Range.rangeSize a b c = n) (hlen : n ≤ 2 ^ 24)
    (hQ : ∀ h' tk its, (∀ b o, s.heap.get? b = some o → h'.get? b = some o) → ItemsOf (fun i v => ∃ t, v = .int (a + i * c) t) its n → Q its.toList { s with heap := h', toks := tk }) :
    wpAny (model prog w) A (collect (.ref r)) Q E s := by
  unfold collect
  refine wpAny_bind (wpAny_runValue (codeAny_builtin F.entry_proto_collect ?_))
  rw [Around.under_plainId F.plain_proto_collect _]
  show wpAny _ A.in1 (newList [] >>= fun l => again (.builtin "list.__iadd__" ⟨[l, .ref r], []⟩)) _ _ s
  refine wpAny_bind (wpAny_newObj_type ?_)
  refine wpAny_pure ⟨plainId_quiet F.plain_list_iadd _, codeAny_builtin F.entry_list_iadd ?_⟩
  rw [Around.under_plainId F.plain_list_iadd _]
  show wpAny _ A.in1 (Builtin.List.listExtendWith (.ref s.heap.objs.size) (.ref r) (.ref s.heap.objs.size)) _ _ _
  have hS : (s.heap.push { cls := .type "list", data := .seq ([] : List Value).toArray }).get? s.heap.objs.size = some { cls := .type "list", data := .seq #[] 0 } := Heap.get?_push_size _ rfl
  have fin' : ∀ h' tk acc' c', h'.get? s.heap.objs.size = some { cls := .type "list", dict := none, data := .seq acc' c', slots := #[] } → Q acc'.toList { s with heap := h', toks := tk } → wpAny (model prog w) A (match Value.ref s.heap.objs.size with
      | Value.ref a => do
        match (← load a).data with
          | Data.seq xs _ => pure xs.toList
          | _ => unsupported "internal:collect"
      | _ => unsupported "internal:collect") Q E { s with heap := h', toks := tk } := fun h' tk acc' c' e q => by
    show wpAny _ A (load s.heap.objs.size >>= _) _ _ _
    exact wpAny_bind (wpAny_load e (wpAny_pure q))
  refine wpAny_mono (wpAny_extend_range (A := A) (R := fun r s' => ∃ h' tk acc' c', r = .ok (.ret (.ref s.heap.objs.size)) ∧ s' = { s with heap := h', toks := tk } ∧ h'.get? s.heap.objs.size = some { cls := .type "list", dict := none, data := .seq acc' c', slots := #[] } ∧ Q acc'.toList { s with heap := h', toks := tk })
    (s := { s with heap := s.heap.push { cls := .type "list", data := .seq ([] : List Value).toArray } }) hh (Heap.get?_push_of_some _ hr) hsmall hn hlen _ _ 0 hS fun h' tk acc' c' hk hS' hacc => ?_) (fun fin s' h => ?_) (fun e s' h => ?_)
  · exact ⟨h', tk, acc', c', rfl, rfl, hS', hQ h' tk acc' (fun b o e => hk b o (Nat.ne_of_lt (Heap.lt_size e)) (Heap.get?_push_of_some _ e)) hacc⟩
  · cases fin with
    | done f =>
      obtain ⟨h', tk, acc', c', e, rfl, h1, h2⟩ := h
      cases e
      exact fin' _ _ _ _ h1 h2
    | again c' => exact ⟨h.1, codeAny_mono h.2 fun r s'' ⟨h', tk, acc', c', e, e2, h1, h2⟩ => by
        subst e2
        cases e
        exact fin' _ _ _ _ h1 h2⟩
  · obtain ⟨_, _, _, _, e, _⟩ := h
    cases e
theorem meets_tuple_new_range (r : Addr) {a b c : Int} {t u v : Tok} {n : Nat} (hsmall : Builtin.Range.small a b c = true) (hn : Builtin.Range.rangeSize a b c = n) (hlen : n ≤ 2 ^ 24) :
    Meets (Builtin.«tuple.__new__» ⟨[.type "tuple", .ref r], []⟩)
      (fun A R s => A.handled = none ∧ IsRange s.heap r a b c t u v ∧ ∀ (h' : Heap) tk its, (∀ b o', s.heap.get? b = some o' → h'.get? b = some o') → ItemsOf (fun i v => ∃ t, v = .int (a + i * c) t) its n → R (.ok (.ret (.ref h'.objs.size))) { s with heap := h'.push { cls := .type "tuple", data := .seq its }, toks := tk }) :=
  .of_wp fun prog w A R s h => by
    obtain ⟨hp, g, d, tk, os⟩ := s; obtain ⟨hh, ht, h⟩ := h
    have hsub := sub_tuple_self
    have hinit := init_tuple_lookup
    have hmh := madeHere_tuple
    have hT : Shared.TypeIs ⟨hp, g, d, tk, os⟩ (.ref r) "range" := ⟨_, ht, rfl⟩
    wp_walk using wpAny_loadPart' ht, wpAny_typeOf hT, collect_range (A := A.in1) hh ht hsmall hn hlen
    intro h' tk' its hk hi
    show wpAny _ _ (Builtin.Tuple.tupleExact its.toList.toArray >>= fun v => ret v) _ _ _
    unfold Builtin.Tuple.tupleExact
    refine wpAny_bind (wpAny_newObj_type ?_ (by show its.toList.toArray.size ≤ sizeLine; rw [sizeLine_eq]; have := hi.1; simp; omega))
    refine wpAny_pure ⟨_, rfl, ?_⟩
    have e : its.toList.toArray = its := by simp
    rw [e]
    exact h h' tk' its hk hi
end
def rngV (lo : Int) (n : Nat) : List V := (List.range n).map fun (i : Nat) => V.int (lo + (i : Int))
theorem vals_get : ∀ {vs : List V} {us : List Value}, vs.length = us.length → (∀ (i : Nat) v u, vs[i]? = some v → us[i]? = some u → RelV v u) → Vals vs us
  | [], [], _, _ => .nil
  | v :: vs, u :: us, hl, h => .cons (h 0 v u rfl rfl) (vals_get (by simpa using hl) fun i v' u' e1 e2 => h (i + 1) v' u' (by simpa using e1) (by simpa using e2))
  | [], _ :: _, hl, _ => by simp at hl
  | _ :: _, [], hl, _ => by simp at hl
theorem rngV_len (lo : Int) (n : Nat) : (rngV lo n).length = n := by
  unfold rngV
  rw [List.length_map, List.length_range]
theorem vals_rng {lo : Int} {n : Nat} {its : Array Value} (h : ItemsOf (fun i v => ∃ t, v = .int (lo + i * 1) t) its n) : Vals (rngV lo n) its.toList := by
  refine vals_get (by rw [rngV_len, Array.length_toList, h.1]) fun i v u e1 e2 => ?_
  rw [Array.getElem?_toList] at e2
  obtain ⟨t, e⟩ := h.2 i u e2
  unfold rngV at e1
  rw [List.getElem?_map] at e1
  cases er : (List.range n)[i]? with
  | none =>
    rw [er] at e1
    cases e1
  | some j =>
    rw [er] at e1
    cases e1
    obtain ⟨h1, h2⟩ := List.getElem?_eq_some_iff.mp er
    rw [List.getElem_range] at h2
    subst h2
    subst e
    exact ⟨t, by simp⟩
section
variable {X : Cx}
theorem rng_facts {lo hi : Int} (h1 : -1000000000 ≤ lo) (h2 : lo ≤ 1000000000) (h3 : -1000000000 ≤ hi) (h4 : hi ≤ 1000000000) : Builtin.Range.small lo hi 1 = true ∧ Builtin.Range.rangeSize lo hi 1 = ((hi - lo).toNat : Int) := by
  refine ⟨small_one (by omega) (by omega) (by omega) (by omega), ?_⟩
  rw [rangeSize_one]
  split <;> omega
theorem cr_range1 : CallR X (.type "range") (fun vs H Q => ∃ i, vs = [V.int i] ∧ ∀ p, H p = none → Q (.ref p) (upd H p (.rng 0 i))) := by
  intro pins s σ H vs us Q I r h
  obtain ⟨i, rfl, q⟩ := h
  obtain ⟨u1, rfl, ri⟩ := vals1 r
  obtain ⟨t, rfl⟩ := ri
  refine call_range_1 ⟨.ref s.heap.objs.size, upd H s.heap.objs.size (.rng 0 i), I.laid (t' := s.toks + 1 + 1) (fun b o e => Heap.get?_push_of_some _ e) (Nat.le_refl _) ?_, rfl, q _ (I.hok.fresh (Nat.le_refl _))⟩
  exact ⟨s.toks, t, s.toks + 1, Heap.get?_push_size _ rfl⟩
theorem call_tuple_rng (hc : X.calm = true) : CallR X (.type "tuple") (fun xs H Q => ∃ p lo hi, xs = [.ref p] ∧ H p = some (.rng lo hi) ∧ (-1000000000 ≤ lo ∧ lo ≤ 1000000000 ∧ -1000000000 ≤ hi ∧ hi ≤ 1000000000) ∧ (hi - lo).toNat ≤ 16000000 ∧
    ∀ l its n, H l = none → Q (.ref l) (upd H l (.frz (VM.tupO its n) (.tup (rngV lo (hi - lo).toNat))))) := by
  intro pins s σ H xs us Q I r h
  obtain ⟨p, lo, hi, rfl, hp, ⟨h1, h2, h3, h4⟩, hz, q⟩ := h
  obtain ⟨u, rfl, rx⟩ := vals1 r
  cases rx
  obtain ⟨t, u, v, ho⟩ := (show ObjOk X.prog X.w H s.heap p (.rng lo hi) from I.hok p _ hp)
  obtain ⟨hs, hn⟩ := rng_facts h1 h2 h3 h4
  refine callType_new F.called_tuple (by decide) (F.typeCall_tuple_1 _) (F.newCall_tuple_1 _) (fun obj => F.args_object_init_2 obj _) F.entry_tuple_new
    (meets_tuple_new_range p hs hn (by omega)) ⟨I.ok.hd hc, ho, fun h' tk its hk hi' => ⟨⟨_, Heap.get?_push_size _ rfl, rfl⟩, ?_⟩⟩
  have I1 : Inv X pins σ H { s with heap := h', toks := tk } := I.kept (t' := tk) hk
  have e : its = its.toList.toArray := by simp
  have ob : (h'.push { cls := .type "tuple", data := .seq its }).get? h'.objs.size = some (VM.tupO its.toList 0) := by
    unfold VM.tupO
    rw [← e]
    exact Heap.get?_push_size _ rfl
  exact ⟨.ref h'.objs.size, _, I1.laid (t' := tk) (fun b o e => Heap.get?_push_of_some _ e) (Nat.le_refl _) (VM.tupO_ok (by rw [rngV_len, sizeLine_eq]; omega) (vals_rng hi') ob), rfl, q _ _ _ (I1.hok.fresh (Nat.le_refl _))⟩
theorem call_list_rng (hc : X.calm = true) : CallR X (.type "list") (fun xs H Q => ∃ p lo hi, xs = [.ref p] ∧ H p = some (.rng lo hi) ∧ (-1000000000 ≤ lo ∧ lo ≤ 1000000000 ∧ -1000000000 ≤ hi ∧ hi ≤ 1000000000) ∧ (hi - lo).toNat ≤ 16000000 ∧
    ∀ l, H l = none → Q (.ref l) (upd H l (.lst (rngV lo (hi - lo).toNat)))) := by
  intro pins s σ H xs us Q I r h
  obtain ⟨p, lo, hi, rfl, hp, ⟨h1, h2, h3, h4⟩, hz, q⟩ := h
  obtain ⟨u, rfl, rx⟩ := vals1 r
  cases rx
  obtain ⟨t, u, v, ho⟩ := (show ObjOk X.prog X.w H s.heap p (.rng lo hi) from I.hok p _ hp)
  obtain ⟨hs, hn⟩ := rng_facts h1 h2 h3 h4
  refine call_list_range (I.ok.hd hc) ho hs hn (by omega) fun h' tk acc c' hk hS hi' => ?_
  have e : acc = acc.toList.toArray := by simp
  rw [e] at hS
  exact ⟨.ref s.heap.objs.size, _, I.laid (t' := tk) hk (Nat.le_refl _) (o := .lst (rngV lo (hi - lo).toNat)) ⟨by rw [rngV_len, sizeLine_eq]; omega, acc.toList, c', vals_rng hi', hS⟩, rfl, q _ (I.hok.fresh (Nat.le_refl _))⟩
end
end VMR
namespace SrtO
open PySem PySem.Spec PyProof.Rows L2 Srt
section
variable {prog : Program} {w : World} {A : Around} {E : Value → Shared → Prop} {s : Shared}
theorem sorted_ordT {l : Addr} {vs : List Value} {T : String} {ob : Obj} {n : Nat} {ltv : Value → Value → Bool} {Q : Value → Shared → Prop} (O : Swo ltv) (hT : T = "list" ∨ T = "tuple") (hl : s.heap.get? l = some ob) (hcl : ob.cls = .type T) (hd : ob.data = .seq vs.toArray n) (hz : vs.length ≤ sizeLine)
    (hS : 2 ≤ vs.length → ∀ (h₁ : Heap) (a : Addr), h₁.get? a = some (seqObj "list" vs.toArray 0) → (∀ b o, s.heap.get? b = some o → b ≠ a ∧ h₁.get? b = some o) → SortableO prog w A.in1.in1 { s with heap := h₁ } a vs ltv)
    (h : ∀ h' : Heap, (∀ b o, s.heap.get? b = some o → h'.get? b = some o) → ∀ out : List Value, Srtd ltv out → Stb ltv out vs → Q (.ref h'.objs.size) { s with heap := sortedHeap (h'.push (seqObj "list" vs.toArray 0)) h'.objs.size vs out.toArray }) :
    wpAny (model prog w) A (call (.builtin "sorted") [.ref l]) Q E s := by
  refine Calls.call_function_entry kind_sorted plain_sorted entry_sorted (args_sorted1 _) ?_
  unfold Builtin.«sorted»
  refine wpAny_bind (m := checkCount "sorted" 1 1 _) (wpAny_pure ?_)
  refine wpAny_bind (wpAny_collect_seq l hT hl hcl hd (fun h' hk => ?_) (by rw [List.size_toArray]; exact hz))
  have ev : vs.toArray.toList = vs := by simp
  rw [ev]
  refine wpAny_bind (wpAny_newList ?_ hz)
  have hoL : (h'.push (seqObj "list" vs.toArray 0)).get? h'.objs.size = some (seqObj "list" vs.toArray 0) := Heap.get?_push_size _ rfl
  have keep : ∀ b o, s.heap.get? b = some o → b ≠ h'.objs.size ∧ (h'.push (seqObj "list" vs.toArray 0)).get? b = some o := fun b o q =>
    ⟨Nat.ne_of_lt (Heap.lt_size (hk b o q)), Heap.get?_push_of_some _ (hk b o q)⟩
  show wpAny _ _ _ _ _ { s with heap := h'.push (seqObj "list" vs.toArray 0) }
  refine wpAny_bind (wpAny_holding (wpAny_call_entry slot_list_sort ⟨_, hoL, rfl⟩ entry_list_sort (list_sort_ord O hoL hz (fun h2 => hS h2 _ _ hoL keep) fun out hs hb => ⟨_, rfl, ?_⟩) (args_list_sort _)))
  exact wpAny_pure ⟨_, rfl, h h' hk out hs hb⟩
end
end SrtO
namespace VMR
open PySem PySem.Spec PyProof.Rows L2
section
variable {X : Cx}
/-- sorted(xs), ints, of a list or a tuple -/
theorem cr_sortedX : CallR X (.builtin "sorted") (fun xs H Q => ∃ (a : Addr) (ns : List Int), xs = [V.ref a] ∧ (SqL X.K H a (ns.map V.int) ∨ SqT X.K H a (ns.map V.int)) ∧
    ∀ (ns' : List Int) (p : Addr), ns'.Perm ns → ns'.Pairwise (· ≤ ·) → H p = none → Q (.ref p) (upd H p (.lst (ns'.map V.int)))) := by
  intro pins s σ H vs us Q I r h
  obtain ⟨a, ns, rfl, hs, q⟩ := h
  rcases hs with hs | hs
  · exact cr_sortedI pins s σ H _ us Q I r ⟨a, ns, rfl, hs, q⟩
  · obtain ⟨its, rv, hl, hz⟩ := I.tuple hs
    rw [Vals.ref1 r]
    have hi := rv.ints
    obtain ⟨ob, ho, hc, n, hd⟩ := hl
    have hz' : its.length ≤ sizeLine := by rw [← rv.length]; exact hz
    refine SrtO.sorted_ordT SrtO.swo_int (.inr rfl) ho hc hd hz' (fun h2 h₁ a' _ _ => SrtO.ints_sortable hi h2) fun h' hk out h1 h2 => ?_
    obtain ⟨k1, k2, k3⟩ := SrtO.ints_out hi h1 h2
    have hoL : (h'.push (seqObj "list" its.toArray 0)).get? h'.objs.size = some (seqObj "list" its.toArray 0) := Heap.get?_push_size _ rfl
    obtain ⟨ep, he'⟩ := PyProof.Rows.sortedHeap_at (vs := its) (out := out.toArray) hoL
    have hlen : ((out.map SrtO.iv).map V.int).length ≤ sizeLine := by
      rw [List.length_map, k2.length_eq]
      rw [List.length_map] at hz
      exact hz
    have I1 : Inv X pins σ H { s with heap := h' } := I.kept (t' := s.toks) hk
    refine ⟨.ref _, upd H h'.objs.size (.lst ((out.map SrtO.iv).map V.int)), I1.laid (t' := s.toks) (fun b o e => ?_) (Nat.le_refl _) ⟨hlen, out, ep, vals_of_ints k1, he'⟩, rfl, q _ _ k2 k3 (I1.hok.fresh (Nat.le_refl _))⟩
    have hb : b < h'.objs.size := Heap.lt_size e
    rw [PyProof.Rows.sortedHeap_old (Nat.ne_of_lt hb) (Heap.lt_size (Heap.get?_push_of_some _ e))]
    exact Heap.get?_push_of_some _ e
/-- t.index(x): the first place of an equal one -/
theorem mt_tup_indexD (hu : X.A.units + 65 < cLine) : MtR X "tuple.index" (fun x xs H Q => ∃ (a : Addr) (y : V) (d : PyData) (ds : List PyData) (j : Nat) (z : PyData), x = V.ref a ∧ xs = [y] ∧ Dp X.K H (V.ref a) (.tuple ds) ∧ Dp X.K H y d ∧
    SeqAt.shaped (.tuple ds) = true ∧ SeqAt.shaped d = true ∧ ds[j]? = some z ∧ PyData.eqv z d = true ∧ (∀ (m : Nat) (z' : PyData), m < j → ds[m]? = some z' → PyData.eqv z' d = false) ∧ Q (.int (j : Nat)) H) := by
  intro pins s σ H x xs v us Q I rx rxs h
  obtain ⟨a, y, d, ds, j, z, rfl, rfl, hl, hy, sl, sd, hz, hzj, hno, q⟩ := h
  cases rx
  cases rxs with
  | cons ry rt =>
    rename_i uy ut
    cases rt
    obtain ⟨bs, r1⟩ := Dp.reads I d y uy hy ry
    have hxs : PyData.canLayAll0 ds = true := SeqAt.canLay_of_shaped sl
    have hroom : X.A.units + 1 + min (PyData.depthAll ds) d.depth < cLine := room_in_shaped sd hu
    cases hl with
    | tup hs ha =>
      obtain ⟨its, rv, ⟨⟨cls, dd, data, sls⟩, ho, hc, n, hdt⟩, hlen⟩ := I.tuple hs
      simp only at hc hdt
      subst hc hdt
      obtain ⟨as, h4⟩ := Dp.readsAll I ds _ its ha rv
      have hn : its.length = ds.length := SeqAt.ReadsAll.length ds its as h4
      have hmap : its.map (SeqAt.readOf s.heap) = ds := SeqAt.readsAll_map ds its as hxs h4
      obtain ⟨hjd, _⟩ := List.getElem?_eq_some_iff.mp hz
      have hjl : j < its.length := by omega
      have hj : j < its.toArray.size := by simpa using hjl
      have at_ : ∀ (m : Nat) (hm : m < its.toArray.size) (z' : PyData), ds[m]? = some z' → SeqAt.readOf s.heap its.toArray[m] = z' := by
        intro m hm z' hz'
        have hml : m < its.length := by simpa using hm
        rw [← hmap, List.getElem?_map, List.getElem?_eq_getElem hml] at hz'
        have e1 : SeqAt.readOf s.heap its[m] = z' := Option.some.inj (show some (SeqAt.readOf s.heap its[m]) = some z' from hz')
        simpa using e1
      refine call_meets PySem.F.slot_tuple_index ⟨_, ho, rfl⟩ PySem.F.entry_tuple_index (PySem.F.args_tuple_index_2 _ _)
        (_root_.TI.tuple_indexAt a its.toArray n dd sls uy (fun u => PyData.eqv (SeqAt.readOf s.heap u) d) j hj ?_ ?_) ⟨ho, SeqAt.items_eqAt (vs := its.toArray) (show ReadsAll s.heap its.toArray.toList ds as from h4) r1 hxs (SeqAt.canLay_of_shaped sd) hroom, ?_⟩
      · show PyData.eqv (SeqAt.readOf s.heap its.toArray[j]) d = true
        rw [at_ j hj z hz]
        exact hzj
      · intro m hm hmj
        have hmd : m < ds.length := by have : its.toArray.size = its.length := by simp
                                       omega
        have hz' : ds[m]? = some ds[m] := List.getElem?_eq_getElem hmd
        show PyData.eqv (SeqAt.readOf s.heap its.toArray[m]) d = false
        rw [at_ m hm _ hz']
        exact hno m _ hmj hz'
      · exact ⟨.int (j : Nat), H, I.tok _, ⟨_, rfl⟩, q⟩
def tyTup (K : PySem.W.Frag) (x : V) (H : Hp) : Prop := ∃ a vs, x = .ref a ∧ VM.SqX K H a vs
theorem ty_tup : TyOk X "tuple" (tyTup X.K) := by
  intro pins σ H s x v I r ty
  obtain ⟨a, vs, rfl, h⟩ := ty
  cases r
  have key : ∀ its n, s.heap.get? a = some (VM.tupO its n) → s.TypeIs (.ref a) "tuple" ∧ ∀ b, Value.ref a = .ref b → ∃ ob, s.heap.get? b = some ob ∧ ob.dict = none := fun its n e =>
    ⟨⟨_, e, rfl⟩, fun b z => by
      cases z
      exact ⟨_, e, rfl⟩⟩
  rcases h with ⟨its, n, h⟩ | ⟨its, n, h, _⟩
  · exact key its n (I.hok a _ h).1
  · exact key its n (I.kIn a _ h)
end
end VMR

/-! o.index(e), sorted, tuple(range(..)), list(range(..)), isinstance -/
namespace VM
open PySem PySem.Spec PyProof.Rows L2 VMR
theorem pe_or {X : Cx} {e : Expr} {t t' : TE} (h : PE X e t) (h' : PE X e t') : PE X e (fun σ H Q => t σ H Q ∨ t' σ H Q) := ⟨fun pins s σ H Q I q => q.elim (fun z => h.run pins s σ H Q I z) fun z => h'.run pins s σ H Q I z⟩
theorem pyAll_map : ∀ ds : List D, D.pyAll ds = ds.map D.py
  | [] => by simp [D.pyAll]
  | d :: ds => by simp [D.pyAll, pyAll_map ds]
theorem flatAll_mem : ∀ {ds : List D}, D.flatAll ds = true → ∀ d ∈ ds, d.flat = true
  | d :: ds, h, x, hx => by
    rw [D.flatAll, Bool.and_eq_true] at h
    rcases List.mem_cons.mp hx with rfl | hx
    · exact h.1
    · exact flatAll_mem h.2 x hx
  | [], _, x, hx => nomatch hx
theorem find_py {ds : List D} {y : D} {j : Nat} (hd : D.flatAll ds = true) (hy : y.flat = true) (h : ds.findIdx? (fun z => D.eqv z y) = some j) :
    ∃ z, (D.pyAll ds)[j]? = some z ∧ PyData.eqv z y.py = true ∧ ∀ (m : Nat) (z' : PyData), m < j → (D.pyAll ds)[m]? = some z' → PyData.eqv z' y.py = false := by
  obtain ⟨h1, h2, h3⟩ := List.findIdx?_eq_some_iff_getElem.mp h
  have mem : ∀ d ∈ ds, d.flat = true := flatAll_mem hd
  refine ⟨(ds[j]).py, ?_, ?_, fun m z' hm e => ?_⟩
  · rw [pyAll_map, List.getElem?_map, List.getElem?_eq_getElem h1]
    rfl
  · rw [D.py_eqv _ _ (mem _ (List.getElem_mem h1)) hy]
    exact h2
  · rw [pyAll_map, List.getElem?_map, List.getElem?_eq_getElem (by omega)] at e
    have e2 : (ds[m]).py = z' := Option.some.inj e
    rw [← e2, D.py_eqv _ _ (mem _ (List.getElem_mem (by omega))) hy]
    have := h3 m hm
    simpa using this
def idxL (ok : Bool) (ds : List D) (y : D) : Out R := if y.cmpOk && ok then optO (ds.findIdx? fun z => D.eqv z y) fun j => fzO (.int (j : Int)) else .no
def idxD (x : D) (as : List D) : Out R := match as with
  | [y] => (match x with
    | .lst ds => idxL (D.lst ds).cmpOk ds y
    | .tup ds => idxL (D.tup ds).cmpOk ds y
    | _ => .no)
  | _ => .no
def isSeq : D → Bool
  | .lst _ => true
  | .tup _ => true
  | _ => false
def mMq (g : D → List D → Out R) (a : MV) (as : MA) : ME := fun S => (a S).bind fun x => if isSeq x then (as S).bind fun ds => g x ds else .no
theorem cmp_flat {d : D} (h : d.cmpOk = true) : d.flat = true := by
  unfold D.cmpOk at h
  rw [Bool.and_eq_true] at h
  exact h.1
section
variable {X : Cx} {W : WX} {pos : Pos}
theorem je_index {o e : Expr} {apos cpos : Pos} {mo : MV} {ma : MA} (hu : X.A.units + 65 < cLine) (ho : JV X W o mo) (ha : JW X W [e] ma)
    (hbase : attributeBase o "index" X.env (eval o X.env) = eval o X.env := by rfl)
    (hfew : ((backTo cpos (starEach [e] X.env)).all (fun x => !x.1) && (backToKw cpos (keywordEach [] X.env)).all (fun x => x.1.isSome)
      && decide (([e] : List Expr).length + ([] : List Keyword).length + (if ([] : List Keyword).isEmpty then 0 else 1) < 30)) = true := by rfl)
    (hline : (apos.endLine == cpos.line) = true := by rfl) (hs : starEach [e] X.env = (false, eval e X.env) :: starEach [] X.env := by rfl) (hplain : (backTo cpos (starEach [] X.env)).any (·.1) = false := by rfl) :
    JE X W (.Call (.Attribute o "index" apos) [e] [] cpos) (mMq idxD mo ma) := by
  refine ⟨pe_imp (pe_or (pe_bm PySem.F.plainAttrs_list PySem.F.slot_list_index PySem.F.type_list_index (mt_indexD hu) ho.pe ha.pa hbase hfew hline hs hplain)
    (pe_mG ty_tup PySem.F.plainAttrs_tuple PySem.F.slot_tuple_index PySem.F.type_tuple_index (mt_tup_indexD hu) ho.pe ha.pa hbase hfew hline hs hplain)) fun σ H Q ⟨F, S, c, q⟩ => ?_⟩
  have q2 := Fin.bind q
  cases hm : mo S with
  | no =>
    rw [hm] at q2
    exact q2.elim
  | exc x fs =>
    rw [hm] at q2
    exact .inl ⟨F, S, c, by
      rw [hm]
      exact q2⟩
  | ok x =>
    rw [hm] at q2
    cases x with
    | lst ds =>
      refine .inl ⟨F, S, c, ?_⟩
      rw [hm]
      intro F1 H1 t1 v1 r1
      have c1 := c.step t1
      have z := q2 F1 H1 t1
      obtain ⟨a, vs, rfl, h1, r⟩ := r1.lst c1
      refine ⟨.inl ⟨rfl, _, .inl (.inl h1)⟩, F1, S, c1, Fin.imp (Fin.bind (show Fin (kp X) W F1 H1 σ ((ma S).bind fun ds' => idxD (.lst ds) ds') _ from z)) fun ds' F2 H2 t2 z2 vs2 r2 => ?_⟩
      have c2 := c1.step t2
      rcases ds' with _ | ⟨y, _ | ⟨y2, ys⟩⟩
      · exact z2.elim
      · obtain ⟨v, rfl, hv⟩ := r2.one
        have z2 : Fin (kp X) W F2 H2 σ (idxL (D.lst ds).cmpOk ds y) _ := z2
        unfold idxL at z2
        split at z2
        · rename_i hc
          rw [Bool.and_eq_true] at hc
          cases hj : ds.findIdx? (fun z => D.eqv z y) with
          | none =>
            rw [hj] at z2
            exact z2.elim
          | some j =>
            rw [hj] at z2
            obtain ⟨z, k1, k2, k3⟩ := find_py (by have := cmp_flat hc.2; rw [D.flat] at this; exact this) (cmp_flat hc.1) hj
            have rl : Rep (kp X) H2 (.ref a) (.lst ds) := .lst (t2.gh _ _ h1) (r.mono (t2.gf.trans t2.sub))
            have ry := hv.repH c2
            exact ⟨a, v, y.py, D.pyAll ds, j, z, rfl, rfl, by have := rl.dp (cmp_flat hc.2); rw [D.py] at this; exact this, ry.dp (cmp_flat hc.1), by have := rl.shaped hc.2; rw [D.py] at this; exact this, ry.shaped hc.1, k1, k2, k3, fin_int c2 (Fin.kE_mono (t1.gh.trans t2.gh) z2)⟩
        · exact z2.elim
      · exact z2.elim
    | tup ds =>
      refine .inr ⟨F, S, c, ?_⟩
      rw [hm]
      intro F1 H1 t1 v1 r1
      have c1 := c.step t1
      have z := q2 F1 H1 t1
      obtain ⟨a, vs, rfl, h1, r⟩ := r1.tupX c1
      refine ⟨⟨a, vs, rfl, gr_x t1.sub h1⟩, F1, S, c1, Fin.imp (Fin.bind (show Fin (kp X) W F1 H1 σ ((ma S).bind fun ds' => idxD (.tup ds) ds') _ from z)) fun ds' F2 H2 t2 z2 vs2 r2 => ?_⟩
      have c2 := c1.step t2
      rcases ds' with _ | ⟨y, _ | ⟨y2, ys⟩⟩
      · exact z2.elim
      · obtain ⟨v, rfl, hv⟩ := r2.one
        have z2 : Fin (kp X) W F2 H2 σ (idxL (D.tup ds).cmpOk ds y) _ := z2
        unfold idxL at z2
        split at z2
        · rename_i hc
          rw [Bool.and_eq_true] at hc
          cases hj : ds.findIdx? (fun z => D.eqv z y) with
          | none =>
            rw [hj] at z2
            exact z2.elim
          | some j =>
            rw [hj] at z2
            obtain ⟨z, k1, k2, k3⟩ := find_py (by have := cmp_flat hc.2; rw [D.flat] at this; exact this) (cmp_flat hc.1) hj
            have rl : Rep (kp X) H2 (.ref a) (.tup ds) := .tup (gr_x (t2.gf.trans t2.sub) h1) (r.mono (t2.gf.trans t2.sub))
            have ry := hv.repH c2
            exact ⟨a, v, y.py, D.pyAll ds, j, z, rfl, rfl, by have := rl.dp (cmp_flat hc.2); rw [D.py] at this; exact this, ry.dp (cmp_flat hc.1), by have := rl.shaped hc.2; rw [D.py] at this; exact this, ry.shaped hc.1, k1, k2, k3, fin_int c2 (Fin.kE_mono (t1.gh.trans t2.gh) z2)⟩
        · exact z2.elim
      · exact z2.elim
    | _ => exact (q2 F H (.refl c.sub)).elim
end
/-! sorted(ints) -/
def intsOf : List D → Option (List Int)
  | [] => some []
  | .int i :: ds => (intsOf ds).map fun r => i :: r
  | _ :: _ => none
theorem intsOf_eq : ∀ {ds : List D} {ns : List Int}, intsOf ds = some ns → ds = ns.map D.int
  | [], ns, h => by
    cases h
    rfl
  | d :: ds, ns, h => by
    cases d with
    | int i =>
      unfold intsOf at h
      cases e : intsOf ds with
      | none =>
        rw [e] at h
        cases h
      | some r =>
        rw [e] at h
        cases h
        rw [intsOf_eq e]
        rfl
    | _ => cases h
theorem intsOf_map (ns : List Int) : intsOf (ns.map D.int) = some ns := by
  induction ns with
  | nil => rfl
  | cons n ns ih =>
    rw [List.map_cons]
    unfold intsOf
    rw [ih]
    rfl
def sortI (ns : List Int) : List Int := ns.mergeSort fun a b => decide (a ≤ b)
theorem sorted_uniq : ∀ {a b : List Int}, a.Perm b → a.Pairwise (· ≤ ·) → b.Pairwise (· ≤ ·) → a = b
  | [], b, p, _, _ => (List.nil_perm.mp p).symm
  | x :: a, [], p, _, _ => absurd p.length_eq (by simp)
  | x :: a, y :: b, p, h1, h2 => by
    rw [List.pairwise_cons] at h1 h2
    have hx : x ∈ y :: b := p.mem_iff.mp List.mem_cons_self
    have hy : y ∈ x :: a := p.mem_iff.mpr List.mem_cons_self
    have e : x = y := by
      rcases List.mem_cons.mp hx with e | hx
      · exact e
      · rcases List.mem_cons.mp hy with e | hy
        · exact e.symm
        · have := h1.1 y hy
          have := h2.1 x hx
          omega
    subst e
    rw [sorted_uniq (List.Perm.cons_inv p) h1.2 h2.2]
theorem sortI_perm (ns : List Int) : (sortI ns).Perm ns := List.mergeSort_perm ns _
theorem sortI_sorted (ns : List Int) : (sortI ns).Pairwise (· ≤ ·) := by
  have h := List.pairwise_mergeSort (le := fun a b : Int => decide (a ≤ b)) (fun a b c h1 h2 => by simp only [decide_eq_true_eq] at *; omega) (fun a b => by simp only [Bool.or_eq_true, decide_eq_true_eq]; omega) ns
  exact h.imp fun {a b} h => of_decide_eq_true h
theorem sortI_eq {ns ms : List Int} (p : ms.Perm ns) (s : ms.Pairwise (· ≤ ·)) : ms = sortI ns := sorted_uniq (p.trans (sortI_perm ns).symm) s (sortI_sorted ns)
def sortedD : List D → Out R
  | [.lst ds] => optO (intsOf ds) fun ns => owO (.lst ((sortI ns).map .int))
  | [.tup ds] => optO (intsOf ds) fun ns => owO (.lst ((sortI ns).map .int))
  | _ => .no
section
variable {X : Cx} {W : WX} {pos : Pos}
theorem ca_sorted : CaD X W (.builtin "sorted") sortedD := ⟨_, cr_sortedX, fun F S σ H xs dxs Q c hx q => by
  have fin : ∀ (ns : List Int), Fin (kp X) W F H σ (owO (.lst ((sortI ns).map .int))) (kE (kp X) H Q) → ∀ (ns' : List Int) (p : Addr), ns'.Perm ns → ns'.Pairwise (· ≤ ·) → H p = none → Q (.ref p) (upd H p (.lst (ns'.map V.int))) := fun ns q ns' p k1 k2 hp => by
    rw [sortI_eq k1 k2]
    exact fin_lst c q (.of_ints _) p hp
  unfold sortedD at q
  split at q
  · obtain ⟨v, rfl, h⟩ := hx.one
    obtain ⟨a, vs, rfl, h1, r⟩ := h.lst c
    rename_i ds
    cases e : intsOf ds with
    | none =>
      rw [e] at q
      exact q.elim
    | some ns =>
      rw [e] at q
      rw [intsOf_eq e] at r
      rw [r.ints] at h1
      exact ⟨a, ns, rfl, .inl (.inl (.inl h1)), fin ns q⟩
  · obtain ⟨v, rfl, h⟩ := hx.one
    obtain ⟨a, vs, rfl, h1, h1', r⟩ := h.tup c
    rename_i ds
    cases e : intsOf ds with
    | none =>
      rw [e] at q
      exact q.elim
    | some ns =>
      rw [e] at q
      rw [intsOf_eq e] at r
      rw [r.ints] at h1'
      exact ⟨a, ns, rfl, .inr h1', fin ns q⟩
  · exact q.elim⟩
/-! tuple(range(..)), list(range(..)) -/
def tupRng1 : List D → Out R
  | [.int n] => if n.toNat ≤ 16000000 ∧ (-n).toNat ≤ 1000000000 then fzO (.tup (rangeL 0 n.toNat)) else .no
  | _ => .no
def lstRng1 : List D → Out R
  | [.int n] => if n.toNat ≤ 16000000 ∧ (-n).toNat ≤ 1000000000 then owO (.lst (rangeL 0 n.toNat)) else .no
  | _ => .no
theorem rep_rng {K : Kp} {F : Hp} (lo : Int) (n : Nat) : RepL K F (rngV lo n) (rangeL lo n) := by
  unfold rngV rangeL
  induction (List.range n) with
  | nil => exact .nil
  | cons i is ih => exact .cons (.int _) ih
theorem je_tupRng1 {a : Expr} {ma : MA} {p p2 pos2 : Pos} (hc : X.calm = true) (hg : Gl X "tuple") (hm : X.mg "tuple" = none) (hg2 : Gl X "range") (hm2 : X.mg "range" = none) (ha : JW X W [a] ma)
    (he : starEach [.Call (.Name "range" p2) [a] [] pos2] X.env = (false, eval (.Call (.Name "range" p2) [a] [] pos2) X.env) :: starEach [] X.env := by rfl) (hs : starEach [a] X.env = (false, eval a X.env) :: starEach [] X.env := by rfl) : JE X W (.Call (.Name "tuple" p) [.Call (.Name "range" p2) [a] [] pos2] [] pos) (mN tupRng1 ma) :=
  ⟨pe_imp (pe_callTy (call_tuple_rng hc) hg hm (by decide +kernel) (pa_cons (pe_callTy cr_range1 hg2 hm2 (by decide +kernel) ha.pa (he := hs)) pa_nil he)) fun σ H Q ⟨F, S, c, q⟩ => by
    refine ⟨F, S, c, Fin.imp (Fin.bind q) fun ds F1 H1 t z vs rp => ?_⟩
    have c1 := c.step t
    unfold tupRng1 at z
    split at z
    · obtain ⟨v, rfl, h⟩ := rp.one
      split at z
      · rename_i n hb
        have k1 : -1000000000 ≤ (0 : Int) ∧ (0 : Int) ≤ 1000000000 ∧ -1000000000 ≤ n ∧ n ≤ 1000000000 := by omega
        have k2 : (n - 0).toNat ≤ 16000000 := by omega
        have k3 : (n - 0).toNat = n.toNat := by omega
        refine ⟨n, by rw [h.int c1], fun p hp => ?_⟩
        have t2 : Step F1 H1 F1 (upd H1 p (.rng 0 n)) := .newH t.sub hp
        refine ⟨p, 0, n, rfl, upd_same, k1, k2, fin_tup (c1.step t2) (Fin.kE_mono (t.gh.trans t2.gh) (Fin.step t2 z)) (by rw [k3]; exact rep_rng 0 _)⟩
      · exact z.elim
    · exact z.elim⟩
theorem je_lstRng1 {a : Expr} {ma : MA} {p p2 pos2 : Pos} (hc : X.calm = true) (hg : Gl X "list") (hm : X.mg "list" = none) (hg2 : Gl X "range") (hm2 : X.mg "range" = none) (ha : JW X W [a] ma)
    (he : starEach [.Call (.Name "range" p2) [a] [] pos2] X.env = (false, eval (.Call (.Name "range" p2) [a] [] pos2) X.env) :: starEach [] X.env := by rfl) (hs : starEach [a] X.env = (false, eval a X.env) :: starEach [] X.env := by rfl) : JE X W (.Call (.Name "list" p) [.Call (.Name "range" p2) [a] [] pos2] [] pos) (mN lstRng1 ma) :=
  ⟨pe_imp (pe_callTy (call_list_rng hc) hg hm (by decide +kernel) (pa_cons (pe_callTy cr_range1 hg2 hm2 (by decide +kernel) ha.pa (he := hs)) pa_nil he)) fun σ H Q ⟨F, S, c, q⟩ => by
    refine ⟨F, S, c, Fin.imp (Fin.bind q) fun ds F1 H1 t z vs rp => ?_⟩
    have c1 := c.step t
    unfold lstRng1 at z
    split at z
    · obtain ⟨v, rfl, h⟩ := rp.one
      split at z
      · rename_i n hb
        have k1 : -1000000000 ≤ (0 : Int) ∧ (0 : Int) ≤ 1000000000 ∧ -1000000000 ≤ n ∧ n ≤ 1000000000 := by omega
        have k2 : (n - 0).toNat ≤ 16000000 := by omega
        have k3 : (n - 0).toNat = n.toNat := by omega
        refine ⟨n, by rw [h.int c1], fun p hp => ?_⟩
        have t2 : Step F1 H1 F1 (upd H1 p (.rng 0 n)) := .newH t.sub hp
        refine ⟨p, 0, n, rfl, upd_same, k1, k2, fin_lst (c1.step t2) (Fin.kE_mono (t.gh.trans t2.gh) (Fin.step t2 z)) (by rw [k3]; exact rep_rng 0 _)⟩
      · exact z.elim
    · exact z.elim⟩
/-! isinstance(x, T), T a built-in type -/
def tyD : D → Option String
  | .non => some "NoneType"
  | .bl _ => some "bool"
  | .int _ => some "int"
  | .str _ => some "str"
  | .tup _ => some "tuple"
  | .lst _ => some "list"
  | _ => none
def isiB (t T : String) : Bool := t == T || (t == "bool" && T == "int")
def isiD (T : String) : List D → Out R
  | [d] => (match tyD d with
    | some t => fzO (.bl (isiB t T))
    | none => .no)
  | _ => .no
def isiOk (T : String) : Bool := ["NoneType", "bool", "int", "str", "tuple", "list"].all fun t => decide (kitB t T = some (isiB t T))
theorem isi_kit {K : Kp} {t T : String} (h : isiOk T = true) (ht : t ∈ ["NoneType", "bool", "int", "str", "tuple", "list"]) : PySem.W.kitOne K (.type t) (.type T) = some (isiB t T) :=
  kit_ty (of_decide_eq_true (List.all_eq_true.mp h t ht))
theorem ty_of {K : Kp} {H : Hp} {v : V} {d : D} {t : String} (h : tyD d = some t) (r : Rep K H v d) : TyX K H v (.type t) ∧ t ∈ ["NoneType", "bool", "int", "str", "tuple", "list"] := by
  cases r with
  | non =>
    cases h
    exact ⟨.base .non, by simp⟩
  | bl b =>
    cases h
    exact ⟨.base (.bl b), by simp⟩
  | int i =>
    cases h
    exact ⟨.base (.int i), by simp⟩
  | str x k =>
    cases h
    exact ⟨.base (.str _), by simp⟩
  | tup hs l =>
    cases h
    rcases hs with ⟨its, n, hs⟩ | ⟨its, n, hs, _⟩
    · exact ⟨.fTuple hs, by simp⟩
    · exact ⟨.kTuple hs rfl, by simp⟩
  | lst hs l =>
    cases h
    exact ⟨.base (.lst hs), by simp⟩
  | _ => cases h
theorem je_isi {e : Expr} {m : MV} {T : Str} {Ts : String} {p p2 : Pos} (ht : isiOk Ts = true) (hb : bootBuiltins T = some (.type Ts)) (hg : Gl X "isinstance") (hm : X.mg "isinstance" = none) (hg2 : Gl X T) (hm2 : X.mg T = none) (he : JV X W e m)
    (hn : T ≠ "__name__" := by decide) (hd : (T == ("__debug__" : Str)) = false := by decide)
    (hs : starEach [e, .Name T p2] X.env = (false, eval e X.env) :: starEach [.Name T p2] X.env := by rfl) (hs2 : starEach [.Name T p2] X.env = (false, eval (.Name T p2) X.env) :: starEach [] X.env := by rfl)
    (hpl : (backTo pos (starEach [.Name T p2] X.env)).any (·.1) = false := by rfl) :
    JE X W (.Call (.Name "isinstance" p) [e, .Name T p2] [] pos) (mN (isiD Ts) (aCons m aNil)) :=
  ⟨pe_imp (pe_callB call_isi hg hm (by decide +kernel) (pa_cons he.pe (pa_cons (pe_bltn (v := .ty Ts) hg2 hm2 hb rfl hn hd) pa_nil hs2) hs) (he := hs) (hpl := hpl)) fun σ H Q ⟨F, S, c, q⟩ => by
    have q2 := Fin.bind q
    refine ⟨F, S, c, Fin.imp (Fin.bind q2) fun d F1 H1 t z v rv => ?_⟩
    have c1 := c.step t
    have z2 : Fin (kp X) W F1 H1 σ (isiD Ts [d]) (kE (kp X) H Q) := Fin.now t.sub z
    unfold isiD at z2
    cases hd : tyD d with
    | none =>
      simp only [hd] at z2
      exact z2.elim
    | some ty =>
      simp only [hd] at z2
      obtain ⟨k1, k2⟩ := ty_of hd (rv.repH c1)
      exact ⟨v, .ty Ts, .type ty, .type Ts, _, rfl, .ty Ts, k1, isi_kit (K := (kp X)) ht k2, fin_bl c1 (Fin.kE_mono t.gh z2)⟩⟩
end
end VM

/-! instances: e.f, self.f = e, C(..) -/
namespace VM
open PySem PySem.Spec PyProof.Rows L2
def lkF (f : Str) : List (Str × D) → Option D
  | [] => none
  | (g, d) :: r => if f = g then some d else lkF f r
def putD (f : Str) (d : D) : List (Str × D) → List (Str × D)
  | [] => [(f, d)]
  | (g, x) :: r => if g = f then (g, d) :: r else (g, x) :: putD f d r
theorem RepF.lk {K : Kp} {F : Hp} {f : Str} {d : D} : ∀ {fv : List (Str × V)} {fs : List (Str × D)}, RepF K F fv fs → lkF f fs = some d → ∃ v, fv.lookup f = some v ∧ Rep K F v d
  | _, _, .nil, h => by cases h
  | (g, v) :: fv, (_, x) :: fs, .cons r t, h => by
    unfold lkF at h
    by_cases e : f = g
    · rw [if_pos e] at h
      cases h
      refine ⟨v, ?_, r⟩
      rw [List.lookup_cons, beq_iff_eq.mpr e]
    · rw [if_neg e] at h
      obtain ⟨u, h1, h2⟩ := RepF.lk t h
      refine ⟨u, ?_, h2⟩
      rw [List.lookup_cons, beq_eq_false_iff_ne.mpr e]
      exact h1
theorem RepF.put {K : Kp} {F : Hp} {f : Str} {v : V} {d : D} (r : Rep K F v d) : ∀ {fv : List (Str × V)} {fs : List (Str × D)}, RepF K F fv fs → RepF K F (putF f v fv) (putD f d fs)
  | _, _, .nil => .cons r .nil
  | (g, x) :: fv, (_, y) :: fs, .cons q t => by
    unfold putF putD
    by_cases e : g = f
    · rw [if_pos e, if_pos e]
      exact .cons r t
    · rw [if_neg e, if_neg e]
      exact .cons q (RepF.put r t)
theorem RepF.len {K : Kp} {F : Hp} : ∀ {fv : List (Str × V)} {fs : List (Str × D)}, RepF K F fv fs → fv.length = fs.length
  | _, _, .nil => rfl
  | _, _, .cons _ t => congrArg Nat.succ t.len
theorem Vw.obj {K : Kp} {F H : Hp} {S : Ss} {σ : L2.St} {v : V} {c : Str} {fs : List (Str × D)} (h : Vw K F S σ v (.obj c fs)) (cp : Cp K F S σ H) : ∃ a dx fv, v = .ref a ∧ H a = some (.ins (He.ga K c) dx fv) ∧ RepF K F fv fs := by
  rcases h with h | ⟨i, h1, h2⟩
  · cases h with
    | obj h l => exact ⟨_, _, _, rfl, cp.sub _ _ h, l⟩
  · obtain ⟨a, e, o, _⟩ := cp.own i _ h1
    rw [h2] at e
    cases e
    cases o with
    | obj h l => exact ⟨_, _, _, rfl, h, l⟩
section
variable {X : Cx} {W : WX} {pos : Pos}
/-- e.f -/
def fldD (cs : List Str) (f : Str) (d : D) : Out R := match d with
  | .obj c fs => if cs.contains c then optO (lkF f fs) fzO else .no
  | _ => .no
def mFld (cs : List Str) (f : Str) (m : MV) : ME := fun S => (m S).bind (fldD cs f)
theorem je_fld {o : Expr} {f : Str} {cs : List Str} {m : MV} (h : ∀ c ∈ cs, Cls (kp X) (He.ga (kp X) c) ∧ NoAttr (kp X) (He.ga (kp X) c) f) (he : JV X W o m) (hb : attributeBase o f X.env (eval o X.env) = eval o X.env := by rfl) : JE X W (.Attribute o f pos) (mFld cs f m) :=
  ⟨pe_imp (pe_fld he.pe hb) fun σ H Q ⟨F, S, c, q⟩ => ⟨F, S, c, Fin.imp (Fin.bind q) fun d F1 H1 t z v rv => by
    have c1 := c.step t
    unfold fldD at z
    split at z
    · rename_i cn fs
      split at z
      · rename_i hc
        obtain ⟨h1, h2⟩ := h cn (List.contains_iff_mem.mp hc)
        cases hl : lkF f fs with
        | none =>
          rw [hl] at z
          exact z.elim
        | some d =>
          rw [hl] at z
          obtain ⟨a, dx, fv, rfl, k1, k2⟩ := rv.obj c1
          obtain ⟨u, l1, l2⟩ := k2.lk hl
          exact ⟨a, _, dx, fv, u, rfl, k1, h1, h2, l1, fin_fz c1 (Fin.kE_mono t.gh z) l2⟩
      · exact z.elim
    · exact z.elim⟩⟩
/-- x.f = e, x an instance held -/
def fldS (i : Nat) (c : Str) (f : Str) (m : MV) : MS := fun S => ofOut S (m S) fun d => match S[i]? with
  | some (.own (.obj c' fs)) => if c' = c ∧ fs.length < 1000 then .nx (S.set i (.own (.obj c (putD f d fs)))) else .no
  | _ => .no
theorem js_fld {i : Nat} {x f c : Str} {p p2 : Pos} {e : Expr} {m : MV} (hc : Cls (kp X) (He.ga (kp X) c)) (hn : NoAttr (kp X) (He.ga (kp X) c) f) (h0 : PE X (.Name x p) (tVar i)) (h : JZ X W e m)
    (hs : swapsWith e (some (.Attribute (.Name x p) f p2)) pos.line X.env = pure false := by rfl) : JS X W (.Assign [.Attribute (.Name x p) f p2] e pos) (fldS i c f m) := ⟨fun C hC => ps_imp (ps_fld h0 h.pe hs) fun D σ H ⟨F, S, b, q⟩ =>
  ⟨F, S, b.cp, Fin.imp (FinS.out b q) fun d F1 H1 t z v rv => by
    have b1 := b.step t
    split at z
    · rename_i c' fs hS
      split at z
      · rename_i hb
        obtain ⟨rfl, hl⟩ := hb
        obtain ⟨a, ha, ow, hf⟩ := b1.cp.own i _ hS
        cases ow with
        | obj hH r =>
          rename_i dx fv
          refine ⟨.ref a, ha, a, _, dx, fv, rfl, hH, hc, hn, by rw [r.len]; exact hl, ?_⟩
          exact z F1 σ _ (b1.mut hS ha (.obj upd_same (RepF.put rv r))) (.refl _)
      · exact z.elim
    · exact z.elim⟩⟩
/-! ### C(..) -/
def inI (n : Nat) (c : Str) (ds : List D) : Ss := .own (.obj c []) :: inS (n - 1) ds
def slot0 (S : Ss) : Option Sl := S[0]?
def finI (c : Str) (o : SOut) : Out (List (Str × D)) := match o with
  | .nx S => (match slot0 S with
    | some (.own (.obj c' fs)) => if c' = c then .ok fs else .no
    | _ => .no)
  | .exc _ c fs => .exc c fs
  | _ => .no
/-- what an __init__ promises -/
def spI (K : Kp) (n : Nat) (c : Str) (g : List D → Out (List (Str × D))) : Sp := fun vs H Q E => ∃ F H0 x dx us ds, vs = V.ref x :: us ∧ H0 x = none ∧ H0 dx = none ∧ dx ≠ x ∧ H = upd (upd H0 dx (.own x)) x (.ins (He.ga K c) dx []) ∧ Gr F H0 ∧ RepL K F us ds ∧ ds.length = n ∧ match g ds with
  | .no => False
  | .ok fs => ∀ F' H', Step F H0 F' H' → Own K F' H' x (.obj c fs) → F' x = none → Q .non H'
  | .exc c' fs => ∀ F' H' d, Step F H0 F' H' → IsExc K F' H' fs d → E (.ref (He.ga K c')) d H'
end
section
variable {P : Program} {w : World} {K : PySem.W.Frag} {mg : Str → Option Value} {base : Heap}
theorem init_start {K : Kp} {F H0 : Hp} {x dx : Addr} {c : Str} {N : List Str} {us : List V} {ds : List D} (hx : H0 x = none) (hdx : H0 dx = none) (hne : dx ≠ x) (g : Gr F H0) (r : RepL K F us ds) (hN : 0 < N.length) (hle : ds.length < N.length) :
    Bs K ⟨F, H0, some x⟩ F (inI N.length c ds) (L2.start N (V.ref x :: us)) (upd (upd H0 dx (.own x)) x (.ins (He.ga K c) dx [])) := by
  have t1 : Step F H0 F (upd H0 dx (.own x)) := .newH g hdx
  have hx1 : (upd H0 dx (.own x)) x = none := by rw [upd_ne (Ne.symm hne)]; exact hx
  have t2 : Step F (upd H0 dx (.own x)) F (upd (upd H0 dx (.own x)) x (.ins (He.ga K c) dx [])) := .newH t1.sub hx1
  have t := t1.trans t2
  have b := (cp_start (N := N.tail) (vs := us) (ds := ds) g r).step t
  have e1 : L2.start N (V.ref x :: us) = some (V.ref x) :: L2.start N.tail us := by
    have e : N.length - (V.ref x :: us).length = N.tail.length - us.length := by
      rw [List.length_cons, List.length_tail]
      omega
    unfold L2.start
    rw [e]
    rfl
  have e2 : inI N.length c ds = .own (.obj c []) :: inS N.tail.length ds := by
    unfold inI
    rw [List.length_tail]
  rw [e1, e2]
  have no : ∀ (i : Nat) (d : D), (inS N.tail.length ds)[i]? ≠ some (.own d) := fun i d e => by
    unfold inS at e
    by_cases hi : i < (ds.map Sl.fz).length
    · rw [List.getElem?_append_left hi, List.getElem?_map] at e
      cases h : ds[i]? with
      | none =>
        rw [h] at e
        cases e
      | some d' =>
        rw [h] at e
        cases e
    · rw [List.getElem?_append_right (Nat.le_of_not_lt hi), List.getElem?_replicate] at e
      split at e <;> cases e
  have nor : ∀ (i : Nat) (d : List (List D)), (inS N.tail.length ds)[i]? ≠ some (.row d) := fun i d e => by
    unfold inS at e
    by_cases hi : i < (ds.map Sl.fz).length
    · rw [List.getElem?_append_left hi, List.getElem?_map] at e
      cases h : ds[i]? with
      | none =>
        rw [h] at e
        cases e
      | some d' =>
        rw [h] at e
        cases e
    · rw [List.getElem?_append_right (Nat.le_of_not_lt hi), List.getElem?_replicate] at e
      split at e <;> cases e
  have nor2 : ∀ (i : Nat) (d : List (List D)), (Sl.own (.obj c []) :: inS N.tail.length ds)[i]? ≠ some (.row d) := fun i d e => by
    cases i with
    | zero => cases e
    | succ i => exact nor i d (by simpa using e)
  refine ⟨⟨t.sub, by simpa using b.cp.len, fun i d e => ?_, fun i d e => ?_, fun i j di dj a hij ei ej => ?_, fun i d e => absurd e (nor2 i d)⟩, t, fun i d a e ea => ?_, fun i d e => absurd e (nor2 i d), fun y d ey e => ?_⟩
  · cases i with
    | zero => cases e
    | succ i =>
      obtain ⟨v, h1, h2⟩ := b.cp.fz i d (by simpa using e)
      exact ⟨v, by simpa using h1, h2⟩
  · cases i with
    | zero =>
      cases e
      exact ⟨x, rfl, .obj upd_same .nil, g |> fun _ => by
        cases q : F x with
        | none => rfl
        | some o =>
          have := g x o q
          rw [hx] at this
          cases this⟩
    | succ i => exact absurd (by simpa using e) (no i d)
  · cases i with
    | zero =>
      cases j with
      | zero => exact absurd rfl hij
      | succ j => exact absurd (by simpa using ej) (no j dj)
    | succ i => exact absurd (by simpa using ei) (no i di)
  · cases i with
    | zero =>
      cases ea
      exact hx
    | succ i => exact absurd (by simpa using e) (no i d)
  · cases ey
    rfl
/-- an __init__ by its body's judgement -/
theorem init_ok {x qual c : Str} {params : Arguments} {body : List Stmt} {scope : Scope} {dvs : List V} {kws : List (Str × V)} {f : Addr} {fd : FuncData} {N ps : List Str} {k n : Nat} {m : MS} {g : List D → Out (List (Str × D))}
    (F : FunD K x qual params body scope dvs kws f fd) (S : FnScope N ps scope) (hn : ps.length = n + 1) (hN : n < N.length) (h0 : N.head? = some ("self" : Str)) (hg : ∀ ds, ds.length = n → finI c (m (inI N.length c ds)) = g ds)
    (hb : ∀ (cdv : Value) (A : Around) (outer : List Env) (s : Shared) (H : Hp) (E : XK), Room k (A.deeper (envOfC qual scope s.heap.objs.size f cdv)) →
      JSs (cxOf (L2.CX P w) P w K mg base N qual scope f cdv A outer s H E) (fun cls d _ H' => E cls d H') body m) :
    FnOk P w K mg base (L2.CX P w) (k + 1) f fd ps (spI (kq P w K) n c g) := by
  refine F.ok S (fun vs H Q E ⟨F, H0, x, dx, us, ds, e, _, _, _, _, _, r, hl, _⟩ => by rw [e, List.length_cons, r.len, hl, hn]) fun cdv A outer s H vs Q E hr ⟨F1, H0, x, dx, us, ds, ev, hx, hdx, hne, eH, g1, r, hl, h⟩ => ?_
  subst ev
  subst eH
  refine ⟨_, (hb cdv A outer s _ E hr).pss ⟨F1, H0, some x⟩ (.inr h0), F1, _, init_start (N := N) (c := c) hx hdx hne g1 r (by omega) (by omega), ?_⟩
  have e := hg ds hl
  rw [← e] at h
  cases hm : m (inI N.length c ds) with
  | no =>
    rw [hm] at h
    exact h
  | nx S' =>
    rw [hm] at h
    intro F' σ' H' b gg
    unfold finI at h
    simp only at h
    cases hs : slot0 S' with
    | none =>
      rw [hs] at h
      exact h.elim
    | some sl =>
      rw [hs] at h
      cases sl with
      | own d =>
        cases d with
        | obj c' fs =>
          by_cases ec : c' = c
          case neg =>
            simp only [if_neg ec] at h
          simp only [if_pos ec] at h
          subst ec
          obtain ⟨a, ha, ow, hf⟩ := b.cp.own 0 _ hs
          have hp := b.pin x _ rfl hs
          rw [ha] at hp
          cases hp
          exact h F' H' b.st ow hf
        | _ => exact h.elim
      | _ => exact h.elim
  | ret r' =>
    rw [hm] at h
    exact h.elim
  | bk S' =>
    rw [hm] at h
    exact h.elim
  | ct S' =>
    rw [hm] at h
    exact h.elim
  | exc S' c' fs =>
    rw [hm] at h
    exact fun F' σ' H' d b _ ie => h F' H' d b.st ie
/-- a class's making: ps its __init__'s parameters, ar the defaults that fill up, as they are served -/
structure Ix (P : Program) (w : World) (K : PySem.W.Frag) (mg : Str → Option Value) (base : Heap) (k : Nat) (n : Nat) (ar : List (List D)) (c : Str) (g : List D → Out (List (Str × D))) : Prop where
  ex : ∃ fd ps, FnOk P w K mg base (L2.CX P w) k (He.ma K (He.ga K c) "__init__") fd ps (spI (kq P w K) n c g) ∧ Mk K (He.ga K c) (He.ma K (He.ga K c) "__init__") ∧ mg c = some (.ref (He.ga K c)) ∧
    ∀ dds ∈ ar, ∃ dvs ds, (∀ F, RepL (kq P w K) F dvs dds) ∧ Vals dvs ds ∧ Binds K fd ps ds
theorem ix_mk {x qual c : Str} {params : Arguments} {body : List Stmt} {scope : Scope} {dvs : List V} {kws : List (Str × V)} {N ps : List Str} {k n : Nat} {ar : List (List D)} {m : MS} {g : List D → Out (List (Str × D))}
    (F : ∃ fd, FunD K x qual params body scope dvs kws (He.ma K (He.ga K c) "__init__") fd) (hm : mg c = some (.ref (He.ga K c))) (M : Mk K (He.ga K c) (He.ma K (He.ga K c) "__init__")) (S : FnScope N ps scope) (hn : ps.length = n + 1) (hN : n < N.length) (h0 : N.head? = some ("self" : Str))
    (hbd : ∀ fd, FunD K x qual params body scope dvs kws (He.ma K (He.ga K c) "__init__") fd → ∀ dds ∈ ar, ∃ dvs ds, (∀ F, RepL (kq P w K) F dvs dds) ∧ Vals dvs ds ∧ Binds K fd ps ds)
    (hg : ∀ ds, ds.length = n → finI c (m (inI N.length c ds)) = g ds)
    (hb : ∀ (cdv : Value) (A : Around) (outer : List Env) (s : Shared) (H : Hp) (E : XK), Room k (A.deeper (envOfC qual scope s.heap.objs.size (He.ma K (He.ga K c) "__init__") cdv)) →
      JSs (cxOf (L2.CX P w) P w K mg base N qual scope (He.ma K (He.ga K c) "__init__") cdv A outer s H E) (fun cls d _ H' => E cls d H') body m) :
    Ix P w K mg base (k + 1) n ar c g := by
  obtain ⟨fd, F⟩ := F
  exact ⟨fd, ps, init_ok F S hn hN h0 hg hb, M, hm, hbd fd F⟩
end
section
variable {X : Cx} {W : WX} {pos : Pos}
def tMakeSD (C : Addr) (sp : Sp) (dvs : List V) (E : L2.St → XK) (t : TA) : TE := fun σ H Q => t σ H fun vs H1 => ∀ x dx, H1 x = none → H1 dx = none → dx ≠ x →
  sp (.ref x :: (vs ++ dvs)) (upd (upd H1 dx (.own x)) x (.ins C dx [])) (fun v H2 => v = .non ∧ Q (.ref x) H2) (E σ)
theorem run_makeSD {C f : Addr} {k : Nat} {fd : FuncData} {ps : List Str} {sp : Sp} {dvs : List V} {ds : List Value} {E : XK} {pins : List (Addr × Obj)} {σ : L2.St} {H : Hp} {s : Shared} {Q : VK} {us : List Value} {vs : List V} (M : Mk (kp X) C f) (F : FnOk X.prog X.w X.K X.mg X.base (L2.CX X.prog X.w) k f fd ps sp) (hr : Room (k + 1) X.A) (hb : Binds (kp X) fd ps ds) (hd : Vals dvs ds)
    (hx : PassesAt (L2.CX X.prog X.w) X σ E) (I : Inv X pins σ H s) (r : Vals vs us)
    (h : ∀ x dx, H x = none → H dx = none → dx ≠ x → sp (.ref x :: (vs ++ dvs)) (upd (upd H dx (.own x)) x (.ins C dx [])) (fun v H2 => v = .non ∧ Q (.ref x) H2) E) :
    wpAny (model X.prog X.w) X.A (call (.ref C) us) (EP X pins σ Q) X.xe s := by
  have hq := h (s.heap.objs.size + 1) s.heap.objs.size (I.hok.fresh (Nat.le_succ _)) (I.hok.fresh (Nat.le_refl _)) (Nat.ne_of_lt (Nat.lt_succ_self _))
  have I2 := Inv.made (C := C) I
  have r2 : Vals (V.ref (s.heap.objs.size + 1) :: (vs ++ dvs)) (Value.ref (s.heap.objs.size + 1) :: (us ++ ds)) := .cons rfl (r.append hd)
  have hl : (Value.ref (s.heap.objs.size + 1) :: us ++ ds).length = ps.length := by
    have e := r2.length
    rw [F.len _ _ _ _ hq] at e
    exact e.symm
  refine wpAny_call (make_map (f := f) I.kIn M.makes M.init (beq_iff_eq.mp M.fn) (codeAny_mono (F.run _ X.stack _ _ ⟨Value.ref (s.heap.objs.size + 1) :: us, []⟩ (Value.ref (s.heap.objs.size + 1) :: (us ++ ds)) _ _ E (hr.make C us [])
    (I2.env0.make C us []) (hb _ (Value.ref (s.heap.objs.size + 1) :: us) I2.kIn hl) r2 hq) fun r s' hq' => ?_))
  cases r with
  | error e => exact hx pins _ _ e s' I2 hq'
  | ok fl =>
    cases fl with
    | ret u =>
      obtain ⟨v, H', I3, rv, ev, q3⟩ := I2.after hq'
      subst ev
      exact ⟨rv, ⟨V.ref (s.heap.objs.size + 1), H', I3, rfl, q3⟩⟩
    | next => exact False.elim hq'
    | brk => exact False.elim hq'
    | cont => exact False.elim hq'
theorem pe_makeSD {C f : Addr} {k : Nat} {fd : FuncData} {ps : List Str} {sp : Sp} {dvs : List V} {ds : List Value} {E : L2.St → XK} {x : Str} {p : Pos} {e : Expr} {es : List Expr} {t : TA} (M : Mk (kp X) C f) (F : FnOk X.prog X.w X.K X.mg X.base (L2.CX X.prog X.w) k f fd ps sp) (hr : Room (k + 1) X.A) (hg : Gl X x) (hm : X.mg x = some (.ref C)) (hb : Binds (kp X) fd ps ds) (hd : Vals dvs ds) (hx : ∀ σ, PassesAt (L2.CX X.prog X.w) X σ (E σ))
    (ha : PA X (e :: es) t) (hdb : (x == ("__debug__" : Str)) = false := by decide) (he : starEach (e :: es) X.env = (false, eval e X.env) :: starEach es X.env := by rfl) (hpl : (backTo pos (starEach es X.env)).any (·.1) = false := by rfl) :
    PE X (.Call (.Name x p) (e :: es) [] pos) (tMakeSD C sp dvs E t) := by
  refine ⟨fun pins s σ H Q I h => ?_⟩
  refine wpAny_Call_Name_kw (ld_glob I hg hm ?_ hdb)
  refine PySem.W.callWith_K (h₀ := X.base) I.ok.mod.kin M.kp (thn (ha.run pos pins s σ H _ I h) fun us s1 ⟨vs, H1, I1, r, q⟩ => ⟨I1.kIn, ?_⟩) he hpl
  exact run_makeSD M F hr hb hd (hx σ) I1 r q
def newD (c : Str) (g : List D → Out (List (Str × D))) (dds ds : List D) : Out R := (g (ds ++ dds)).bind fun fs => .ok ⟨true, .obj c fs⟩
theorem je_new {k j n a : Nat} {ar : List (List D)} {c : Str} {dds : List D} {p : Pos} {e : Expr} {es : List Expr} {g : List D → Out (List (Str × D))} {ma : MA} (I : Ix X.prog X.w X.K X.mg X.base k n ar c g) (hr : Room j X.A) (hk : k + 1 ≤ j) (hg : Gl X c) (tk : Takes X W) (hd : dds ∈ ar) (ha : JA X W (e :: es) ma) (hl : ALen ma a) (hn : a + dds.length = n)
    (hdb : (c == ("__debug__" : Str)) = false := by decide) (he : starEach (e :: es) X.env = (false, eval e X.env) :: starEach es X.env := by rfl) (hpl : (backTo pos (starEach es X.env)).any (·.1) = false := by rfl) :
    JE X W (.Call (.Name c p) (e :: es) [] pos) (mN (newD c g dds) ma) := by
  obtain ⟨fd, ps, h1, h2, h3, h4⟩ := I.ex
  obtain ⟨dvs, dl, k1, k2, k3⟩ := h4 dds hd
  refine ⟨pe_imp (pe_makeSD h2 h1 (hr.mono hk) hg h3 k3 k2 (fun σ => passAt tk σ) ha.pa hdb he hpl) fun σ H Q ⟨F, S, cp, q⟩ => ⟨F, S, cp, ?_⟩⟩
  have q2 := Fin.bind q
  cases hm : ma S with
  | no =>
    rw [hm] at q2
    exact q2
  | exc x fs =>
    rw [hm] at q2
    exact q2
  | ok ds =>
    rw [hm] at q2
    intro F1 H1 t1 vs rp x dx hx hdx hne
    have z := q2 F1 H1 t1
    have z : Fin (kp X) W F1 H1 σ ((g (ds ++ dds)).bind fun fs => Out.ok (⟨true, .obj c fs⟩ : R)) (fun r F' H' => ∀ v, RepR (kp X) F' H' H v r → Q v H') := z
    have z2 := Fin.bind z
    refine ⟨F1, H1, x, dx, vs ++ dvs, ds ++ dds, rfl, hx, hdx, hne, rfl, t1.sub, rp.app (k1 F1), by rw [List.length_append, hl.len S ds hm]; exact hn, ?_⟩
    cases hgd : g (ds ++ dds) with
    | no =>
      rw [hgd] at z2
      exact z2
    | exc c' fs =>
      rw [hgd] at z2
      exact fun F' H' d st ie => z2 F' H' d st ie
    | ok fs =>
      rw [hgd] at z2
      intro F' H' st ow hf
      have z3 := z2 F' H' st
      exact ⟨rfl, Fin.now st.sub z3 (.ref x) (.inr ⟨rfl, x, rfl, ow, t1.gh.free hx, hf⟩)⟩
end
end VM

/-! and, or as values of bools; defaults -/
namespace VM
open PySem PySem.Spec PyProof.Rows L2
def clsBd : Stmt → List Stmt
  | .ClassDef (body := b) .. => b
  | _ => []
section
variable {X : Cx} {W : WX} {pos : Pos}
def mAndV (a : MV) (b : ME) : ME := fun S => (a S).bind fun d => match d with
  | .bl k => if k then b S else fzO (.bl false)
  | _ => .no
def mOrV (a : MV) (b : ME) : ME := fun S => (a S).bind fun d => match d with
  | .bl k => if k then fzO (.bl true) else b S
  | _ => .no
theorem je_one {op : BoolOp} {a : Expr} {m : ME} (h : JE X W a m) : JE X W (.BoolOp op [a] pos) m := ⟨pe_one h.pe⟩
theorem je_andV {a b : Expr} {rest : List Expr} {m : MV} {k : ME} (h : JZ X W a m) (t : JE X W (.BoolOp .And (b :: rest) pos) k) : JE X W (.BoolOp .And (a :: b :: rest) pos) (mAndV m k) := ⟨pe_imp (L2.pe_and h.pe t.pe) fun σ H Q ⟨F, S, c, q⟩ => ⟨F, S, c, by
  refine Fin.imp (Fin.bind q) fun d F1 H1 t z v rp => ?_
  cases d with
  | bl b =>
    cases rp
    refine ⟨b, rfl, ?_⟩
    cases b with
    | true =>
      simp only [if_true] at z ⊢
      exact ⟨F1, S, c.step t, Fin.kE_mono t.gh z⟩
    | false =>
      simp only [Bool.false_eq_true, if_false] at z ⊢
      exact Fin.now t.sub z _ (.inl ⟨rfl, .bl false⟩)
  | _ => exact z.elim⟩⟩
theorem je_orV {a b : Expr} {rest : List Expr} {m : MV} {k : ME} (h : JZ X W a m) (t : JE X W (.BoolOp .Or (b :: rest) pos) k) : JE X W (.BoolOp .Or (a :: b :: rest) pos) (mOrV m k) := ⟨pe_imp (L2.pe_or h.pe t.pe) fun σ H Q ⟨F, S, c, q⟩ => ⟨F, S, c, by
  refine Fin.imp (Fin.bind q) fun d F1 H1 t z v rp => ?_
  cases d with
  | bl b =>
    cases rp
    refine ⟨b, rfl, ?_⟩
    cases b with
    | true =>
      simp only [if_true] at z ⊢
      exact Fin.now t.sub z _ (.inl ⟨rfl, .bl true⟩)
    | false =>
      simp only [Bool.false_eq_true, if_false] at z ⊢
      exact ⟨F1, S, c.step t, Fin.kE_mono t.gh z⟩
  | _ => exact z.elim⟩⟩
end
end VM

namespace VM
open PySem L2

/-! ### loops -/
/-- a search: what a turn does hangs on the item alone -/
theorem foL_search {ks : List Nat} {tg : D → Ss → Option Ss} {body : MS} {S : Ss} (p : D → Bool) (r : R) : ∀ (ds : List D), (∀ d ∈ ds, ∃ S1, tg d S = some S1 ∧ ((p d = true ∧ body S1 = .ret r) ∨ (p d = false ∧ ∃ S2, body S1 = .nx S2 ∧ wipeS S2 ks = S))) →
    foL ks tg body ds S = if ds.any p then .ret r else .nx S
  | [], _ => rfl
  | d :: ds, h => by
    obtain ⟨S1, h1, h2⟩ := h d List.mem_cons_self
    unfold foL
    rw [h1]
    simp only
    rcases h2 with ⟨h3, h4⟩ | ⟨h3, S2, h4, h5⟩
    · rw [h4, List.any_cons, h3]
      rfl
    · rw [h4, List.any_cons, h3]
      simp only [Bool.false_or]
      rw [h5]
      exact foL_search p r ds fun e he => h e (List.mem_cons_of_mem _ he)
/-- an invariant by the turn -/
theorem foL_inv {ks : List Nat} {tg : D → Ss → Option Ss} {body : MS} (I : Nat → Ss → Prop) : ∀ (ds : List D) (n : Nat) (S : Ss), I n S → (∀ (i : Nat) (d : D) (S : Ss), ds[i]? = some d → I (n + i) S → ∃ S1 S2, tg d S = some S1 ∧ (body S1 = .nx S2 ∨ body S1 = .ct S2) ∧ I (n + i + 1) (wipeS S2 ks)) →
    ∃ S', foL ks tg body ds S = .nx S' ∧ I (n + ds.length) S'
  | [], n, S, h, _ => ⟨S, rfl, h⟩
  | d :: ds, n, S, h, hs => by
    obtain ⟨S1, S2, h1, h2, h3⟩ := hs 0 d S rfl h
    have ih := foL_inv I ds (n + 1) (wipeS S2 ks) h3 (fun i e S he hI => by
      have z := hs (i + 1) e S (by simpa using he) (by rw [show n + (i + 1) = n + 1 + i by omega]; exact hI)
      rw [show n + (i + 1) + 1 = n + 1 + i + 1 by omega] at z
      exact z)
    obtain ⟨S', e1, e2⟩ := ih
    refine ⟨S', ?_, by rw [List.length_cons, show n + (ds.length + 1) = n + 1 + ds.length by omega]; exact e2⟩
    unfold foL
    rw [h1]
    simp only
    rcases h2 with h2 | h2
    · rw [h2]
      exact e1
    · rw [h2]
      exact e1
/-- a fold: the slots are a function of what is carried -/
theorem foL_fold {β : Type} {ks : List Nat} {tg : D → Ss → Option Ss} {body : MS} (st : β → Ss) (f : β → D → β) (I : β → Prop) : ∀ (ds : List D) (b : β), I b → (∀ d ∈ ds, ∀ b, I b → ∃ S1 S2, tg d (st b) = some S1 ∧ (body S1 = .nx S2 ∨ body S1 = .ct S2) ∧ wipeS S2 ks = st (f b d) ∧ I (f b d)) →
    foL ks tg body ds (st b) = .nx (st (ds.foldl f b)) ∧ I (ds.foldl f b)
  | [], b, h, _ => ⟨rfl, h⟩
  | d :: ds, b, h, hs => by
    obtain ⟨S1, S2, h1, h2, h3, h4⟩ := hs d List.mem_cons_self b h
    have ih := foL_fold (ks := ks) (tg := tg) (body := body) st f I ds (f b d) h4 fun e he => hs e (List.mem_cons_of_mem _ he)
    refine ⟨?_, ih.2⟩
    rw [List.foldl_cons, ← ih.1]
    conv => lhs; unfold foL
    rw [h1]
    simp only
    rcases h2 with h2 | h2
    · rw [h2]
      simp only
      rw [h3]
    · rw [h2]
      simp only
      rw [h3]
/-- a comprehension: each item gives one -/
theorem lcL_map {tg : D → Ss → Option Ss} {te : MV} {S0 : Ss} (f : D → D) : ∀ (ds : List D), (∀ d ∈ ds, ∃ S1, tg d S0 = some S1 ∧ te S1 = .ok (f d)) → lcL tg mYes te S0 ds = .ok (ds.map f)
  | [], _ => rfl
  | d :: ds, h => by
    obtain ⟨S1, h1, h2⟩ := h d List.mem_cons_self
    unfold lcL
    rw [h1]
    simp only [mYes]
    rw [h2]
    simp only
    rw [lcL_map f ds fun e he => h e (List.mem_cons_of_mem _ he)]
    rfl
theorem lcL_filter {tg : D → Ss → Option Ss} {tt : MT} {te : MV} {S0 : Ss} (p : D → Bool) (f : D → D) : ∀ (ds : List D), (∀ d ∈ ds, ∃ S1, tg d S0 = some S1 ∧ tt S1 = .ok (p d) ∧ (p d = true → te S1 = .ok (f d))) → lcL tg tt te S0 ds = .ok ((ds.filter p).map f)
  | [], _ => rfl
  | d :: ds, h => by
    obtain ⟨S1, h1, h2, h3⟩ := h d List.mem_cons_self
    unfold lcL
    rw [h1]
    simp only
    rw [h2]
    have ih := lcL_filter p f ds fun e he => h e (List.mem_cons_of_mem _ he)
    cases hp : p d with
    | true =>
      simp only
      rw [h3 hp]
      simp only
      rw [ih, List.filter_cons, if_pos hp]
      rfl
    | false =>
      simp only
      rw [ih, List.filter_cons, if_neg (by rw [hp]; exact Bool.false_ne_true)]
/-- .. of any kind: only that they come -/
theorem lcL_ex {tg : D → Ss → Option Ss} {te : MV} {S0 : Ss} (P : D → Prop) : ∀ (ds : List D), (∀ d ∈ ds, ∃ S1 x, tg d S0 = some S1 ∧ te S1 = .ok x ∧ P x) → ∃ rs, lcL tg mYes te S0 ds = .ok rs ∧ rs.length = ds.length ∧ ∀ x ∈ rs, P x
  | [], _ => ⟨[], rfl, rfl, fun _ h => by cases h⟩
  | d :: ds, h => by
    obtain ⟨S1, x, h1, h2, h3⟩ := h d List.mem_cons_self
    obtain ⟨rs, e1, e2, e3⟩ := lcL_ex P ds fun e he => h e (List.mem_cons_of_mem _ he)
    refine ⟨x :: rs, ?_, congrArg Nat.succ e2, fun y hy => ?_⟩
    · unfold lcL
      rw [h1]
      simp only [mYes]
      rw [h2]
      simp only
      rw [e1]
      rfl
    · rcases List.mem_cons.mp hy with rfl | hy
      · exact h3
      · exact e3 y hy
/-! ### operations -/
theorem mul_ok {i j : Int} (hi : i.natAbs < 2 ^ 4000) (hj : j.natAbs < 2 ^ 4000) : mulD (.int i) (.int j) = fzO (.int (i * j)) := by
  have h1 := PySem.Flt.log2_lt_of (by decide : 0 < 4000) hi
  have h2 := PySem.Flt.log2_lt_of (by decide : 0 < 4000) hj
  exact if_pos (by omega)
theorem div_ok {i j : Int} (h : 0 < j) (hj : j.natAbs < 2 ^ 4000) : divD (.int i) (.int j) = fzO (.int (i / j)) := by
  have h2 := PySem.Flt.log2_lt_of (by decide : 0 < 4000) hj
  exact if_pos ⟨h, by omega⟩
theorem mod_ok {i j : Int} (h : 0 < j) : modD (.int i) (.int j) = fzO (.int (i % j)) := if_pos h
theorem big4000 {n : Nat} (h : n ≤ 10 ^ 200) : n < 2 ^ 4000 := Nat.lt_of_le_of_lt h (by decide +kernel)
theorem atI_in {α : Type} {xs : List α} {i : Int} (h0 : 0 ≤ i) (h : i < (xs.length : Int)) : ∃ x, atI xs i = some x ∧ xs[i.toNat]? = some x ∧ x ∈ xs := by
  have hl : i.toNat < xs.length := by omega
  refine ⟨xs[i.toNat], ?_, List.getElem?_eq_getElem hl, List.getElem_mem hl⟩
  unfold atI L2.ixN
  rw [if_pos h0, if_pos h]
  exact List.getElem?_eq_getElem hl
end VM
namespace VM
open PySem L2
/-! ### small facts -/
theorem p18 : powD (.int 10) (.int 18) = .ok ⟨false, .int 1000000000000000000⟩ := rfl
theorem dT {p : Prop} [Decidable p] (h : p) : decide p = true := decide_eq_true h
theorem dF {p : Prop} [Decidable p] (h : ¬ p) : decide p = false := decide_eq_false h
theorem mul_small {i j : Int} (hi : i.natAbs ≤ 10 ^ 200) (hj : j.natAbs ≤ 10 ^ 200) : mulD (.int i) (.int j) = .ok ⟨false, .int (i * j)⟩ := mul_ok (big4000 hi) (big4000 hj)
theorem div_small {i j : Int} (h : 0 < j) (hj : j.natAbs ≤ 10 ^ 200) : divD (.int i) (.int j) = .ok ⟨false, .int (i / j)⟩ := div_ok h (big4000 hj)
theorem mod_pos {i j : Int} (h : 0 < j) : modD (.int i) (.int j) = .ok ⟨false, .int (i % j)⟩ := mod_ok h
theorem map_int_get {ns : List Int} {i : Nat} {d : D} (h : (ns.map D.int)[i]? = some d) : ∃ x, d = .int x ∧ ns[i]? = some x := by
  rw [List.getElem?_map] at h
  cases e : ns[i]? with
  | none =>
    rw [e] at h
    cases h
  | some x =>
    rw [e] at h
    cases h
    exact ⟨x, rfl, rfl⟩
theorem eqD_int {i j : Int} : eqD (.int i) (.int j) = .ok ⟨false, .bl (i == j)⟩ := by
  simp [eqD, D.cmpOk, D.flat, D.dep, D.eqv, fzO]
theorem neD_int {i j : Int} : neD (.int i) (.int j) = .ok ⟨false, .bl (!(i == j))⟩ := by
  simp [neD, D.cmpOk, D.flat, D.dep, D.eqv, fzO]
theorem eqD_str {i j : List Nat} : eqD (.str i) (.str j) = .ok ⟨false, .bl (i == j)⟩ := by
  simp [eqD, D.cmpOk, D.flat, D.dep, D.eqv, fzO]
theorem neD_str {i j : List Nat} : neD (.str i) (.str j) = .ok ⟨false, .bl (!(i == j))⟩ := by
  simp [neD, D.cmpOk, D.flat, D.dep, D.eqv, fzO]
/-- a list of ints -/
def intsD (ns : List Int) : List D := ns.map .int
end VM
namespace VM
open PySem L2
/-! ### what comes of it -/
structure Kk where
  nx : Ss → Prop
  rt : R → Prop
  bk : Ss → Prop := fun _ => False
  ct : Ss → Prop := fun _ => False
  ex : Str → List (Str × D) → Prop := fun _ _ => False
def WpF (o : SOut) (k : Kk) : Prop := match o with
  | .no => False
  | .nx S => k.nx S
  | .ret r => k.rt r
  | .bk S => k.bk S
  | .ct S => k.ct S
  | .exc _ c fs => k.ex c fs
structure Wp (o : SOut) (k : Kk) : Prop where
  run : WpF o k
def Gives (o : Out R) (P : R → Prop) : Prop := match o with
  | .ok r => P r
  | _ => False
theorem Gives.ex {o : Out R} {P : R → Prop} (h : Gives o P) : ∃ r, o = .ok r ∧ P r := by
  cases o with
  | ok r => exact ⟨r, rfl, h⟩
  | no => exact h.elim
  | exc c fs => exact h.elim
theorem Gives.of {o : Out R} {P : R → Prop} {r : R} (e : o = .ok r) (h : P r) : Gives o P := by
  rw [e]
  exact h
theorem Gives.eq {o : Out R} {r : R} (h : Gives o (fun z => z = r)) : o = .ok r := by
  obtain ⟨z, e, rfl⟩ := h.ex
  exact e
theorem gives_fin {o : SOut} {P : R → Prop} (h : Wp o { nx := fun _ => P ⟨false, .non⟩, rt := P }) : Gives (finO o) P := by
  obtain ⟨h⟩ := h
  cases o <;> exact h
theorem wp_nx {S : Ss} {k : Kk} : Wp (.nx S) k = k.nx S := propext ⟨fun h => h.run, fun h => ⟨h⟩⟩
theorem wp_ret {r : R} {k : Kk} : Wp (.ret r) k = k.rt r := propext ⟨fun h => h.run, fun h => ⟨h⟩⟩
theorem wp_bk {S : Ss} {k : Kk} : Wp (.bk S) k = k.bk S := propext ⟨fun h => h.run, fun h => ⟨h⟩⟩
theorem wp_ct {S : Ss} {k : Kk} : Wp (.ct S) k = k.ct S := propext ⟨fun h => h.run, fun h => ⟨h⟩⟩
/-- a statement, then the rest -/
theorem wp_seq {a b : MS} {S : Ss} {k : Kk} (h : Wp (a S) { k with nx := fun S1 => Wp (b S1) k }) : Wp (seqS a b S) k := by
  unfold seqS
  obtain ⟨h⟩ := h
  cases e : a S with
  | nx S1 =>
    rw [e] at h
    exact h
  | _ =>
    rw [e] at h
    exact ⟨h⟩
theorem wp_if {t : MT} {a b : MS} {S : Ss} {k : Kk} (c : Bool) (ht : t S = .ok c) (h1 : c = true → Wp (a S) k) (h2 : c = false → Wp (b S) k) : Wp (ifS t a b S) k := by
  unfold ifS ofOut
  rw [ht]
  cases c with
  | true => exact h1 rfl
  | false => exact h2 rfl
theorem Wp.imp {o : SOut} {k k' : Kk} (h : Wp o k) (h1 : ∀ S, k.nx S → k'.nx S) (h2 : ∀ r, k.rt r → k'.rt r) (h3 : ∀ S, k.bk S → k'.bk S) (h4 : ∀ S, k.ct S → k'.ct S) (h5 : ∀ c fs, k.ex c fs → k'.ex c fs) : Wp o k' := by
  obtain ⟨h⟩ := h
  cases o with
  | no => exact ⟨h⟩
  | nx S => exact ⟨h1 S h⟩
  | ret r => exact ⟨h2 r h⟩
  | bk S => exact ⟨h3 S h⟩
  | ct S => exact ⟨h4 S h⟩
  | exc S c fs => exact ⟨h5 c fs h⟩
def SOut.tt (o : Option Ss) (b : MS) : SOut := match o with
  | some S => b S
  | none => .no
theorem tt_s {S : Ss} {b : MS} : SOut.tt (some S) b = b S := rfl
/-- a for, by an invariant over the turn -/
theorem wp_foL {ks : List Nat} {tg : D → Ss → Option Ss} {body : MS} {k : Kk} (I : Nat → Ss → Prop) : ∀ (ds : List D) (n : Nat) (S : Ss), I n S →
    (∀ (i : Nat) (d : D) (S : Ss), ds[i]? = some d → I (n + i) S → Wp (SOut.tt (tg d S) body) { nx := fun S2 => I (n + i + 1) (wipeS S2 ks), rt := k.rt, bk := fun S2 => k.nx (wipeS S2 ks), ct := fun S2 => I (n + i + 1) (wipeS S2 ks), ex := k.ex }) →
    (∀ S, I (n + ds.length) S → k.nx S) → Wp (foL ks tg body ds S) k
  | [], n, S, h, _, hd => ⟨hd S h⟩
  | d :: ds, n, S, h, ht, hd => by
    have h1 := ht 0 d S rfl h
    have ih := fun S' (h' : I (n + 1) S') => wp_foL (ks := ks) (tg := tg) (body := body) (k := k) I ds (n + 1) S' h' (fun i e S he hI => by
      have z := ht (i + 1) e S (by simpa using he) (by rw [show n + (i + 1) = n + 1 + i by omega]; exact hI)
      rw [show n + (i + 1) + 1 = n + 1 + i + 1 by omega] at z
      exact z) (fun S hS => hd S (by rw [List.length_cons, show n + (ds.length + 1) = n + 1 + ds.length by omega]; exact hS))
    unfold foL
    cases hg : tg d S with
    | none =>
      rw [hg] at h1
      exact h1.run.elim
    | some S1 =>
      rw [hg] at h1
      simp only
      have h2 := (show Wp (body S1) _ from h1).run
      cases hb : body S1 with
      | no =>
        rw [hb] at h2
        exact ⟨h2⟩
      | nx S2 =>
        rw [hb] at h2
        exact ih _ h2
      | ct S2 =>
        rw [hb] at h2
        exact ih _ h2
      | bk S2 =>
        rw [hb] at h2
        exact ⟨h2⟩
      | ret r =>
        rw [hb] at h2
        exact ⟨h2⟩
      | exc S2 c fs =>
        rw [hb] at h2
        exact ⟨h2⟩
theorem wp_for {ks : List Nat} {tg : D → Ss → Option Ss} {body : MS} {ds : List D} {S : Ss} {k : Kk} (I : Nat → Ss → Prop) (h0 : I 0 S)
    (ht : ∀ (i : Nat) (d : D) (S : Ss), ds[i]? = some d → I i S → Wp (SOut.tt (tg d S) body) { nx := fun S2 => I (i + 1) (wipeS S2 ks), rt := k.rt, bk := fun S2 => k.nx (wipeS S2 ks), ct := fun S2 => I (i + 1) (wipeS S2 ks), ex := k.ex })
    (hd : ∀ S, I ds.length S → k.nx S) : Wp (foL ks tg body ds S) k :=
  wp_foL I ds 0 S h0 (fun i d S e h => by
    rw [Nat.zero_add] at h ⊢
    exact ht i d S e h) fun S h => hd S (by rw [Nat.zero_add] at h; exact h)
/-- a while, by an invariant and a measure -/
theorem wp_whL {ks : List Nat} {t : MT} {body : MS} {k : Kk} (I : Ss → Prop) (μ : Ss → Nat)
    (ht : ∀ S, I S → ∃ b, t S = .ok b ∧ (b = true → Wp (body S) { nx := fun S2 => I (wipeS S2 ks) ∧ μ (wipeS S2 ks) < μ S, rt := k.rt, bk := fun S2 => k.nx (wipeS S2 ks), ct := fun S2 => I (wipeS S2 ks) ∧ μ (wipeS S2 ks) < μ S, ex := k.ex }) ∧ (b = false → k.nx S)) :
    ∀ (n : Nat) (S : Ss), I S → μ S < n → Wp (whL ks t body n S) k
  | 0, S, _, h => absurd h (Nat.not_lt_zero _)
  | n + 1, S, h, hm => by
    obtain ⟨b, e, h1, h2⟩ := ht S h
    unfold whL ofOut
    rw [e]
    cases b with
    | false => exact ⟨h2 rfl⟩
    | true =>
      have h3 := (h1 rfl).run
      simp only [if_true]
      cases hb : body S with
      | no =>
        rw [hb] at h3
        exact ⟨h3⟩
      | nx S2 =>
        rw [hb] at h3
        exact wp_whL I μ ht n _ h3.1 (by have := h3.2; omega)
      | ct S2 =>
        rw [hb] at h3
        exact wp_whL I μ ht n _ h3.1 (by have := h3.2; omega)
      | bk S2 =>
        rw [hb] at h3
        exact ⟨h3⟩
      | ret r =>
        rw [hb] at h3
        exact ⟨h3⟩
      | exc S2 c fs =>
        rw [hb] at h3
        exact ⟨h3⟩
/-- the item of a comprehension -/
def lcV (tg : D → Ss → Option Ss) (te : MV) (S0 : Ss) (d : D) : D := match tg d S0 with
  | some S1 => (match te S1 with
    | .ok x => x
    | _ => .non)
  | none => .non
def Out.te (o : Option Ss) (te : MV) : Out D := match o with
  | some S => te S
  | none => .no
theorem te_s {S : Ss} {te : MV} : Out.te (some S) te = te S := rfl
def GivesD (o : Out D) (P : D → Prop) : Prop := match o with
  | .ok r => P r
  | _ => False
theorem givesD_ok {d : D} {P : D → Prop} : GivesD (.ok d) P = P d := rfl
theorem lcL_gen {tg : D → Ss → Option Ss} {te : MV} {S0 : Ss} {ds : List D} (P : D → Prop) (h : ∀ d ∈ ds, GivesD (Out.te (tg d S0) te) P) : lcL tg mYes te S0 ds = .ok (ds.map (lcV tg te S0)) ∧ ∀ x ∈ ds.map (lcV tg te S0), P x := by
  have k : ∀ d ∈ ds, ∃ S1, tg d S0 = some S1 ∧ te S1 = .ok (lcV tg te S0 d) ∧ P (lcV tg te S0 d) := fun d hd => by
    have z := h d hd
    unfold lcV
    cases hg : tg d S0 with
    | none =>
      rw [hg] at z
      exact z.elim
    | some S1 =>
      rw [hg] at z
      have z2 : GivesD (te S1) P := z
      refine ⟨S1, rfl, ?_⟩
      show te S1 = .ok (match te S1 with | .ok x => x | _ => .non) ∧ P (match te S1 with | .ok x => x | _ => .non)
      cases ht : te S1 with
      | no =>
        rw [ht] at z2
        exact z2.elim
      | exc c fs =>
        rw [ht] at z2
        exact z2.elim
      | ok x =>
        rw [ht] at z2
        exact ⟨rfl, z2⟩
  refine ⟨lcL_map _ ds fun d hd => ?_, fun x hx => ?_⟩
  · obtain ⟨S1, h1, h2, _⟩ := k d hd
    exact ⟨S1, h1, h2⟩
  · obtain ⟨d, hd, rfl⟩ := List.mem_map.mp hx
    obtain ⟨_, _, _, h3⟩ := k d hd
    exact h3
end VM
namespace VM
open PySem L2
/-- a statement, what holds behind it, the rest -/
theorem wp_cut {a b : MS} {S : Ss} {k : Kk} (J : Ss → Prop) (h : Wp (a S) { k with nx := J }) (h2 : ∀ S, J S → Wp (b S) k) : Wp (seqS a b S) k :=
  wp_seq (h.imp h2 (fun _ z => z) (fun _ z => z) (fun _ z => z) fun _ _ z => z)
theorem natAbs_mul_le {i j : Int} {a b : Nat} (hi : i.natAbs ≤ a) (hj : j.natAbs ≤ b) : (i * j).natAbs ≤ a * b := by
  rw [Int.natAbs_mul]
  exact Nat.mul_le_mul hi hj
end VM
namespace VM
open PySem L2
/-! ### texts in lists -/
theorem strs_of {q : List D} {P : List Nat → Prop} (h : ∀ d ∈ q, ∃ z, d = .str z ∧ P z) : ∃ ys : List (List Nat), q = ys.map D.str ∧ ∀ y ∈ ys, P y := by
  induction q with
  | nil => exact ⟨[], rfl, fun _ h => by cases h⟩
  | cons d q ih =>
    obtain ⟨z, rfl, hz⟩ := h d List.mem_cons_self
    obtain ⟨ys, rfl, hy⟩ := ih fun e he => h e (List.mem_cons_of_mem _ he)
    exact ⟨z :: ys, rfl, fun y hm => by
      rcases List.mem_cons.mp hm with rfl | hm
      · exact hz
      · exact hy y hm⟩
theorem jn_len (sep : List Nat) : ∀ (xs : List (List Nat)) (acc : List Nat), (xs.foldl (fun acc p => acc ++ sep ++ p) acc).length = acc.length + ((xs.map (·.length)).sum + xs.length * sep.length)
  | [], acc => by simp
  | x :: xs, acc => by
    rw [List.foldl_cons, jn_len sep xs, List.length_append, List.length_append, List.map_cons, List.sum_cons, List.length_cons, Nat.succ_mul]
    omega
theorem jnL_len (sep : List Nat) (xs : List (List Nat)) : (jnL sep xs).length ≤ (xs.map (·.length)).sum + xs.length * sep.length := by
  unfold jnL
  cases xs with
  | nil => simp
  | cons x xs =>
    show (xs.foldl _ x).length ≤ _
    rw [jn_len, List.map_cons, List.sum_cons, List.length_cons, Nat.succ_mul]
    omega
theorem sum_le {xs : List (List Nat)} {m : Nat} (h : ∀ x ∈ xs, x.length ≤ m) : (xs.map (·.length)).sum ≤ xs.length * m := by
  induction xs with
  | nil => simp
  | cons x xs ih =>
    have h1 := h x List.mem_cons_self
    have h2 := ih fun y hy => h y (List.mem_cons_of_mem _ hy)
    rw [List.map_cons, List.sum_cons, List.length_cons, Nat.succ_mul]
    omega
theorem joinD_l {sep : List Nat} {ys : List (List Nat)} (h : (ys.map (·.length)).sum + ys.length * sep.length ≤ 16000000) : joinD (.str sep) [.lst (ys.map D.str)] = .ok ⟨false, .str (jnL sep ys)⟩ := by
  unfold joinD
  simp only [strsOf_map, optO]
  exact if_pos h
theorem cut_mem {α : Type} {xs : List α} {lo hi : Option Int} {x : α} (h : x ∈ cutL xs lo hi) : x ∈ xs := List.mem_of_mem_drop (List.mem_of_mem_take h)
theorem cutL_le {α : Type} (xs : List α) (lo hi : Option Int) : (cutL xs lo hi).length ≤ xs.length := by
  unfold cutL
  rw [List.length_take, List.length_drop]
  omega
end VM
namespace VM
open PySem L2
theorem lcL_some {tg : D → Ss → Option Ss} {te : MV} {S0 : Ss} {ds : List D} (P : D → Prop) (h : ∀ d ∈ ds, GivesD (Out.te (tg d S0) te) P) : ∃ ys, lcL tg mYes te S0 ds = .ok ys ∧ ys.length = ds.length ∧ ∀ y ∈ ys, P y := by
  obtain ⟨k1, k2⟩ := lcL_gen P h
  exact ⟨_, k1, List.length_map _, k2⟩
end VM

/-! evaluation, one step a lemma -/
namespace VM
open PySem L2
def SOut.th (o : SOut) (b : MS) : SOut := match o with
  | .nx S => b S
  | o => o
def SOut.st (o : Out R) (S : Ss) (i : Nat) : SOut := ofOut S o fun r => if !r.own || noRow S then .nx (S.set i (slR r)) else .no
def SOut.rt (o : Out R) (S : Ss) : SOut := ofOut S o fun r => .ret r
def SOut.dr (o : Out R) (S : Ss) : SOut := ofOut S o fun _ => .nx S
def SOut.ite (o : Out Bool) (S : Ss) (a b : MS) : SOut := ofOut S o fun k => if k then a S else b S
def SOut.fo (o : Out (List D)) (S : Ss) (ks : List Nat) (tg : D → Ss → Option Ss) (body : MS) : SOut := ofOut S o fun ds => foL ks tg body ds (wipeS S ks)
def SOut.ofO (o : Option Ss) : SOut := match o with
  | some S1 => .nx S1
  | none => .no
def SOut.ag (o : Out D) (S : Ss) (tg : D → Ss → Option Ss) : SOut := ofOut S o fun d => SOut.ofO (tg d S)
def SOut.ap (sl : Option Sl) (o : Out D) (S : Ss) (i : Nat) : SOut := match sl with
  | some (.own (.lst ds)) => ofOut S o fun d => if ds.length < 16000000 then .nx (S.set i (.own (.lst (ds ++ [d])))) else .no
  | _ => .no
def SOut.rv (sl : Option Sl) : SOut := match sl with
  | some (.fz d) => .ret ⟨false, d⟩
  | some (.own d) => .ret ⟨true, d⟩
  | _ => .no
def Sl.look (sl : Option Sl) : Out D := match sl with
  | some (.fz d) => .ok d
  | some (.own d) => .ok d
  | _ => .no
def Sl.read (sl : Option Sl) : Out R := match sl with
  | some (.fz d) => .ok ⟨false, d⟩
  | _ => .no
def Sl.frz (sl : Option Sl) (S : Ss) (i : Nat) : Ss := match sl with
  | some (.own d) => S.set i (.fz d)
  | some (.row dss) => S.set i (.fz (.lst (dss.map .lst)))
  | _ => S
def Out.b2 (a b : Out D) (g : D → D → Out R) : Out R := a.bind fun x => b.bind fun y => g x y
def Out.b3 (a : Out D) (l h : Out (Option Int)) (g : D → Option Int → Option Int → Out R) : Out R := a.bind fun x => l.bind fun l => h.bind fun h => g x l h
def Out.cn (a : Out D) (b : Out (List D)) : Out (List D) := a.bind fun d => b.bind fun ds => .ok (d :: ds)
def Out.zz (a : Out R) : Out D := a.bind fun r => .ok r.d
def Out.tb (a : Out D) : Out Bool := a.bind fun d => match d with
  | .bl b => .ok b
  | _ => .no
def Out.andB (a : Out Bool) (k : MT) (S : Ss) : Out Bool := a.bind fun b => if b then k S else .ok false
def Out.orB (a : Out Bool) (k : MT) (S : Ss) : Out Bool := a.bind fun b => if b then .ok true else k S
def Out.ntB (a : Out Bool) : Out Bool := a.bind fun b => .ok (!b)
def Out.ite (a : Out Bool) (x y : ME) (S : Ss) : Out R := a.bind fun k => if k then x S else y S
def Out.ntV (a : Out D) : Out R := a.bind fun d => match d with
  | .bl b => .ok ⟨false, .bl (!b)⟩
  | _ => .no
def Out.osm (a : Out D) : Out (Option Int) := a.bind fun d => match d with
  | .int i => .ok (some i)
  | _ => .no
def Out.lcF (o : Out (List D)) : Out R := match o with
  | .ok rs => lstD rs
  | _ => .no
def Out.lc (o : Out (List D)) (vs : List Nat) (g : D → Ss → Option Ss) (tt : MT) (te : MV) (S : Ss) : Out R := o.bind fun ds => Out.lcF (lcL g tt te (wipeS S vs) ds)
def Out.mm (a : Out D) (as : Out (List D)) (g : D → List D → Out R) : Out R := a.bind fun x => if isStr x then as.bind fun ds => g x ds else .no
def Out.c3 (r : Out R) (y : D) (h : D → D → Out R) (c : MV) (S : Ss) : Out R := r.bind fun r => match r.d with
  | .bl true => (c S).bind fun z => h y z
  | .bl false => fzO (.bl false)
  | _ => .no
def Out.b3c (a b : Out D) (g h : D → D → Out R) (c : MV) (S : Ss) : Out R := a.bind fun x => b.bind fun y => Out.c3 (g x y) y h c S
def SOut.rw (o : Out (List D)) (S : Ss) (i : Nat) : SOut := ofOut S o fun ds => if ds.length ≤ 16000000 ∧ lightS S = true then .nx (S.set i (.row (ds.map fun _ => []))) else .no
def SOut.ra2 (dss : List (List D)) (oj : Option Nat) (mv : MV) (S : Ss) (i : Nat) : SOut := match oj with
  | some j => (match dss[j]? with
    | some ds => ofOut S (mv S) fun d => if ds.length < 16000000 then .nx (S.set i (.row (dss.set j (ds ++ [d])))) else .no
    | none => .no)
  | none => .no
def SOut.ra (sl : Option Sl) (o : Out D) (mv : MV) (S : Ss) (i : Nat) : SOut := match sl with
  | some (.row dss) => ofOut S o fun k => match k with
    | .int k => SOut.ra2 dss (ixN dss.length k) mv S i
    | _ => .no
  | _ => .no
def SOut.si2 (ds : List D) (oj : Option Nat) (d : D) (S : Ss) (i : Nat) : SOut := match oj with
  | some j => .nx (S.set i (.own (.lst (ds.set j d))))
  | none => .no
def SOut.si (sl : Option Sl) (ok o : Out D) (S : Ss) (i : Nat) : SOut := ofOut S o fun d => match sl with
  | some (.own (.lst ds)) => ofOut S ok fun k => (match k with
    | .int k => SOut.si2 ds (ixN ds.length k) d S i
    | _ => .no)
  | _ => .no
def SOut.po (sl : Option Sl) (S : Ss) (i j : Nat) : SOut := match sl with
  | some (.own (.lst ds)) => (match ds.getLast? with
    | some d => if i = j then .no else .nx ((S.set j (.own (.lst ds.dropLast))).set i (.fz d))
    | none => .no)
  | _ => .no
def SOut.pp2 (ds es : List D) (k : Int) (on : Option Nat) (S : Ss) (i j : Nat) : SOut := match on with
  | some n => (match es[n]? with
    | some d => if i ≠ j ∧ ds.length < 16000000 ∧ k.toNat ≤ 1000000000 ∧ (-k).toNat ≤ 1000000000 then .nx ((S.set j (.own (.lst (es.eraseIdx n)))).set i (.own (.lst (ds ++ [d])))) else .no
    | none => .no)
  | none => .no
def SOut.pp (sl sk : Option Sl) (o : Out D) (S : Ss) (i j : Nat) : SOut := match sl with
  | some (.own (.lst ds)) => (match sk with
    | some (.own (.lst es)) => ofOut S o fun k => (match k with
      | .int k => SOut.pp2 ds es k (ixN es.length k) S i j
      | _ => .no)
    | _ => .no)
  | _ => .no
def SOut.fs (sl : Option Sl) (o : Out D) (S : Ss) (i : Nat) (c f : Str) : SOut := ofOut S o fun d => match sl with
  | some (.own (.obj c' fs)) => if c' = c ∧ fs.length < 1000 then .nx (S.set i (.own (.obj c (putD f d fs)))) else .no
  | _ => .no
def Out.mq (a : Out D) (as : Out (List D)) (g : D → List D → Out R) : Out R := a.bind fun x => if isSeq x then as.bind fun ds => g x ds else .no
def Out.av (a : Out D) (b : ME) (S : Ss) : Out R := a.bind fun d => match d with
  | .bl k => if k then b S else fzO (.bl false)
  | _ => .no
def Out.ov (a : Out D) (b : ME) (S : Ss) : Out R := a.bind fun d => match d with
  | .bl k => if k then fzO (.bl true) else b S
  | _ => .no
section
variable {S : Ss} {a b : MS} {m k x y : ME} {v u w : MV} {t p q : MT} {as : MA} {i : Nat} {is ks vs : List Nat} {g : D → D → Out R} {h : D → D → Out R} {f : List D → Out R} {tg : D → Ss → Option Ss} {r : R} {d e : D} {ds es : List D} {c : Str} {fs : List (Str × D)}
theorem ev_seq (a b : MS) (S : Ss) : seqS a b S = SOut.th (a S) b := rfl
theorem th_nx : SOut.th (.nx S) b = b S := rfl
theorem th_ret : SOut.th (.ret r) b = .ret r := rfl
theorem th_no : SOut.th .no b = .no := rfl
theorem th_bk : SOut.th (.bk S) b = .bk S := rfl
theorem th_ct : SOut.th (.ct S) b = .ct S := rfl
theorem th_exc : SOut.th (.exc S c fs) b = .exc S c fs := rfl
theorem ev_nx : nxS S = .nx S := rfl
theorem ev_bk : bkS S = .bk S := rfl
theorem ev_ct : ctS S = .ct S := rfl
theorem ev_noS : noS S = .no := rfl
theorem ev_as : asS i m S = SOut.st (m S) S i := rfl
theorem st_okf : SOut.st (.ok ⟨false, d⟩) S i = .nx (S.set i (.fz d)) := rfl
theorem st_okt : SOut.st (.ok ⟨true, d⟩) S i = if noRow S = true then .nx (S.set i (.own d)) else .no := rfl
theorem st_no : SOut.st .no S i = .no := rfl
theorem st_exc : SOut.st (.exc c fs) S i = .exc S c fs := rfl
theorem ev_re : reS m S = SOut.rt (m S) S := rfl
theorem rt_ok : SOut.rt (.ok r) S = .ret r := rfl
theorem rt_no : SOut.rt .no S = .no := rfl
theorem rt_exc : SOut.rt (.exc c fs) S = .exc S c fs := rfl
theorem ev_dr : drS m S = SOut.dr (m S) S := rfl
theorem dr_ok : SOut.dr (.ok r) S = .nx S := rfl
theorem dr_no : SOut.dr .no S = .no := rfl
theorem dr_exc : SOut.dr (.exc c fs) S = .exc S c fs := rfl
theorem ev_if : ifS t a b S = SOut.ite (t S) S a b := rfl
theorem ite_t : SOut.ite (.ok true) S a b = a S := rfl
theorem ite_f : SOut.ite (.ok false) S a b = b S := rfl
theorem ite_no : SOut.ite .no S a b = .no := rfl
theorem ite_exc : SOut.ite (.exc c fs) S a b = .exc S c fs := rfl
theorem ev_fo : foS ks tg as a S = SOut.fo (as S) S ks tg a := rfl
theorem fo_ok : SOut.fo (.ok ds) S ks tg a = foL ks tg a ds (wipeS S ks) := rfl
theorem fo_no : SOut.fo .no S ks tg a = .no := rfl
theorem fo_exc : SOut.fo (.exc c fs) S ks tg a = .exc S c fs := rfl
theorem ev_wh {n : Nat} : whS n ks t a S = whL ks t a n (wipeS S ks) := rfl
theorem ev_ag : agS tg v S = SOut.ag (v S) S tg := rfl
theorem ag_ok : SOut.ag (.ok d) S tg = SOut.ofO (tg d S) := rfl
theorem ag_no : SOut.ag .no S tg = .no := rfl
theorem ag_exc : SOut.ag (.exc c fs) S tg = .exc S c fs := rfl
theorem ofO_s : SOut.ofO (some S) = .nx S := rfl
theorem ofO_n : SOut.ofO none = .no := rfl
theorem ev_ap : apS i v S = SOut.ap S[i]? (v S) S i := rfl
theorem ap_ok : SOut.ap (some (.own (.lst ds))) (.ok d) S i = if ds.length < 16000000 then .nx (S.set i (.own (.lst (ds ++ [d])))) else .no := rfl
theorem ev_rv : rvS i S = SOut.rv S[i]? := rfl
theorem rv_fz : SOut.rv (some (.fz d)) = .ret ⟨false, d⟩ := rfl
theorem rv_own : SOut.rv (some (.own d)) = .ret ⟨true, d⟩ := rfl
theorem ev_rn : rnS S = .ret ⟨false, .non⟩ := rfl
theorem ev_frw : frW is a S = a (frzS S is) := rfl
theorem ev_frz0 : frzS S [] = S := rfl
theorem ev_frzc : frzS S (i :: is) = frzS (Sl.frz S[i]? S i) is := rfl
theorem frz_own : Sl.frz (some (.own d)) S i = S.set i (.fz d) := rfl
theorem frz_fz : Sl.frz (some (.fz d)) S i = S := rfl
theorem frz_no : Sl.frz (some .no) S i = S := rfl
theorem frz_none : Sl.frz none S i = S := rfl
theorem slR_f : slR ⟨false, d⟩ = .fz d := rfl
theorem slR_o : slR ⟨true, d⟩ = .own d := rfl
theorem fin_nx : finO (.nx S) = .ok ⟨false, .non⟩ := rfl
theorem fin_ret : finO (.ret r) = .ok r := rfl
theorem fin_no : finO .no = .no := rfl
theorem fin_exc : finO (.exc S c fs) = .exc c fs := rfl
theorem ev_fzO : fzO d = .ok ⟨false, d⟩ := rfl
theorem ev_owO : owO d = .ok ⟨true, d⟩ := rfl
theorem opt_s {α : Type} {z : α} {l : α → Out R} : optO (some z) l = l z := rfl
theorem opt_n {α : Type} {l : α → Out R} : optO none l = .no := rfl
theorem ev_mZ : mZ m S = Out.zz (m S) := rfl
theorem ev_vE : vE m S = Out.zz (m S) := rfl
theorem zz_ok : Out.zz (.ok r) = .ok r.d := rfl
theorem zz_no : Out.zz .no = .no := rfl
theorem zz_exc : Out.zz (.exc c fs) = .exc c fs := rfl
theorem ev_vv : vVar i S = Sl.look S[i]? := rfl
theorem look_fz : Sl.look (some (.fz d)) = .ok d := rfl
theorem look_own : Sl.look (some (.own d)) = .ok d := rfl
theorem ev_mv : mVar i S = Sl.read S[i]? := rfl
theorem read_fz : Sl.read (some (.fz d)) = .ok ⟨false, d⟩ := rfl
theorem ev_mC : mC d S = .ok ⟨false, d⟩ := rfl
theorem ev_mN : mN f as S = Out.bind (as S) f := rfl
theorem ev_mK {o : Out R} : mK o S = o := rfl
theorem ev_m1 {l : D → Out R} : m1 l v S = Out.bind (v S) l := rfl
theorem ev_m2 : m2 g v u S = Out.b2 (v S) (u S) g := rfl
theorem b2_ok : Out.b2 (.ok d) (.ok e) g = g d e := rfl
theorem b2_no {o : Out D} : Out.b2 .no o g = .no := rfl
theorem b2_no2 : Out.b2 (.ok d) .no g = .no := rfl
theorem ev_m3 : m3 g h v u w S = Out.b3c (v S) (u S) g h w S := rfl
theorem b3c_ok : Out.b3c (.ok d) (.ok e) g h w S = Out.c3 (g d e) e h w S := rfl
theorem c3_t {o : Bool} : Out.c3 (.ok ⟨o, .bl true⟩) e h w S = Out.bind (w S) (h e) := rfl
theorem c3_f {o : Bool} : Out.c3 (.ok ⟨o, .bl false⟩) e h w S = .ok ⟨false, .bl false⟩ := rfl
theorem ev_aNil : aNil S = .ok [] := rfl
theorem ev_aCons : aCons v as S = Out.cn (v S) (as S) := rfl
theorem cn_ok : Out.cn (.ok d) (.ok ds) = .ok (d :: ds) := rfl
theorem ev_mB : mB t S = Out.bind (t S) fun b => .ok ⟨false, .bl b⟩ := rfl
theorem ev_ntV : mNotV v S = Out.ntV (v S) := rfl
theorem ntV_ok {b : Bool} : Out.ntV (.ok (.bl b)) = .ok ⟨false, .bl (!b)⟩ := rfl
theorem ev_mIf : mIf t x y S = Out.ite (t S) x y S := rfl
theorem oite_t : Out.ite (.ok true) x y S = x S := rfl
theorem oite_f : Out.ite (.ok false) x y S = y S := rfl
theorem ev_tB : tB' v S = Out.tb (v S) := rfl
theorem tb_ok {b : Bool} : Out.tb (.ok (.bl b)) = .ok b := rfl
theorem ev_tNot : tNotB t S = Out.ntB (t S) := rfl
theorem ntB_ok {b : Bool} : Out.ntB (.ok b) = .ok (!b) := rfl
theorem ev_tAnd : tAndB t p S = Out.andB (t S) p S := rfl
theorem andB_t : Out.andB (.ok true) p S = p S := rfl
theorem andB_f : Out.andB (.ok false) p S = .ok false := rfl
theorem ev_tOr : tOrB t p S = Out.orB (t S) p S := rfl
theorem orB_t : Out.orB (.ok true) p S = .ok true := rfl
theorem orB_f : Out.orB (.ok false) p S = p S := rfl
theorem ev_mMs {l : D → List D → Out R} : mMs l v as S = Out.mm (v S) (as S) l := rfl
theorem mm_s {l : D → List D → Out R} {z : List Nat} : Out.mm (.ok (.str z)) (.ok ds) l = l (.str z) ds := rfl
theorem ev_mSl {l1 l2 : MO} : mSl v l1 l2 S = Out.b3 (v S) (l1 S) (l2 S) slD := rfl
theorem b3_ok {l h : Option Int} {z : D → Option Int → Option Int → Out R} : Out.b3 (.ok d) (.ok l) (.ok h) z = z d l h := rfl
theorem ev_oN : oNone S = .ok none := rfl
theorem ev_oS : oSome v S = Out.osm (v S) := rfl
theorem osm_ok {j : Int} : Out.osm (.ok (.int j)) = .ok (some j) := rfl
theorem ev_iV : iV v S = Out.bind (v S) itemsD := rfl
theorem ev_iR {l : List D → Out (List D)} : iR l as S = Out.bind (as S) l := rfl
theorem it_l : itemsD (.lst ds) = .ok ds := rfl
theorem it_t : itemsD (.tup ds) = .ok ds := rfl
theorem it_r {ns : List Int} : itemsD (.scr ns) = .ok (ns.map .int) := rfl
theorem it_s {z : List Nat} : itemsD (.str z) = .ok (z.map fun c => .str [c]) := rfl
theorem ev_mLc : mLc vs tg as t v S = Out.lc (as S) vs tg t v S := rfl
theorem lc_ok : Out.lc (.ok ds) vs tg t v S = Out.lcF (lcL tg t v (wipeS S vs) ds) := rfl
theorem lcF_ok : Out.lcF (.ok ds) = lstD ds := rfl
theorem ev_gN : gN i d S = some (S.set i (.fz d)) := rfl
theorem ev_gT {l : List D → Ss → Option Ss} : gT l (.tup ds) S = l ds S := rfl
theorem ev_gs0 : gsNil [] S = some S := rfl
theorem ev_gsC {l : List D → Ss → Option Ss} : gsCons tg l (d :: ds) S = (tg d S).bind (l ds) := rfl
theorem obind_s {α β : Type} {z : α} {l : α → Option β} : Option.bind (some z) l = l z := rfl
theorem ev_w0 : wipeS S [] = S := rfl
theorem ev_wc : wipeS S (i :: is) = (wipeS S is).set i .no := rfl
theorem ev_in0 : inS 0 [] = [] := rfl
theorem d_add {i j : Int} : addD (.int i) (.int j) = .ok ⟨false, .int (i + j)⟩ := rfl
theorem d_sub {i j : Int} : subD (.int i) (.int j) = .ok ⟨false, .int (i - j)⟩ := rfl
theorem d_adds {x y : List Nat} : addD (.str x) (.str y) = if x.length + y.length ≤ 16000000 then .ok ⟨false, .str (x ++ y)⟩ else .no := rfl
theorem d_addl {x y : List D} : addD (.lst x) (.lst y) = if x.length + y.length ≤ 16000000 then .ok ⟨true, .lst (x ++ y)⟩ else .no := rfl
theorem d_addt {x y : List D} : addD (.tup x) (.tup y) = if x.length + y.length ≤ 16000000 then .ok ⟨false, .tup (x ++ y)⟩ else .no := rfl
theorem d_neg {i : Int} : negD (.int i) = .ok ⟨false, .int (-i)⟩ := rfl
theorem d_lt {i j : Int} : ltD (.int i) (.int j) = .ok ⟨false, .bl (decide (i < j))⟩ := rfl
theorem d_le {i j : Int} : leD (.int i) (.int j) = .ok ⟨false, .bl (decide (i ≤ j))⟩ := rfl
theorem d_gt {i j : Int} : gtD (.int i) (.int j) = .ok ⟨false, .bl (decide (j < i))⟩ := rfl
theorem d_ge {i j : Int} : geD (.int i) (.int j) = .ok ⟨false, .bl (decide (j ≤ i))⟩ := rfl
theorem d_isn {neg : Bool} : isD neg d .non = .ok ⟨false, .bl (xor neg (isNon d))⟩ := rfl
theorem d_isb {neg a b : Bool} : isD neg (.bl a) (.bl b) = .ok ⟨false, .bl (xor neg (decide (a = b)))⟩ := rfl
theorem n_non : isNon .non = true := rfl
theorem n_int {z : Int} : isNon (.int z) = false := rfl
theorem n_str {z : List Nat} : isNon (.str z) = false := rfl
theorem n_bl {z : Bool} : isNon (.bl z) = false := rfl
theorem n_tup {z : List D} : isNon (.tup z) = false := rfl
theorem n_lst {z : List D} : isNon (.lst z) = false := rfl
theorem d_lenl : lenD [.lst ds] = .ok ⟨false, .int ds.length⟩ := rfl
theorem d_lent : lenD [.tup ds] = .ok ⟨false, .int ds.length⟩ := rfl
theorem d_lenr {ns : List Int} : lenD [.scr ns] = .ok ⟨false, .int ns.length⟩ := rfl
theorem d_lens {z : List Nat} : lenD [.str z] = if z.length ≤ 16000000 then .ok ⟨false, .int z.length⟩ else .no := rfl
theorem d_int {i : Int} : intD [.int i] = .ok ⟨false, .int i⟩ := rfl
theorem d_intb {b : Bool} : intD [.bl b] = .ok ⟨false, .int (if b then 1 else 0)⟩ := rfl
theorem d_min {i j : Int} : minD [.int i, .int j] = .ok ⟨false, .int (if j < i then j else i)⟩ := rfl
theorem d_max {i j : Int} : maxD [.int i, .int j] = .ok ⟨false, .int (if j > i then j else i)⟩ := rfl
theorem d_tupl : tupleD [.lst ds] = .ok ⟨false, .tup ds⟩ := rfl
theorem d_tupt : tupleD [.tup ds] = .ok ⟨false, .tup ds⟩ := rfl
theorem d_listl : listD [.lst ds] = .ok ⟨true, .lst ds⟩ := rfl
theorem d_listt : listD [.tup ds] = .ok ⟨true, .lst ds⟩ := rfl
theorem d_tupD : tupD ds = if ds.length ≤ 16000000 then .ok ⟨false, .tup ds⟩ else .no := rfl
theorem d_lstD : lstD ds = if ds.length ≤ 16000000 then .ok ⟨true, .lst ds⟩ else .no := rfl
theorem d_ixl {j : Int} : ixD (.lst ds) (.int j) = optO (atI ds j) fzO := rfl
theorem d_ixt {j : Int} : ixD (.tup ds) (.int j) = optO (atI ds j) fzO := rfl
theorem d_ixr {ns : List Int} {j : Int} : ixD (.scr ns) (.int j) = optO (atI ns j) fun n => fzO (.int n) := rfl
theorem d_ixs {z : List Nat} {j : Int} : ixD (.str z) (.int j) = if z.length ≤ 16000000 then optO (atI z j) fun c => fzO (.str [c]) else .no := rfl
theorem d_sll {lo hi : Option Int} : slD (.lst ds) lo hi = .ok ⟨true, .lst (cutL ds lo hi)⟩ := rfl
theorem d_slt {lo hi : Option Int} : slD (.tup ds) lo hi = .ok ⟨false, .tup (cutL ds lo hi)⟩ := rfl
theorem d_sls {z : List Nat} {lo hi : Option Int} : slD (.str z) lo hi = if z.length ≤ 16000000 then .ok ⟨false, .str (cutL z lo hi)⟩ else .no := rfl
theorem d_rng1 {n : Int} : rng1 [.int n] = if n.toNat ≤ 1000000000 ∧ (-n).toNat ≤ 1000000000 then .ok (rangeL 0 n.toNat) else .no := rfl
theorem d_rng2 {n m : Int} : rng2 [.int n, .int m] = if n.toNat ≤ 1000000000 ∧ (-n).toNat ≤ 1000000000 ∧ m.toNat ≤ 1000000000 ∧ (-m).toNat ≤ 1000000000 then .ok (rangeL n (m - n).toNat) else .no := rfl
theorem nr_0 : noRow [] = true := rfl
theorem nr_n : noRow (.no :: S) = noRow S := rfl
theorem nr_f : noRow (.fz d :: S) = noRow S := rfl
theorem nr_o : noRow (.own d :: S) = noRow S := rfl
theorem nr_r {dss : List (List D)} : noRow (.row dss :: S) = false := rfl
theorem ls_0 : lightS [] = true := rfl
theorem ls_n : lightS (.no :: S) = lightS S := rfl
theorem ls_f : lightS (.fz d :: S) = lightS S := rfl
theorem ls_o : lightS (.own d :: S) = false := rfl
theorem ls_r {dss : List (List D)} : lightS (.row dss :: S) = false := rfl
theorem frz_row {dss : List (List D)} : Sl.frz (some (.row dss)) S i = S.set i (.fz (.lst (dss.map .lst))) := rfl
theorem ev_rw : rwS i as S = SOut.rw (as S) S i := rfl
theorem rw_ok : SOut.rw (.ok ds) S i = if ds.length ≤ 16000000 ∧ lightS S = true then .nx (S.set i (.row (ds.map fun _ => []))) else .no := rfl
theorem ev_ra : rwA i v u S = SOut.ra S[i]? (v S) u S i := rfl
theorem ra_ok {dss : List (List D)} {j : Int} : SOut.ra (some (.row dss)) (.ok (.int j)) v S i = SOut.ra2 dss (ixN dss.length j) v S i := rfl
theorem ev_si : siS i v u S = SOut.si S[i]? (v S) (u S) S i := rfl
theorem si_ok {j : Int} : SOut.si (some (.own (.lst ds))) (.ok (.int j)) (.ok d) S i = SOut.si2 ds (ixN ds.length j) d S i := rfl
theorem si2_ok {j : Nat} : SOut.si2 ds (some j) d S i = .nx (S.set i (.own (.lst (ds.set j d)))) := rfl
theorem ev_po {j : Nat} : poS i j S = SOut.po S[j]? S i j := rfl
theorem ev_pp {j : Nat} : apPopS i j v S = SOut.pp S[i]? S[j]? (v S) S i j := rfl
theorem pp_ok {j : Nat} {n : Int} : SOut.pp (some (.own (.lst ds))) (some (.own (.lst es))) (.ok (.int n)) S i j = SOut.pp2 ds es n (ixN es.length n) S i j := rfl
theorem ev_fs {f : Str} : fldS i c f v S = SOut.fs S[i]? (v S) S i c f := rfl
theorem fs_ok {f : Str} : SOut.fs (some (.own (.obj c fs))) (.ok d) S i c f = if fs.length < 1000 then .nx (S.set i (.own (.obj c (putD f d fs)))) else .no := by simp [SOut.fs, ofOut]
theorem ev_fld {cs : List Str} {f : Str} : mFld cs f v S = Out.bind (v S) (fldD cs f) := rfl
theorem ev_mq {l : D → List D → Out R} : mMq l v as S = Out.mq (v S) (as S) l := rfl
theorem mq_l {l : D → List D → Out R} : Out.mq (.ok (.lst es)) (.ok ds) l = l (.lst es) ds := rfl
theorem mq_t {l : D → List D → Out R} : Out.mq (.ok (.tup es)) (.ok ds) l = l (.tup es) ds := rfl
theorem ev_av : mAndV v m S = Out.av (v S) m S := rfl
theorem av_t : Out.av (.ok (.bl true)) m S = m S := rfl
theorem av_f : Out.av (.ok (.bl false)) m S = .ok ⟨false, .bl false⟩ := rfl
theorem ev_ov : mOrV v m S = Out.ov (v S) m S := rfl
theorem ov_t : Out.ov (.ok (.bl true)) m S = .ok ⟨false, .bl true⟩ := rfl
theorem ov_f : Out.ov (.ok (.bl false)) m S = m S := rfl
theorem d_new {l : List D → Out (List (Str × D))} : newD c l es ds = Out.bind (l (ds ++ es)) fun fs => .ok ⟨true, .obj c fs⟩ := rfl
theorem d_idxl : idxD (.lst ds) [e] = idxL (D.lst ds).cmpOk ds e := rfl
theorem d_idxt : idxD (.tup ds) [e] = idxL (D.tup ds).cmpOk ds e := rfl
theorem d_sorl : sortedD [.lst ds] = optO (intsOf ds) fun ns => .ok ⟨true, .lst ((sortI ns).map .int)⟩ := rfl
theorem d_sort : sortedD [.tup ds] = optO (intsOf ds) fun ns => .ok ⟨true, .lst ((sortI ns).map .int)⟩ := rfl
theorem d_tr1 {n : Int} : tupRng1 [.int n] = if n.toNat ≤ 16000000 ∧ (-n).toNat ≤ 1000000000 then .ok ⟨false, .tup (rangeL 0 n.toNat)⟩ else .no := rfl
theorem d_lr1 {n : Int} : lstRng1 [.int n] = if n.toNat ≤ 16000000 ∧ (-n).toNat ≤ 1000000000 then .ok ⟨true, .lst (rangeL 0 n.toNat)⟩ else .no := rfl
theorem q_int_non  : isiD "int" [.non] = .ok ⟨false, .bl false⟩ := rfl
theorem q_int_bl {z : Bool} : isiD "int" [.bl z] = .ok ⟨false, .bl true⟩ := rfl
theorem q_int_int {z : Int} : isiD "int" [.int z] = .ok ⟨false, .bl true⟩ := rfl
theorem q_int_str {z : List Nat} : isiD "int" [.str z] = .ok ⟨false, .bl false⟩ := rfl
theorem q_int_tup {z : List D} : isiD "int" [.tup z] = .ok ⟨false, .bl false⟩ := rfl
theorem q_int_lst {z : List D} : isiD "int" [.lst z] = .ok ⟨false, .bl false⟩ := rfl
theorem q_bool_non  : isiD "bool" [.non] = .ok ⟨false, .bl false⟩ := rfl
theorem q_bool_bl {z : Bool} : isiD "bool" [.bl z] = .ok ⟨false, .bl true⟩ := rfl
theorem q_bool_int {z : Int} : isiD "bool" [.int z] = .ok ⟨false, .bl false⟩ := rfl
theorem q_bool_str {z : List Nat} : isiD "bool" [.str z] = .ok ⟨false, .bl false⟩ := rfl
theorem q_bool_tup {z : List D} : isiD "bool" [.tup z] = .ok ⟨false, .bl false⟩ := rfl
theorem q_bool_lst {z : List D} : isiD "bool" [.lst z] = .ok ⟨false, .bl false⟩ := rfl
theorem q_str_non  : isiD "str" [.non] = .ok ⟨false, .bl false⟩ := rfl
theorem q_str_bl {z : Bool} : isiD "str" [.bl z] = .ok ⟨false, .bl false⟩ := rfl
theorem q_str_int {z : Int} : isiD "str" [.int z] = .ok ⟨false, .bl false⟩ := rfl
theorem q_str_str {z : List Nat} : isiD "str" [.str z] = .ok ⟨false, .bl true⟩ := rfl
theorem q_str_tup {z : List D} : isiD "str" [.tup z] = .ok ⟨false, .bl false⟩ := rfl
theorem q_str_lst {z : List D} : isiD "str" [.lst z] = .ok ⟨false, .bl false⟩ := rfl
theorem q_tuple_non  : isiD "tuple" [.non] = .ok ⟨false, .bl false⟩ := rfl
theorem q_tuple_bl {z : Bool} : isiD "tuple" [.bl z] = .ok ⟨false, .bl false⟩ := rfl
theorem q_tuple_int {z : Int} : isiD "tuple" [.int z] = .ok ⟨false, .bl false⟩ := rfl
theorem q_tuple_str {z : List Nat} : isiD "tuple" [.str z] = .ok ⟨false, .bl false⟩ := rfl
theorem q_tuple_tup {z : List D} : isiD "tuple" [.tup z] = .ok ⟨false, .bl true⟩ := rfl
theorem q_tuple_lst {z : List D} : isiD "tuple" [.lst z] = .ok ⟨false, .bl false⟩ := rfl
theorem q_list_non  : isiD "list" [.non] = .ok ⟨false, .bl false⟩ := rfl
theorem q_list_bl {z : Bool} : isiD "list" [.bl z] = .ok ⟨false, .bl false⟩ := rfl
theorem q_list_int {z : Int} : isiD "list" [.int z] = .ok ⟨false, .bl false⟩ := rfl
theorem q_list_str {z : List Nat} : isiD "list" [.str z] = .ok ⟨false, .bl false⟩ := rfl
theorem q_list_tup {z : List D} : isiD "list" [.tup z] = .ok ⟨false, .bl false⟩ := rfl
theorem q_list_lst {z : List D} : isiD "list" [.lst z] = .ok ⟨false, .bl true⟩ := rfl
end
end VM

/-! comprehensions as a whole -/
namespace VM
open PySem L2
theorem wp_rt_lc {tg : D → Ss → Option Ss} {te : MV} {S0 S : Ss} {ds : List D} {k : Kk} (P : D → Prop) (hl : ds.length ≤ 16000000) (h : ∀ d ∈ ds, GivesD (Out.te (tg d S0) te) P) (hk : ∀ ys : List D, ys.length = ds.length → (∀ y ∈ ys, P y) → k.rt ⟨true, .lst ys⟩) : Wp (SOut.rt (Out.lcF (lcL tg mYes te S0 ds)) S) k := by
  obtain ⟨k1, k2⟩ := lcL_gen P h
  rw [k1, lcF_ok, d_lstD, if_pos (by rw [List.length_map]; exact hl), rt_ok]
  exact ⟨hk _ (List.length_map _) k2⟩
theorem wp_st_lc {tg : D → Ss → Option Ss} {te : MV} {S0 S : Ss} {i : Nat} {ds : List D} {k : Kk} (P : D → Prop) (hl : ds.length ≤ 16000000) (hr : noRow S = true) (h : ∀ d ∈ ds, GivesD (Out.te (tg d S0) te) P) (hk : ∀ ys : List D, ys.length = ds.length → (∀ y ∈ ys, P y) → k.nx (S.set i (.own (.lst ys)))) : Wp (SOut.st (Out.lcF (lcL tg mYes te S0 ds)) S i) k := by
  obtain ⟨k1, k2⟩ := lcL_gen P h
  rw [k1, lcF_ok, d_lstD, if_pos (by rw [List.length_map]; exact hl), st_okt, if_pos hr]
  exact ⟨hk _ (List.length_map _) k2⟩
end VM

/-! dicts whose keys are tuples, over the tuples as they are tracked here -/
namespace VM
open PySem PySem.Spec PyProof.Rows L2
mutual
/-- what a tracked value is as a key -/
inductive NkV (K : PySem.W.Frag) (H : Hp) : NestedKey → V → Prop
  | non : NkV K H .none .non
  | bl {b : Bool} {i : Int} : i = (if b = true then 1 else 0) → NkV K H (.num i) (.bl b)
  | int (i : Int) : NkV K H (.num i) (.int i)
  | str (x : Str) : NkV K H (.text x) (.str x)
  | tup {a : Addr} {vs : List V} {ks : List NestedKey} : SqT K H a vs → NkAll K H ks vs → NkV K H (.tup ks) (.ref a)
inductive NkAll (K : PySem.W.Frag) (H : Hp) : List NestedKey → List V → Prop
  | nil : NkAll K H [] []
  | cons {k : NestedKey} {v : V} {ks : List NestedKey} {vs : List V} : NkV K H k v → NkAll K H ks vs → NkAll K H (k :: ks) (v :: vs)
end
section
variable {X : Cx} {pins : List (Addr × Obj)} {σ : L2.St} {H : Hp} {s : Shared}
mutual
theorem nk_is (I : Inv X pins σ H s) : ∀ {k : NestedKey} {v : V} {u : Value}, NkV X.K H k v → RelV v u → NestedIs s.heap k u
  | _, _, _, .non, r => by
    cases r
    exact .none
  | _, _, _, .bl e, r => by
    cases r
    exact .bool e
  | _, _, _, .int i, r => by
    obtain ⟨t, rfl⟩ := r
    exact .int i t
  | _, _, _, .str x, r => by
    obtain ⟨t, rfl⟩ := r
    exact .text x t
  | _, _, _, .tup h l, r => by
    cases r
    obtain ⟨its, rv, ⟨o, ho, hc, n, hd⟩, _⟩ := I.tuple h
    exact .tup ho hc hd (by simpa using nkAll_is I l rv)
theorem nkAll_is (I : Inv X pins σ H s) : ∀ {ks : List NestedKey} {vs : List V} {us : List Value}, NkAll X.K H ks vs → Vals vs us → NestedAll s.heap ks us
  | _, _, _, .nil, .nil => .nil
  | _, _, _, .cons h t, .cons r rs => .cons (nk_is I h r) (nkAll_is I t rs)
end
end
/-- its keys as they are tracked -/
def DicK (K : PySem.W.Frag) (H : Hp) (xs : List (NestedKey × Addr × V)) : Prop := ∀ x ∈ xs, NkV K H x.1 (.ref x.2.1) ∧ x.1.depth ≤ 8
section
variable {X : Cx} {pins : List (Addr × Obj)} {σ : L2.St} {H : Hp} {s : Shared}
theorem paired_mem {α β : Type} {R : α → β → Prop} : ∀ {xs : List α} {us : List β}, Paired R xs us → ∀ u ∈ us, ∃ x ∈ xs, R x u
  | _, _, .cons r t, u, hu => by
    rcases List.mem_cons.mp hu with rfl | hu
    · exact ⟨_, List.mem_cons_self, r⟩
    · obtain ⟨x, h1, h2⟩ := paired_mem t u hu
      exact ⟨x, List.mem_cons_of_mem _ h1, h2⟩
  | _, _, .nil, u, hu => nomatch hu
theorem dic_of (I : Inv X pins σ H s) {a : Addr} {xs : List (NestedKey × Addr × V)} (e : H a = some (DicO X.prog X.w a xs)) (k : DicK X.K H xs) : (a == sysModules) = false ∧ xs.length ≤ sizeLine ∧ ∃ us : List (NestedKey × Addr × Value), Paired (fun x u => x.1 = u.1 ∧ x.2.1 = u.2.1 ∧ RelV x.2.2 u.2.2) xs us ∧ s.heap.DictOfH (nestedKind X.prog X.w) a us := by
  obtain ⟨⟨h1, h2, us, h3, o, es, ep, h4, h5, h6, h7, h8⟩, _, _⟩ := (show ObjOk X.prog X.w H s.heap a (DicO X.prog X.w a xs) from I.hok a _ e)
  refine ⟨h1, h2, us, h3, o, es, ep, h4, h5, h6, h7, fun u hu => ?_, h8⟩
  obtain ⟨x, hx, e1, e2, _⟩ := paired_mem h3 u hu
  obtain ⟨k1, k2⟩ := k x hx
  rw [e1, e2] at k1
  rw [e1] at k2
  exact ⟨nk_is I k1 rfl, k2⟩
def atX (xs : List (NestedKey × Addr × V)) (k : NestedKey) : Option (Addr × V) := (xs.find? fun x => decide (x.1 = k)).map (·.2)
def stX (xs : List (NestedKey × Addr × V)) (k : NestedKey) (b : Addr) (v : V) : List (NestedKey × Addr × V) :=
  if (atX xs k).isSome then xs.map (fun x => if x.1 = k then (x.1, x.2.1, v) else x) else xs ++ [(k, b, v)]
abbrev RX : (NestedKey × Addr × V) → (NestedKey × Addr × Value) → Prop := fun x u => x.1 = u.1 ∧ x.2.1 = u.2.1 ∧ RelV x.2.2 u.2.2
theorem at_rel (k : NestedKey) : ∀ {xs : List (NestedKey × Addr × V)} {us : List (NestedKey × Addr × Value)}, Paired RX xs us → (atX xs k = none ∧ atKey us k = none) ∨ ∃ b v u, atX xs k = some (b, v) ∧ atKey us k = some (b, u) ∧ RelV v u
  | _, _, .nil => .inl ⟨rfl, rfl⟩
  | x :: xs, u :: us, .cons r t => by
    obtain ⟨e1, e2, e3⟩ := r
    by_cases h : x.1 = k
    · refine .inr ⟨x.2.1, x.2.2, u.2.2, ?_, ?_, e3⟩
      · unfold atX
        rw [List.find?_cons, decide_eq_true h]
        rfl
      · unfold atKey
        rw [List.find?_cons, decide_eq_true (show u.1 = k by rw [← e1]; exact h), e2]
        rfl
    · have h' : ¬ u.1 = k := by rw [← e1]; exact h
      have a1 : atX (x :: xs) k = atX xs k := by
        unfold atX
        rw [List.find?_cons, decide_eq_false h]
      have a2 : atKey (u :: us) k = atKey us k := by
        unfold atKey
        rw [List.find?_cons, decide_eq_false h']
      rw [a1, a2]
      exact at_rel k t
theorem paired_snoc {α β : Type} {R : α → β → Prop} {x : α} {u : β} (r : R x u) : ∀ {xs : List α} {us : List β}, Paired R xs us → Paired R (xs ++ [x]) (us ++ [u])
  | _, _, .nil => .cons r .nil
  | _, _, .cons q t => .cons q (paired_snoc r t)
theorem paired_len {α β : Type} {R : α → β → Prop} : ∀ {xs : List α} {us : List β}, Paired R xs us → xs.length = us.length
  | _, _, .nil => rfl
  | _, _, .cons _ t => congrArg Nat.succ (paired_len t)
theorem st_rel (k : NestedKey) (b : Addr) {v : V} {u : Value} (r : RelV v u) {xs : List (NestedKey × Addr × V)} {us : List (NestedKey × Addr × Value)} (p : Paired RX xs us) : Paired RX (stX xs k b v) (storedH us k b u) := by
  have mp : ∀ {xs : List (NestedKey × Addr × V)} {us : List (NestedKey × Addr × Value)}, Paired RX xs us → Paired RX (xs.map fun x => if x.1 = k then (x.1, x.2.1, v) else x) (us.map (putAt k u)) := fun {xs us} p => by
    induction p with
    | nil => exact .nil
    | cons q t ih =>
      rename_i x y xs us
      obtain ⟨e1, e2, e3⟩ := q
      refine .cons ?_ ih
      show RX (if x.1 = k then (x.1, x.2.1, v) else x) (putAt k u y)
      unfold putAt
      by_cases h : x.1 = k
      · rw [if_pos h, if_pos (show y.1 = k by rw [← e1]; exact h)]
        exact ⟨e1, e2, r⟩
      · rw [if_neg h, if_neg (show ¬ y.1 = k by rw [← e1]; exact h)]
        exact ⟨e1, e2, e3⟩
  unfold stX storedH
  rcases at_rel k p with ⟨h1, h2⟩ | ⟨b', v', u', h1, h2, _⟩
  · rw [h1, h2]
    exact paired_snoc ⟨rfl, rfl, r⟩ p
  · rw [h1, h2]
    exact mp p
theorem dic_new {P : Program} {w : World} {h : Heap} {a : Addr} {H : Hp} {xs : List (NestedKey × Addr × V)} {us : List (NestedKey × Addr × Value)} (ha : (a == sysModules) = false) (hl : xs.length ≤ sizeLine) (p : Paired RX xs us) (hm : h.DictOfH (nestedKind P w) a us) : ObjOk P w H h a (DicO P w a xs) := by
  obtain ⟨o, es, ep, h4, h5, h6, h7, _, h8⟩ := hm
  refine ⟨⟨ha, hl, us, p, o, es, ep, h4, h5, h6, h7, h8⟩, ⟨o, h4⟩, ?_⟩
  rintro h1 h2 ⟨q1, q2, vs, q3, o', es', ep', q4, q5⟩ k
  exact ⟨q1, q2, vs, q3, o', es', ep', k o' q4, q5⟩
/-- {} -/
def tDNewX (P : Program) (w : World) : TE := fun _ H Q => ∀ p, H p = none → Q (.ref p) (upd H p (DicO P w p []))
theorem pe_dnewX {X : Cx} {pos : Pos} : PE X (.Dict [] [] pos) (tDNewX X.prog X.w) := ⟨fun pins s σ H Q I h =>
  wpAny_Dict_empty ⟨.ref s.heap.objs.size, _, I.laid (a := s.heap.objs.size) (o := DicO X.prog X.w s.heap.objs.size []) (t' := s.toks) (fun _ _ q => Heap.get?_push_of_some _ q) (Nat.le_refl _) (dic_new (us := []) (beq_eq_false_iff_ne.mpr (Ne.symm (Nat.ne_of_lt I.big))) (Nat.zero_le _) .nil (Heap.DictOfH.new _)), rfl, h _ (I.hok.fresh (Nat.le_refl _))⟩⟩
/-! the operations -/
section
variable {X : Cx}
/-- a dict and a key -/
def DkAt (X : Cx) (x y : V) (H : Hp) (a : Addr) (xs : List (NestedKey × Addr × V)) (k : NestedKey) (b : Addr) : Prop := x = .ref a ∧ y = .ref b ∧ H a = some (DicO X.prog X.w a xs) ∧ DicK X.K H xs ∧ NkV X.K H k (.ref b) ∧ k.depth ≤ 8
theorem op_inX (hu : X.A.units + 65 < cLine) : OpR X (compareOp .In) (fun y x H Q => ∃ a xs k b, DkAt X x y H a xs k b ∧ Q (.bl (atX xs k).isSome) H) := by
  rintro pins s σ H y x u v Q I ry rx ⟨a, xs, k, b, ⟨rfl, rfl, ha, hk, hn, hd⟩, q⟩
  cases rx
  cases ry
  obtain ⟨h1, h2, us, h3, h4⟩ := dic_of I ha hk
  refine wpAny_in_heap (knd := nestedKind X.prog X.w) (k := k) (show X.A.in1.units + 8 < cLine by show X.A.units + 1 + 8 < cLine; omega) ⟨nk_is I hn rfl, hd⟩ h1 h4 ?_
  refine ⟨.bl (atX xs k).isSome, H, I.tok _, ?_, q⟩
  rcases at_rel k h3 with ⟨e1, e2⟩ | ⟨_, _, _, e1, e2, _⟩ <;> (rw [e1, e2]; rfl)
theorem op_notInX (hu : X.A.units + 65 < cLine) : OpR X (compareOp .NotIn) (fun y x H Q => ∃ a xs k b, DkAt X x y H a xs k b ∧ Q (.bl (!(atX xs k).isSome)) H) := by
  rintro pins s σ H y x u v Q I ry rx ⟨a, xs, k, b, ⟨rfl, rfl, ha, hk, hn, hd⟩, q⟩
  cases rx
  cases ry
  obtain ⟨h1, h2, us, h3, h4⟩ := dic_of I ha hk
  show wpAny _ _ (do return Value.bool (!(← contains (.ref a) (.ref b)))) _ _ s
  refine wpAny_bind (wpAny_contains_heap (knd := nestedKind X.prog X.w) (k := k) (show X.A.in1.units + 8 < cLine by show X.A.units + 1 + 8 < cLine; omega) ⟨nk_is I hn rfl, hd⟩ h1 h4 (wpAny_pure ?_))
  refine ⟨.bl (!(atX xs k).isSome), H, I.tok _, ?_, q⟩
  rcases at_rel k h3 with ⟨e1, e2⟩ | ⟨_, _, _, e1, e2, _⟩ <;> (rw [e1, e2]; rfl)
theorem set_dicX (hu : X.A.units + 65 < cLine) : PSet X (fun x y v H Q => ∃ a xs k b, DkAt X x y H a xs k b ∧ xs.length < sizeLine ∧ Q (upd H a (DicO X.prog X.w a (stX xs k b v)))) := by
  rintro pins s σ H x y v ov iv u Q I rx ry rv ⟨a, xs, k, b, ⟨rfl, rfl, ha, hk, hn, hd⟩, hl, q⟩
  cases rx
  cases ry
  obtain ⟨h1, h2, us, h3, h4⟩ := dic_of I ha hk
  refine wpAny_setItem_heap (knd := nestedKind X.prog X.w) (k := k) (show X.A.in1.units + 8 < cLine by show X.A.units + 1 + 8 < cLine; omega) ⟨nk_is I hn rfl, hd⟩ h4 (fun h' hm' hs => ?_) (by rw [← paired_len h3]; omega)
  have hlen : (stX xs k b v).length ≤ sizeLine := by
    unfold stX
    split
    · rw [List.length_map]
      omega
    · rw [List.length_append, List.length_singleton]
      omega
  obtain ⟨o, _, _, ho, _⟩ := id hm'
  exact ⟨_, I.write (e := a) (t' := s.toks + (nestedKind X.prog X.w).draws k) (by rw [ha]; trivial) (.inl rfl) (fun b' u' hb hu' => (hs.2 b' hb).trans hu') ⟨o, ho⟩ (dic_new h1 hlen (st_rel k b rv h3) hm'), q⟩
theorem ix_dicX (hu : X.A.units + 65 < cLine) : IxR X (fun x y H Q => ∃ a xs k b b' v, DkAt X x y H a xs k b ∧ atX xs k = some (b', v) ∧ Q v H) := by
  rintro value slice pins s σ H x y v u Q I rx ry ⟨a, xs, k, b, b', w, ⟨rfl, rfl, ha, hk, hn, hd⟩, hat, q⟩ hs
  cases rx
  cases ry
  obtain ⟨h1, h2, us, h3, h4⟩ := dic_of I ha hk
  rcases at_rel k h3 with ⟨e1, e2⟩ | ⟨b2, v2, u2, e1, e2, rv⟩
  · rw [hat] at e1
    cases e1
  · rw [hat] at e1
    cases e1
    refine subscriptTail_builtinR (x := u2) h4.typeIs PySem.F.slot_dict_getitem.lookup (wpAny_getItem_heap (knd := nestedKind X.prog X.w) (k := k) (Q := fun r s' => r = u2 ∧ EP X pins σ Q r s') (show X.A.in1.units + 8 < cLine by show X.A.units + 1 + 8 < cLine; omega) ⟨nk_is I hn rfl, hd⟩ h4 e2 ⟨rfl, ?_⟩) hs
    exact ⟨w, H, I.tok _, rv, q⟩
theorem call_len_dicX : CallR X (.builtin "len") (fun xs' H Q => ∃ a xs, xs' = [V.ref a] ∧ H a = some (DicO X.prog X.w a xs) ∧ DicK X.K H xs ∧ Q (.int ((xs.length : Nat) : Int)) H) := by
  rintro pins s σ H xs' us' Q I r ⟨a, xs, rfl, ha, hk, q⟩
  obtain ⟨u, rfl, rx⟩ := vals1 r
  obtain rfl : u = .ref a := rx
  obtain ⟨h1, h2, us, h3, h4⟩ := dic_of I ha hk
  have hl := paired_len h3
  refine call_len_dictH h1 h4 (by rw [← hl]; rw [sizeLine_eq] at h2; omega) ?_
  rw [← hl]
  exact ⟨.int ((xs.length : Nat) : Int), H, I.tok _, ⟨_, rfl⟩, q⟩
theorem call_list_dicX (hc : X.calm = true) : CallR X (.type "list") (fun xs' H Q => ∃ a xs, xs' = [V.ref a] ∧ H a = some (DicO X.prog X.w a xs) ∧ DicK X.K H xs ∧ ∀ p, H p = none → Q (.ref p) (upd H p (.lst (xs.map fun x => V.ref x.2.1)))) := by
  rintro pins s σ H xs' us' Q I r ⟨d, xs, rfl, ha, hk, q⟩
  obtain ⟨u, rfl, rx⟩ := r.one
  cases rx
  obtain ⟨hs, z, ks, pr, o, es, ep, ho, hx, hdt, he, _, hn⟩ := dic_of I ha hk
  have l1 : es.size = ks.length := size_of_entries he
  have l2 : xs.length = ks.length := paired_len pr
  refine PySem.W.kdl_call (kdl_raw hs hx hdt) (I.ok.hd hc) ho (by omega) fun h' tk acc' c' kp e it => ?_
  have ea : acc'.toList = ks.map fun x => Value.ref x.2.1 := by
    have hl : acc'.toList.length = ks.length := by rw [Array.length_toList, it.1]; exact l1
    apply List.ext_getElem?
    intro j
    rw [List.getElem?_map]
    cases hj : acc'.toList[j]? with
    | none =>
      have h1 := List.getElem?_eq_none_iff.mp hj
      rw [List.getElem?_eq_none (by omega)]
      all_goals rfl
    | some v =>
      obtain ⟨en, hen, hv⟩ := it.2 j v (by rw [← Array.getElem?_toList]; exact hj)
      have qe := entry_at he j
      rw [hen] at qe
      cases hb : ks[j]? with
      | none =>
        rw [hb] at qe
        exact nomatch (show some en = none from qe)
      | some b =>
        rw [hb] at qe
        have e2 : en = entryOfKey (nestedKind X.prog X.w) b := Option.some.inj qe
        rw [hv, e2]
        all_goals rfl
  have same : ∀ {xs : List (NestedKey × Addr × V)} {us : List (NestedKey × Addr × Value)}, Paired RX xs us → (xs.map fun x => x.2.1) = us.map fun x => x.2.1 := fun {xs us} p => by
    induction p with
    | nil => rfl
    | cons r t ih =>
      rw [List.map_cons, List.map_cons, ih, r.2.1]
  have eb : acc'.toList = (xs.map fun x => x.2.1).map Value.ref := by rw [ea, same pr, List.map_map]; all_goals rfl
  have rv : Vals ((xs.map fun x => x.2.1).map V.ref) acc'.toList := by rw [eb]; exact vals_refs _
  have em : (xs.map fun x => V.ref x.2.1) = (xs.map fun x => x.2.1).map V.ref := by rw [List.map_map]; rfl
  have hz : ((xs.map fun x => x.2.1).map V.ref).length ≤ sizeLine := by rw [List.length_map, List.length_map]; omega
  have qq := q s.heap.objs.size (I.hok.fresh (Nat.le_refl _))
  rw [em] at qq
  refine ⟨.ref s.heap.objs.size, _, I.laid (t' := tk) (o := .lst ((xs.map fun x => x.2.1).map V.ref)) kp (Nat.le_refl _) ?_, rfl, qq⟩
  exact ⟨hz, acc'.toList, c', rv, by rw [Array.toArray_toList]; exact e⟩
end
end
/-! ### over the readings -/
mutual
theorem Rep.nkv {K : Kp} {F : Hp} : ∀ {v : V} {d : D} {k : NestedKey}, Rep K F v d → D.nk d = some k → NkV K F k v
  | _, _, _, .non, e => by
    rw [D.nk] at e
    cases e
    exact .non
  | _, _, _, .bl b, e => by
    rw [D.nk] at e
    cases e
    exact .bl rfl
  | _, _, _, .int i, e => by
    rw [D.nk] at e
    cases e
    exact .int i
  | _, _, _, .str x h, e => by
    rw [D.nk] at e
    cases e
    exact .str _
  | _, _, _, .tup (ds := ds) h l, e => by
    rw [D.nk] at e
    cases hk : D.nkAll ds with
    | none =>
      rw [hk] at e
      cases e
    | some ks =>
      rw [hk] at e
      cases e
      exact .tup h.t (RepL.nkv l hk)
  | _, _, _, .lst _ _, e => by
    rw [D.nk] at e
    all_goals first | cases e | (intros; contradiction)
  | _, _, _, .scr _, e => by
    rw [D.nk] at e
    all_goals first | cases e | (intros; contradiction)
  | _, _, _, .obj _ _, e => by
    rw [D.nk] at e
    all_goals first | cases e | (intros; contradiction)
  | _, _, _, .xob _ _ _ _ _, e => by
    rw [D.nk] at e
    all_goals first | cases e | (intros; contradiction)
  | _, _, _, .xo0 _ _, e => by
    rw [D.nk] at e
    all_goals first | cases e | (intros; contradiction)
  | _, _, _, .dic _ _, e => by
    rw [D.nk] at e
    all_goals first | cases e | (intros; contradiction)
  | _, _, _, .dki _ _, e => by
    rw [D.nk] at e
    all_goals first | cases e | (intros; contradiction)
theorem RepL.nkv {K : Kp} {F : Hp} : ∀ {vs : List V} {ds : List D} {ks : List NestedKey}, RepL K F vs ds → D.nkAll ds = some ks → NkAll K F ks vs
  | _, _, _, .nil, e => by
    rw [D.nkAll] at e
    cases e
    exact .nil
  | _, _, _, .cons (d := d) (ds := ds) h t, e => by
    rw [D.nkAll] at e
    cases h1 : D.nk d with
    | none =>
      rw [h1] at e
      cases e
    | some k =>
      rw [h1] at e
      cases h2 : D.nkAll ds with
      | none =>
        rw [h2] at e
        cases e
      | some ks =>
        rw [h2] at e
        cases e
        exact .cons (Rep.nkv h h1) (RepL.nkv t h2)
end
section
variable {K : Kp} {F H : Hp}
def dGet (k : NestedKey) : List (D × D) → Option D
  | [] => none
  | (kd, d) :: r => if D.nk kd = some k then some d else dGet k r
def dPut (k : NestedKey) (d : D) (kvs : List (D × D)) : List (D × D) := kvs.map fun p => if D.nk p.1 = some k then (p.1, d) else p
def dSet (k : NestedKey) (kd d : D) (kvs : List (D × D)) : List (D × D) := if (dGet k kvs).isSome then dPut k d kvs else kvs ++ [(kd, d)]
theorem RepD.len : ∀ {xs : List (NestedKey × Addr × V)} {kvs : List (D × D)}, RepD K F xs kvs → xs.length = kvs.length
  | _, _, .nil => rfl
  | _, _, .cons _ _ _ _ t => congrArg Nat.succ t.len
theorem RepD.dicK (g : Gr F H) : ∀ {xs : List (NestedKey × Addr × V)} {kvs : List (D × D)}, RepD K F xs kvs → DicK K H xs
  | _, _, .nil => fun _ h => nomatch h
  | _, _, .cons h1 h2 h3 _ t => fun x hx => by
    rcases List.mem_cons.mp hx with rfl | hx
    · exact ⟨(h3.mono g).nkv h1, h2⟩
    · exact t.dicK g x hx
theorem RepD.keys : ∀ {xs : List (NestedKey × Addr × V)} {kvs : List (D × D)}, RepD K F xs kvs → RepL K F (xs.map fun x => V.ref x.2.1) (kvs.map Prod.fst)
  | _, _, .nil => .nil
  | _, _, .cons _ _ h _ t => .cons h t.keys
theorem RepD.look (k : NestedKey) : ∀ {xs : List (NestedKey × Addr × V)} {kvs : List (D × D)}, RepD K F xs kvs → (atX xs k = none ∧ dGet k kvs = none) ∨ ∃ b v d, atX xs k = some (b, v) ∧ dGet k kvs = some d ∧ Rep K F v d
  | _, _, .nil => .inl ⟨rfl, rfl⟩
  | _, _, .cons (k := k0) (b := b) (v := v) (xs := xs) (kd := kd) (d := d) (kvs := kvs) h1 h2 h3 h4 t => by
    unfold atX
    rw [dGet, h1]
    by_cases hk : k0 = k
    · rw [List.find?_cons, decide_eq_true hk, if_pos (congrArg some hk)]
      exact .inr ⟨b, v, d, rfl, rfl, h4⟩
    · rw [List.find?_cons, decide_eq_false hk, if_neg fun z => hk (Option.some.inj z)]
      exact RepD.look k t
theorem RepD.snoc {k : NestedKey} {b : Addr} {v : V} {kd d : D} (h1 : D.nk kd = some k) (h2 : k.depth ≤ 8) (h3 : Rep K F (.ref b) kd) (h4 : Rep K F v d) : ∀ {xs : List (NestedKey × Addr × V)} {kvs : List (D × D)}, RepD K F xs kvs → RepD K F (xs ++ [(k, b, v)]) (kvs ++ [(kd, d)])
  | _, _, .nil => .cons h1 h2 h3 h4 .nil
  | _, _, .cons a b c e t => .cons a b c e (t.snoc h1 h2 h3 h4)
theorem RepD.put {k : NestedKey} {v : V} {d : D} (h4 : Rep K F v d) : ∀ {xs : List (NestedKey × Addr × V)} {kvs : List (D × D)}, RepD K F xs kvs → RepD K F (xs.map fun x => if x.1 = k then (x.1, x.2.1, v) else x) (dPut k d kvs)
  | _, _, .nil => .nil
  | _, _, .cons (k := k0) (kd := kd) (kvs := kvs) a b c e t => by
    have ih := RepD.put (k := k) h4 t
    unfold dPut at ih ⊢
    rw [List.map_cons, List.map_cons]
    by_cases hk : k0 = k
    · have h2 : D.nk kd = some k := by rw [a, hk]
      simp only [if_pos hk, if_pos h2]
      exact .cons a b c h4 ih
    · have h2 : ¬ D.nk kd = some k := fun z => hk (Option.some.inj (a.symm.trans z))
      simp only [if_neg hk, if_neg h2]
      exact .cons a b c e ih
theorem RepD.st {k : NestedKey} {b : Addr} {v : V} {kd d : D} (h1 : D.nk kd = some k) (h2 : k.depth ≤ 8) (h3 : Rep K F (.ref b) kd) (h4 : Rep K F v d) {xs : List (NestedKey × Addr × V)} {kvs : List (D × D)} (r : RepD K F xs kvs) : RepD K F (stX xs k b v) (dSet k kd d kvs) := by
  unfold stX dSet
  rcases r.look k with ⟨e1, e2⟩ | ⟨b', v', d', e1, e2, _⟩
  · rw [e1, e2]
    exact r.snoc h1 h2 h3 h4
  · rw [e1, e2]
    exact r.put h4
/-- a tuple as a key -/
def keyD (d : D) : Option NestedKey := match d with
  | .tup ds => (match D.nk (.tup ds) with
    | some k => if k.depth ≤ 8 then some k else none
    | none => none)
  | _ => none
theorem Vw.dic {S : Ss} {σ : L2.St} {v : V} {kvs : List (D × D)} (h : Vw K F S σ v (.dic kvs)) (c : Cp K F S σ H) : ∃ a xs, v = .ref a ∧ H a = some (K.dm a xs) ∧ RepD K F xs kvs := by
  rcases h with h | ⟨i, h1, h2⟩
  · cases h with
    | dic h l => exact ⟨_, _, rfl, c.sub _ _ h, l⟩
  · obtain ⟨a, e, o, _⟩ := c.own i _ h1
    rw [h2] at e
    cases e
    cases o with
    | dic h l => exact ⟨_, _, rfl, h, l⟩
theorem Vw.key {S : Ss} {σ : L2.St} {v : V} {d : D} {k : NestedKey} (h : Vw K F S σ v d) (c : Cp K F S σ H) (e : keyD d = some k) : ∃ b, v = .ref b ∧ Rep K F (.ref b) d ∧ D.nk d = some k ∧ k.depth ≤ 8 := by
  unfold keyD at e
  split at e
  · split at e
    · rename_i k' hk
      split at e
      · rename_i hd
        cases e
        obtain ⟨a, vs, rfl, h1, h2⟩ := h.tupX c
        exact ⟨a, rfl, .tup h1 h2, hk, hd⟩
      · cases e
    · cases e
  · cases e
end
section
variable {X : Cx} {W : WX} {pos : Pos}
theorem dkAt {F H : Hp} {S : Ss} {σ : L2.St} {x y : V} {d : D} {k : NestedKey} {kvs : List (D × D)} (c : Cp (kp X) F S σ H) (hx : Vw (kp X) F S σ x (.dic kvs)) (hy : Vw (kp X) F S σ y d) (e : keyD d = some k) : ∃ a xs b, DkAt X x y H a xs k b ∧ RepD (kp X) F xs kvs ∧ Rep (kp X) F (.ref b) d ∧ D.nk d = some k := by
  obtain ⟨a, xs, e1, h1, h2⟩ := hx.dic c
  obtain ⟨b, e2, h3, h4, h5⟩ := hy.key c e
  exact ⟨a, xs, b, ⟨e1, e2, h1, h2.dicK c.sub, (h3.mono c.sub).nkv h4, h5⟩, h2, h3, h4⟩
def inDX (neg : Bool) (x y : D) : Out R := match y with
  | .dic kvs => optO (keyD x) fun k => fzO (.bl (xor neg (dGet k kvs).isSome))
  | y => inD neg x y
theorem op_inDX (hu : X.A.units + 65 < cLine) : OpD X W (compareOp .In) (inDX false) := by
  obtain ⟨r, h1, h2⟩ := (op_inDD (W := W) hu).ex
  refine ⟨_, (op_inX hu).or h1, fun F S σ H x y dx dy Q c hx hy q => ?_⟩
  unfold inDX at q
  split at q
  · rename_i kvs
    cases e : keyD dx with
    | none =>
      rw [e] at q
      exact q.elim
    | some k =>
      rw [e] at q
      obtain ⟨a, xs, b, h, r, _⟩ := dkAt c hy hx e
      have z := fin_bl c q
      refine .inl ⟨a, xs, k, b, h, ?_⟩
      rcases r.look k with ⟨e1, e2⟩ | ⟨b', v', d', e1, e2, _⟩
      · rw [e1]
        rw [e2] at z
        exact z
      · rw [e1]
        rw [e2] at z
        exact z
  · exact .inr (h2 F S σ H x y dx _ Q c hx hy q)
theorem op_notInDX (hu : X.A.units + 65 < cLine) : OpD X W (compareOp .NotIn) (inDX true) := by
  obtain ⟨r, h1, h2⟩ := (op_notInDD (W := W) hu).ex
  refine ⟨_, (op_notInX hu).or h1, fun F S σ H x y dx dy Q c hx hy q => ?_⟩
  unfold inDX at q
  split at q
  · rename_i kvs
    cases e : keyD dx with
    | none =>
      rw [e] at q
      exact q.elim
    | some k =>
      rw [e] at q
      obtain ⟨a, xs, b, h, r, _⟩ := dkAt c hy hx e
      have z := fin_bl c q
      refine .inl ⟨a, xs, k, b, h, ?_⟩
      rcases r.look k with ⟨e1, e2⟩ | ⟨b', v', d', e1, e2, _⟩
      · rw [e1]
        rw [e2] at z
        exact z
      · rw [e1]
        rw [e2] at z
        exact z
  · exact .inr (h2 F S σ H x y dx _ Q c hx hy q)
def lenDX (as : List D) : Out R := match as with
  | [.dic kvs] => fzO (.int kvs.length)
  | as => lenD as
theorem ca_lenX : CaD X W (.builtin "len") lenDX := by
  obtain ⟨r, h1, h2⟩ := (ca_len (X := X) (W := W)).ex
  refine ⟨_, call_len_dicX.or h1, fun F S σ H xs dxs Q c hx q => ?_⟩
  unfold lenDX at q
  split at q
  · obtain ⟨v, rfl, h⟩ := hx.one
    obtain ⟨a, xs, rfl, e1, e2⟩ := h.dic c
    refine .inl ⟨a, xs, rfl, e1, e2.dicK c.sub, ?_⟩
    rw [e2.len]
    exact fin_int c q
  · exact .inr (h2 F S σ H xs _ Q c hx q)
def listDX (as : List D) : Out R := match as with
  | [.dic kvs] => owO (.lst (kvs.map Prod.fst))
  | as => listD as
theorem ca_listX (hc : X.calm = true) : CaD X W (.type "list") listDX := by
  obtain ⟨r, h1, h2⟩ := (ca_list (X := X) (W := W)).ex
  refine ⟨_, (call_list_dicX hc).or h1, fun F S σ H xs dxs Q c hx q => ?_⟩
  unfold listDX at q
  split at q
  · obtain ⟨v, rfl, h⟩ := hx.one
    obtain ⟨a, xs, rfl, e1, e2⟩ := h.dic c
    exact .inl ⟨a, xs, rfl, e1, e2.dicK c.sub, fin_lst c q e2.keys⟩
  · exact .inr (h2 F S σ H xs _ Q c hx q)
def ixDX (x y : D) : Out R := match x with
  | .dic kvs => optO (keyD y) fun k => optO (dGet k kvs) fzO
  | x => ixD x y
theorem je_itemX {a b : Expr} {ma mb : MV} (hu : X.A.units + 65 < cLine) (ha : JV X W a ma) (hb : JV X W b mb) (hs : PlainIx b) : JE X W (.Subscript a b pos) (m2 ixDX ma mb) := by
  obtain ⟨r, h1, h2⟩ := ix_okD X W
  refine je_ix ((ix_dicX hu).or h1) (fun F S σ H x y dx dy Q c hx hy q => ?_) ha hb hs
  unfold ixDX at q
  split at q
  · rename_i kvs
    cases e : keyD dy with
    | none =>
      rw [e] at q
      exact q.elim
    | some k =>
      rw [e] at q
      obtain ⟨a, xs, b, h, r, _⟩ := dkAt c hx hy e
      rcases r.look k with ⟨e1, e2⟩ | ⟨b', v', d', e1, e2, rv⟩
      · have q : Fin _ W F H σ (optO (dGet k kvs) fzO) _ := q
        rw [e2] at q
        exact q.elim
      · have q : Fin _ W F H σ (optO (dGet k kvs) fzO) _ := q
        rw [e2] at q
        exact .inl ⟨a, xs, k, b, b', v', h, e1, fin_fz c q rv⟩
  · exact .inr (h2 F S σ H x y _ dy Q c hx hy q)
/-- {} -/
def mDic : ME := fun _ => .ok ⟨true, .dic []⟩
theorem je_dic : JE X W (.Dict [] [] pos) mDic := ⟨pe_imp pe_dnewX fun σ H Q ⟨F, S, c, q⟩ p hp => q F _ (Step.newH c.sub hp) (.ref p) (.inr ⟨rfl, p, rfl, .dic upd_same .nil, hp, c.sub.free hp⟩)⟩
/-- x[e] = v, x a dict held -/
def diS (i : Nat) (mi mv : MV) : MS := fun S => ofOut S (mv S) fun d => match S[i]? with
  | some (.own (.dic kvs)) => ofOut S (mi S) fun kd => (match keyD kd with
    | some k => if kvs.length < 16000000 then .nx (S.set i (.own (.dic (dSet k kd d kvs)))) else .no
    | none => .no)
  | _ => .no
theorem js_setDic {i : Nat} {x : Str} {p p2 : Pos} {e ev : Expr} {me mv : MV} (hu : X.A.units + 65 < cLine) (h0 : PE X (.Name x p) (tVar i)) (he : JV X W e me) (h : JZ X W ev mv)
    (hs : swapsWithSole [.Subscript (.Name x p) e p2] ev pos.line X.env = pure false := by rfl) (hw : swappedStores [.Subscript (.Name x p) e p2] ev X.env = pure none := by rfl) (h1 : (assignEach [.Subscript (.Name x p) e p2] X.env).map (·.2) = [assign (.Subscript (.Name x p) e p2) X.env] := by rfl)
    (ha : ∀ v, assign (.Subscript (.Name x p) e p2) X.env v = (do
      let ov ← holding [v] (eval (.Name x p) X.env)
      let iv ← holding [v, ov] (eval e X.env)
      standAt p2
      holding [v, ov, iv] (setItem ov iv v)
      release [v, ov, iv] []) := by intro _; rfl) : JS X W (.Assign [.Subscript (.Name x p) e p2] ev pos) (diS i me mv) := ⟨fun C hC => ps_imp (ps_asg h.pe (pg_sub h0 he.pe (set_dicX hu) ha) hs hw h1) fun D σ H ⟨F, S, b, q⟩ =>
  ⟨F, S, b.cp, Fin.imp (FinS.out b q) fun d F1 H1 t1 z v rv => by
    have b1 := b.step t1
    split at z
    · rename_i kvs hS
      obtain ⟨a, ha, ow, hf⟩ := b1.cp.own i _ hS
      refine ⟨.ref a, ha, F1, S, b1.cp, Fin.imp (FinS.out b1 z) fun k F2 H2 t2 z2 y ry => ?_⟩
      have b2 := b1.step t2
      split at z2
      · rename_i kk hk
        split at z2
        · rename_i hz
          obtain ⟨a', ha', ow2, _⟩ := b2.cp.own i _ hS
          rw [ha] at ha'
          cases ha'
          have hv : Vw (kp X) F2 S σ (.ref a) (.dic kvs) := .inr ⟨i, hS, ha⟩
          obtain ⟨a2, xs, bk, hd, r, rk, nk⟩ := dkAt b2.cp hv ry hk
          have hd' := hd
          obtain ⟨e1, _, hH, _, _, dp⟩ := hd'
          cases e1
          refine ⟨a, xs, kk, bk, hd, by rw [r.len, sizeLine_eq]; omega, ?_⟩
          exact z2 F2 σ _ (b2.mut hS ha (.dic upd_same (RepD.st nk dp rk (rv.mono t2.gf) r))) (.refl _)
        · exact z2.elim
      · exact z2.elim
    · exact z.elim⟩⟩
/-! tuples of ints in order -/
def ltDX (x y : D) : Out R := match x, y with
  | .tup xs, .tup ys => optO (intsOf xs) fun ns => optO (intsOf ys) fun ms => fzO (.bl (HT.lexLt ns ms))
  | x, y => ltD x y
theorem op_ltDX (hu : X.A.units + 65 < cLine) : OpD X W (compareOp .Lt) ltDX := by
  obtain ⟨r, h1, h2⟩ := (op_ltD (X := X) (W := W)).ex
  refine ⟨_, (op_ltT (by omega)).or h1, fun F S σ H x y dx dy Q c hx hy q => ?_⟩
  unfold ltDX at q
  split at q
  · rename_i xs ys
    cases e1 : intsOf xs with
    | none =>
      rw [e1] at q
      exact q.elim
    | some ns =>
      cases e2 : intsOf ys with
      | none =>
        rw [e1] at q
        have q : Fin _ W F H σ (optO (intsOf ys) fun ms => fzO (.bl (HT.lexLt ns ms))) _ := q
        rw [e2] at q
        exact q.elim
      | some ms =>
        rw [e1] at q
        have q : Fin _ W F H σ (optO (intsOf ys) fun ms => fzO (.bl (HT.lexLt ns ms))) _ := q
        rw [e2] at q
        have q3 : Fin (kp X) W F H σ (fzO (D.bl (HT.lexLt ns ms))) (kE (kp X) H Q) := q
        cases intsOf_eq e1
        cases intsOf_eq e2
        obtain ⟨a, vs, rfl, _, h1', r1⟩ := hx.tup c
        obtain ⟨b, us, rfl, _, h2', r2⟩ := hy.tup c
        cases r1.ints
        cases r2.ints
        exact .inl ⟨a, b, ns, ms, rfl, rfl, h1', h2', fin_bl c q3⟩
  · exact .inr (h2 F S σ H x y _ _ Q c hx hy q)
end
end VM

/-! == of dicts whose keys are tuples, their values ints -/
namespace VM
open PySem PySem.Spec PyProof.Rows L2
section
variable {P : Program} {w : World} {A : Around} {E : Value → Shared → Prop} {s : Shared}
def likeIn (g : Value → Value → Bool) (kb : List (NestedKey × Addr × Value)) (x : NestedKey × Addr × Value) : Bool := match atKey kb x.1 with
  | some p => g x.2.2 p.2
  | none => false
theorem atKey_no {k : NestedKey} : ∀ {kb : List (NestedKey × Addr × Value)}, (∀ (j : Nat) (p : Addr × Value), kb[j]? ≠ some (k, p)) → atKey kb k = none
  | [], _ => rfl
  | x :: kb, h => by
    have hk : ¬ x.1 = k := fun e => h 0 x.2 (by rw [← e] <;> rfl)
    unfold atKey
    rw [List.find?_cons, decide_eq_false hk]
    exact atKey_no (kb := kb) fun j p e => h (j + 1) p (by simpa using e)
theorem atKey_yes {k : NestedKey} {p : Addr × Value} : ∀ {kb : List (NestedKey × Addr × Value)} {j : Nat}, (kb.map (·.1)).Nodup → kb[j]? = some (k, p) → atKey kb k = some p
  | [], _, _, h => by simp at h
  | x :: kb, 0, _, h => by
    have e : x = (k, p) := by simpa using h
    subst e
    unfold atKey
    rw [List.find?_cons, decide_eq_true rfl]
    rfl
  | x :: kb, j + 1, nd, h => by
    rw [List.map_cons, List.nodup_cons] at nd
    have h' : kb[j]? = some (k, p) := by simpa using h
    have hk : ¬ x.1 = k := fun e => nd.1 (List.mem_map.mpr ⟨(k, p), List.mem_of_getElem? h', e.symm⟩)
    unfold atKey
    rw [List.find?_cons, decide_eq_false hk]
    exact atKey_yes (kb := kb) (j := j) nd.2 h'
theorem pairsX {nm : String} {a b : Addr} {ka kb : List (NestedKey × Addr × Value)} {g : Value → Value → Bool} {Q : Bool → Shared → Prop} (hu : (nestedKind P w).room A) (ha : (a == sysModules) = false) (hb : (b == sysModules) = false)
    (da : s.heap.DictOfH (nestedKind P w) a ka) (db : s.heap.DictOfH (nestedKind P w) b kb) (hv : ∀ x ∈ ka, ∀ y ∈ kb, SeqAt.EqP P w A s x.2.2 y.2.2 (g x.2.2 y.2.2))
    (h : Q (ka.length == kb.length && ka.all (likeIn g kb)) s) : wpAny (model P w) A (Builtin.Dict.samePairs nm a b) Q E s := by
  obtain ⟨oa, ea, pa, h1, _, h2, h3, h4, h5⟩ := da
  obtain ⟨ob, eb, pb, g1, _, g2, g3, g4, g5⟩ := db
  have la := size_of_entries h3
  have lb := size_of_entries g3
  unfold Builtin.Dict.samePairs Builtin.Dict.showsAll
  rw [ha, hb]
  simp only [Bool.false_eq_true, if_false]
  refine wpAny_bind (wpAny_pure (wpAny_bind (wpAny_pure (wpAny_bind (wpAny_dictEntries h1 h2 ?_)))))
  refine wpAny_bind (wpAny_dictEntries g1 g2 ?_)
  by_cases hz : ka.length = kb.length
  case neg =>
    have e1 : (ea.size != eb.size) = true := by rw [la, lb]; simpa using hz
    have e2 : (ka.length == kb.length) = false := by simpa using hz
    rw [if_pos e1]
    rw [e2, Bool.false_and] at h
    exact wpAny_bind (wpAny_rule (wpAny_pure h))
  have e1 : ¬ (ea.size != eb.size) = true := by rw [la, lb]; simpa using hz
  have e2 : (ka.length == kb.length) = true := by simpa using hz
  rw [if_neg e1]
  rw [e2, Bool.true_and] at h
  refine wpAny_bind (wpAny_dictEpoch h1 h2 (wpAny_bind ?_))
  rw [Std.Legacy.Range.forIn_eq_forIn_range']
  simp only [Std.Legacy.Range.size, Nat.sub_zero, Nat.add_sub_cancel, Nat.div_one]
  refine wpAny_forIn_list _ (fun rest q s' => s' = s ∧ q = (none, ()) ∧ ∃ i, i ≤ ea.size ∧ rest = List.range' i (ea.size - i) ∧ (ka.take i).all (likeIn g kb) = true) _ (fun x rest q s' hI => ?_) (fun q s' hI => ?_) _ _ ⟨rfl, rfl, 0, Nat.zero_le _, by simp, by simp⟩
  · obtain ⟨rfl, rfl, i, hi, hr, hall⟩ := hI
    have hlt : i < ea.size := by
      rcases Nat.lt_or_ge i ea.size with z | z
      · exact z
      · rw [Nat.sub_eq_zero_of_le z] at hr
        cases hr
    have hr2 : x = i ∧ rest = List.range' (i + 1) (ea.size - (i + 1)) := by
      rw [show ea.size - i = ea.size - (i + 1) + 1 from by omega, List.range'_succ] at hr
      exact List.cons.inj hr
    obtain ⟨rfl, hr2⟩ := hr2
    have hlk : x < ka.length := by omega
    obtain ⟨⟨k, ad, v⟩, hkv⟩ : ∃ y, ka[x] = y := ⟨_, rfl⟩
    have hk : ka[x]? = some (k, ad, v) := by rw [List.getElem?_eq_getElem hlk, hkv]
    have hm := List.mem_of_getElem? hk
    have hx : ea[x]? = some ⟨(nestedKind P w).hash k, .ref ad, v⟩ := by
      rw [entry_at h3 x, hk]
      rfl
    have hkey := h4 _ hm
    refine wpAny_bind (wpAny_dictEntries h1 h2 ?_)
    rw [hx]
    show wpAny _ _ (holding [Value.ref ad, v] _ >>= _) _ _ _
    refine wpAny_bind (wpAny_holding (wpAny_bind (wpAny_dictFind_heap hu hkey g1 g2 g3 g4 g5 (fun hno => ?_) (fun j p hj => ?_))))
    · refine wpAny_pure ?_
      show wpAny _ _ (if (!false) = true then _ else _) _ _ _
      rw [if_pos (by decide)]
      refine wpAny_pure (wpAny_pure ?_)
      have e := atKey_no hno
      have hf : ka.all (likeIn g kb) = false := List.all_eq_false.mpr ⟨_, hm, by unfold likeIn; rw [e]; exact Bool.false_ne_true⟩
      rw [hf] at h
      exact h
    · refine wpAny_bind (wpAny_dictEntries g1 g2 ?_)
      rw [entry_at g3 j, hj]
      have e := atKey_yes g5 hj
      have hl : likeIn g kb (k, ad, v) = g v p.2 := by
        unfold likeIn
        rw [e]
      refine wpAny_holding (hv _ hm _ (List.mem_of_getElem? hj) _ _ ?_)
      cases hg : g v p.2 with
      | false =>
        rw [if_pos (by decide)]
        refine wpAny_pure (wpAny_pure ?_)
        have hf : ka.all (likeIn g kb) = false := List.all_eq_false.mpr ⟨_, hm, by rw [hl, hg]; exact Bool.false_ne_true⟩
        rw [hf] at h
        exact h
      | true =>
        rw [if_neg (by decide)]
        refine wpAny_bind (wpAny_dictEpoch h1 h2 ?_)
        rw [if_neg (by simp)]
        refine wpAny_pure ⟨rfl, rfl, x + 1, hlt, hr2, ?_⟩
        rw [List.take_succ, hk, List.all_append, hall]
        simp [hl, hg]
  · obtain ⟨rfl, rfl, i, hi, hr, hall⟩ := hI
    have hin : i = ea.size := by
      rcases Nat.lt_or_ge i ea.size with z | z
      · rw [show ea.size - i = ea.size - (i + 1) + 1 from by omega, List.range'_succ] at hr
        cases hr
      · omega
    refine wpAny_pure ?_
    rw [List.take_of_length_le (by omega)] at hall
    rw [hall] at h
    exact h
theorem eqX {a b : Addr} {ka kb : List (NestedKey × Addr × Value)} {g : Value → Value → Bool} {Q : Value → Shared → Prop} (hr : (nestedKind P w).room A.in1) (hu : A.units < cLine) (ha : (a == sysModules) = false) (hb : (b == sysModules) = false)
    (da : s.heap.DictOfH (nestedKind P w) a ka) (db : s.heap.DictOfH (nestedKind P w) b kb) (hv : ∀ x ∈ ka, ∀ y ∈ kb, SeqAt.EqP P w A.in1 s x.2.2 y.2.2 (g x.2.2 y.2.2))
    (h : Q (.bool (ka.length == kb.length && ka.all (likeIn g kb))) s) : wpAny (model P w) A (compareOp .Eq (.ref a) (.ref b)) Q E s := by
  have call := wpAny_call_entry (prog := P) (w := w) (A := A) (E := E) (Q := fun v s' => v ≠ .notImplemented ∧ Q v s') PySem.F.slot_dict_eq da.typeIs PySem.F.entry_dict_eq (s := s) ?_ (PySem.F.args_dict_eq_2 (.ref a) (.ref b))
  · exact wpAny_richCompare_same_room (op := .Eq) da.typeIs db.typeIs PySem.F.slot_dict_eq call hu
  · show wpAny _ _ (Builtin.Dict.dictSlotArgs "__eq__" ⟨[.ref a, .ref b], []⟩ >>= _) _ _ s
    unfold Builtin.Dict.dictSlotArgs
    refine wpAny_bind (wpAny_bind (wpAny_notOrdered_dict da.typeIs (wpAny_pure ?_)))
    refine wpAny_bind (wpAny_isInstance (T := "dict") db.typeIs PySem.F.sub_dict_dict ?_)
    rw [Bool.not_true, if_neg Bool.false_ne_true]
    refine wpAny_bind (wpAny_pure (wpAny_bind (wpAny_pure (wpAny_bind (pairsX (g := g) hr ha hb da db hv (wpAny_pure ⟨_, rfl, (fun x => nomatch x), ?_⟩))))))
    simpa using h
end
def vI : Value → Int
  | .int i _ => i
  | _ => 0
def wI : V → Int
  | .int i => i
  | _ => 0
theorem rel_int {i : Int} {u : Value} (r : RelV (.int i) u) : ∃ t, u = .int i t := r
theorem eqp_int {P : Program} {w : World} {A : Around} {s : Shared} (i j : Int) (t u : Tok) : SeqAt.EqP P w A s (.int i t) (.int j u) (i == j) := by
  have z := SeqAt.EqAt.eqP (prog := P) (w := w) (PySem.W.keq_flat (A := A) (s := s) (v := .int i t) (y := .int j u) (d := .int i) (e := .int j) (PyProof.V.Flat.int i t) (PyProof.V.Flat.int j u))
  simpa [PyData.eqv] using z
/-- all values are ints -/
def AllI (xs : List (NestedKey × Addr × V)) : Prop := ∀ x ∈ xs, ∃ i, x.2.2 = .int i
def likeX (ys : List (NestedKey × Addr × V)) (x : NestedKey × Addr × V) : Bool := match atX ys x.1 with
  | some p => wI x.2.2 == wI p.2
  | none => false
section
variable {X : Cx}
theorem paired_all {α β : Type} {R : α → β → Prop} {p : α → Bool} {q : β → Bool} : ∀ {xs : List α} {us : List β}, Paired R xs us → (∀ x ∈ xs, ∀ u, R x u → p x = q u) → xs.all p = us.all q
  | _, _, .nil, _ => rfl
  | _, _, .cons r t, h => by
    rw [List.all_cons, List.all_cons, h _ List.mem_cons_self _ r, paired_all t fun x hx => h x (List.mem_cons_of_mem _ hx)]
theorem op_eqX (hu : X.A.units + 65 < cLine) : OpR X (compareOp .Eq) (fun x y H Q => ∃ a b xs ys, x = .ref a ∧ y = .ref b ∧ H a = some (DicO X.prog X.w a xs) ∧ DicK X.K H xs ∧ AllI xs ∧ H b = some (DicO X.prog X.w b ys) ∧ DicK X.K H ys ∧ AllI ys ∧ Q (.bl (xs.length == ys.length && xs.all (likeX ys))) H) := by
  rintro pins s σ H x y u v Q I rx ry ⟨a, b, xs, ys, rfl, rfl, ha, ka, ia, hb, kb, ib, q⟩
  cases rx
  cases ry
  obtain ⟨h1, h2, us, h3, h4⟩ := dic_of I ha ka
  obtain ⟨g1, g2, vs, g3, g4⟩ := dic_of I hb kb
  have valI : ∀ {zs : List (NestedKey × Addr × V)} {ws : List (NestedKey × Addr × Value)}, Paired RX zs ws → AllI zs → ∀ u ∈ ws, ∃ i t, u.2.2 = .int i t := fun p iz u hu => by
    obtain ⟨x, hx, _, _, r⟩ := paired_mem p u hu
    obtain ⟨i, ei⟩ := iz x hx
    rw [ei] at r
    obtain ⟨t, e⟩ := rel_int r
    exact ⟨i, t, e⟩
  refine eqX (g := fun x y => vI x == vI y) (show X.A.in1.units + 8 < cLine by show X.A.units + 1 + 8 < cLine; omega) (by omega) h1 g1 h4 g4 (fun x hx y hy => ?_) ?_
  · obtain ⟨i, t, e⟩ := valI h3 ia x hx
    obtain ⟨j, u, e'⟩ := valI g3 ib y hy
    rw [e, e']
    exact eqp_int i j t u
  · refine ⟨.bl _, H, I.tok _, ?_, q⟩
    have e : xs.all (likeX ys) = us.all (likeIn (fun x y => vI x == vI y) vs) := paired_all h3 fun x hx u r => by
      obtain ⟨r1, r2, r3⟩ := r
      obtain ⟨i, ei⟩ := ia x hx
      rw [ei] at r3
      obtain ⟨t, et⟩ := rel_int r3
      unfold likeX likeIn
      rw [← r1]
      rcases at_rel x.1 g3 with ⟨e1, e2⟩ | ⟨b', v', u', e1, e2, rv⟩
      · rw [e1, e2]
      · rw [e1, e2]
        have hm : ∃ z ∈ ys, z.2.2 = v' := by
          unfold atX at e1
          cases hf : ys.find? (fun y => decide (y.1 = x.1)) with
          | none =>
            rw [hf] at e1
            cases e1
          | some z =>
            rw [hf] at e1
            have e3 : z.2 = (b', v') := Option.some.inj e1
            exact ⟨z, List.mem_of_find?_eq_some hf, by rw [e3]⟩
        obtain ⟨z, hz, ez⟩ := hm
        obtain ⟨j, ej⟩ := ib z hz
        rw [ez] at ej
        subst ej
        obtain ⟨t', et'⟩ := rel_int rv
        simp only
        rw [ei, et, et']
        rfl
    rw [e, paired_len h3, paired_len g3]
    rfl
end
def isI : D → Bool
  | .int _ => true
  | _ => false
def likeD (ys : List (D × D)) (p : D × D) : Bool := match D.nk p.1 with
  | some k => (match dGet k ys with
    | some d => D.eqv p.2 d
    | none => false)
  | none => false
def dicEq (xs ys : List (D × D)) : Out R := if xs.all (fun p => isI p.2) && ys.all (fun p => isI p.2) then fzO (.bl (xs.length == ys.length && xs.all (likeD ys))) else .no
def eqDX (x y : D) : Out R := match x with
  | .dic xs => (match y with
    | .dic ys => dicEq xs ys
    | _ => .no)
  | x => eqD x y
section
variable {K : Kp} {F : Hp}
theorem Rep.isI {v : V} {d : D} (r : Rep K F v d) (h : isI d = true) : ∃ i, v = .int i ∧ d = .int i := by
  cases r with
  | int i => exact ⟨i, rfl, rfl⟩
  | _ => cases h
theorem RepD.allI : ∀ {xs : List (NestedKey × Addr × V)} {kvs : List (D × D)}, RepD K F xs kvs → kvs.all (fun p => VM.isI p.2) = true → AllI xs
  | _, _, .nil, _ => fun _ h => nomatch h
  | _, _, .cons _ _ _ r t, h => fun x hx => by
    rw [List.all_cons, Bool.and_eq_true] at h
    rcases List.mem_cons.mp hx with rfl | hx
    · obtain ⟨i, e, _⟩ := r.isI h.1
      exact ⟨i, e⟩
    · exact t.allI h.2 x hx
theorem RepD.like {ys : List (NestedKey × Addr × V)} {kys : List (D × D)} (ry : RepD K F ys kys) (hy : kys.all (fun p => VM.isI p.2) = true) : ∀ {xs : List (NestedKey × Addr × V)} {kvs : List (D × D)}, RepD K F xs kvs → kvs.all (fun p => VM.isI p.2) = true → xs.all (likeX ys) = kvs.all (likeD kys)
  | _, _, .nil, _ => rfl
  | _, _, .cons (k := k) a b c r t, h => by
    rw [List.all_cons, Bool.and_eq_true] at h
    rw [List.all_cons, List.all_cons, RepD.like ry hy t h.2]
    obtain ⟨i, e1, e2⟩ := r.isI h.1
    subst e1 e2
    congr 1
    unfold likeX likeD
    rw [a]
    rcases ry.look k with ⟨e1, e2⟩ | ⟨b', v', d', e1, e2, rv⟩
    · simp only [e1, e2]
    · have hd : VM.isI d' = true := by
        have : ∀ {l : List (D × D)}, dGet k l = some d' → l.all (fun p => VM.isI p.2) = true → VM.isI d' = true := fun {l} => by
          induction l with
          | nil => intro h; cases h
          | cons p l ih =>
            intro h1 h2
            rw [List.all_cons, Bool.and_eq_true] at h2
            rw [dGet] at h1
            split at h1
            · cases h1
              exact h2.1
            · exact ih h1 h2.2
        exact this e2 hy
      obtain ⟨j, e3, e4⟩ := rv.isI hd
      subst e3 e4
      simp only [e1, e2]
      simp [wI, D.eqv]
end
section
variable {X : Cx} {W : WX}
theorem op_eqDX (hu : X.A.units + 65 < cLine) : OpD X W (compareOp .Eq) eqDX := by
  obtain ⟨r, h1, h2⟩ := (op_eqDD (X := X) (W := W) hu).ex
  refine ⟨_, (op_eqX hu).or h1, fun F S σ H x y dx dy Q c hx hy q => ?_⟩
  unfold eqDX at q
  split at q
  · split at q
    · rename_i xs ys
      unfold dicEq at q
      split at q
      · rename_i hh
        rw [Bool.and_eq_true] at hh
        obtain ⟨a, as, rfl, a1, a2⟩ := hx.dic c
        obtain ⟨b, bs, rfl, b1, b2⟩ := hy.dic c
        have z := fin_bl c q
        rw [← RepD.like b2 hh.2 a2 hh.1, ← a2.len, ← b2.len] at z
        exact .inl ⟨a, b, as, bs, rfl, rfl, a1, a2.dicK c.sub, a2.allI hh.1, b1, b2.dicK c.sub, b2.allI hh.2, z⟩
      · exact q.elim
    · exact q.elim
  · exact .inr (h2 F S σ H x y _ _ Q c hx hy q)
end
end VM

/-! evaluation of dicts, one step a lemma -/
namespace VM
open PySem L2
def SOut.di2 (ok : Option NestedKey) (kvs : List (D × D)) (e d : D) (S : Ss) (i : Nat) : SOut := match ok with
  | some k => if kvs.length < 16000000 then .nx (S.set i (.own (.dic (dSet k e d kvs)))) else .no
  | none => .no
def SOut.di (sl : Option Sl) (ok o : Out D) (S : Ss) (i : Nat) : SOut := ofOut S o fun d => match sl with
  | some (.own (.dic kvs)) => ofOut S ok fun kd => (match keyD kd with
    | some k => if kvs.length < 16000000 then .nx (S.set i (.own (.dic (dSet k kd d kvs)))) else .no
    | none => .no)
  | _ => .no
section
variable {S : Ss} {v u : MV} {i : Nat} {d e : D} {kvs xs ys : List (D × D)} {neg : Bool} {ds es : List D} {k : NestedKey}
theorem ev_dic : mDic S = .ok ⟨true, .dic []⟩ := rfl
theorem ev_di : diS i v u S = SOut.di S[i]? (v S) (u S) S i := rfl
theorem di_ok : SOut.di (some (.own (.dic kvs))) (.ok e) (.ok d) S i = SOut.di2 (keyD e) kvs e d S i := rfl
theorem di2_ok : SOut.di2 (some k) kvs e d S i = if kvs.length < 16000000 then .nx (S.set i (.own (.dic (dSet k e d kvs)))) else .no := rfl
theorem d_inX : inDX neg e (.dic kvs) = optO (keyD e) fun k => .ok ⟨false, .bl (xor neg (dGet k kvs).isSome)⟩ := rfl
theorem d_inX_lst {z : List D} : inDX neg e (.lst z) = inD neg e (.lst z) := rfl
theorem d_inX_tup {z : List D} : inDX neg e (.tup z) = inD neg e (.tup z) := rfl
theorem d_inX_str {z : List Nat} : inDX neg e (.str z) = inD neg e (.str z) := rfl
theorem kd2 {a b : Int} : keyD (.tup [.int a, .int b]) = some (.tup [.num a, .num b]) := by simp [keyD, D.nk, D.nkAll, NestedKey.depth, NestedKey.depthAll]
theorem d_lenX : lenDX [.dic kvs] = .ok ⟨false, .int kvs.length⟩ := rfl
theorem d_listX : listDX [.dic kvs] = .ok ⟨true, .lst (kvs.map Prod.fst)⟩ := rfl
theorem d_ixX : ixDX (.dic kvs) e = optO (keyD e) fun k => optO (dGet k kvs) fzO := rfl
theorem d_lenX_lst {z : List D} : lenDX [.lst z] = lenD [.lst z] := rfl
theorem d_ixX_lst {z : List D} : ixDX (.lst z) e = ixD (.lst z) e := rfl
theorem d_listX_lst {z : List D} : listDX [.lst z] = listD [.lst z] := rfl
theorem d_lenX_tup {z : List D} : lenDX [.tup z] = lenD [.tup z] := rfl
theorem d_ixX_tup {z : List D} : ixDX (.tup z) e = ixD (.tup z) e := rfl
theorem d_listX_tup {z : List D} : listDX [.tup z] = listD [.tup z] := rfl
theorem d_lenX_str {z : List Nat} : lenDX [.str z] = lenD [.str z] := rfl
theorem d_ixX_str {z : List Nat} : ixDX (.str z) e = ixD (.str z) e := rfl
theorem d_lenX_scr {z : List Int} : lenDX [.scr z] = lenD [.scr z] := rfl
theorem d_ixX_scr {z : List Int} : ixDX (.scr z) e = ixD (.scr z) e := rfl
theorem d_listX_scr {z : List Int} : listDX [.scr z] = listD [.scr z] := rfl
theorem d_ltXi {a b : Int} : ltDX (.int a) (.int b) = .ok ⟨false, .bl (decide (a < b))⟩ := rfl
theorem d_ltXt : ltDX (.tup ds) (.tup es) = optO (intsOf ds) fun ns => optO (intsOf es) fun ms => .ok ⟨false, .bl (HT.lexLt ns ms)⟩ := rfl
theorem d_eqXd : eqDX (.dic xs) (.dic ys) = dicEq xs ys := rfl
theorem d_eqX_lst {z : List D} : eqDX (.lst z) e = eqD (.lst z) e := rfl
theorem d_eqX_tup {z : List D} : eqDX (.tup z) e = eqD (.tup z) e := rfl
theorem d_eqX_str {z : List Nat} : eqDX (.str z) e = eqD (.str z) e := rfl
theorem d_eqX_int {z : Int} : eqDX (.int z) e = eqD (.int z) e := rfl
theorem d_eqX_bl {z : Bool} : eqDX (.bl z) e = eqD (.bl z) e := rfl
theorem d_eqX_non : eqDX .non e = eqD .non e := rfl
theorem n_dic : isNon (.dic kvs) = false := rfl
theorem n_dki {z : List (Int × D)} : isNon (.dki z) = false := rfl
end
end VM

/-! dicts whose keys are ints; min, sum of a list; extend -/
namespace VM
open PySem PySem.Spec PyProof.Rows L2
def iGet (k : Int) : List (Int × D) → Option D
  | [] => none
  | (j, d) :: r => if j = k then some d else iGet k r
def iPut (k : Int) (d : D) (kvs : List (Int × D)) : List (Int × D) := kvs.map fun p => if p.1 = k then (p.1, d) else p
def iSet (k : Int) (d : D) (kvs : List (Int × D)) : List (Int × D) := if (iGet k kvs).isSome then iPut k d kvs else kvs ++ [(k, d)]
abbrev kI (xs : List (Int × V)) : List (Key × V) := xs.map fun p => (Sum.inl p.1, p.2)
section
variable {K : Kp} {F H : Hp}
theorem RepI.len : ∀ {xs : List (Int × V)} {kvs : List (Int × D)}, RepI K F xs kvs → xs.length = kvs.length
  | _, _, .nil => rfl
  | _, _, .cons _ t => congrArg Nat.succ t.len
theorem RepI.look (k : Int) : ∀ {xs : List (Int × V)} {kvs : List (Int × D)}, RepI K F xs kvs → (valV (kI xs) (Sum.inl k) = none ∧ iGet k kvs = none) ∨ ∃ v d, valV (kI xs) (Sum.inl k) = some v ∧ iGet k kvs = some d ∧ Rep K F v d
  | _, _, .nil => .inl ⟨rfl, rfl⟩
  | _, _, .cons (i := i) (v := v) (xs := xs) (d := d) (kvs := kvs) h t => by
    by_cases e : i = k
    · subst e
      refine .inr ⟨v, d, valV_pos rfl, ?_, h⟩
      rw [iGet, if_pos rfl]
    · have e2 : ¬ (Sum.inl i : Key) = Sum.inl k := fun z => e (Sum.inl.inj z)
      have h1 : valV (kI ((i, v) :: xs)) (Sum.inl k) = valV (kI xs) (Sum.inl k) := valV_neg e2
      rw [h1, iGet, if_neg e]
      exact RepI.look k t
theorem RepI.app1 {k : Int} {v : V} {d : D} (h : Rep K F v d) : ∀ {xs : List (Int × V)} {kvs : List (Int × D)}, RepI K F xs kvs → RepI K F (xs ++ [(k, v)]) (kvs ++ [(k, d)])
  | _, _, .nil => .cons h .nil
  | _, _, .cons g t => .cons g (t.app1 h)
theorem RepI.put {k : Int} {v : V} {d : D} (h : Rep K F v d) : ∀ {xs : List (Int × V)} {kvs : List (Int × D)}, RepI K F xs kvs → RepI K F (xs.map fun p => if p.1 = k then (p.1, v) else p) (iPut k d kvs)
  | _, _, .nil => .nil
  | _, _, .cons (i := i) (v := v0) (d := d0) g t => by
    have ih := RepI.put (k := k) h t
    unfold iPut at ih ⊢
    rw [List.map_cons, List.map_cons]
    by_cases e : i = k
    · simp only [if_pos e]
      exact .cons h ih
    · simp only [if_neg e]
      exact .cons g ih
theorem RepI.st {k : Int} {v : V} {d : D} (h : Rep K F v d) {xs : List (Int × V)} {kvs : List (Int × D)} (r : RepI K F xs kvs) : ∃ ys, putK (kI xs) (Sum.inl k) v = kI ys ∧ RepI K F ys (iSet k d kvs) := by
  unfold putK iSet
  rw [valV_any]
  rcases r.look k with ⟨e1, e2⟩ | ⟨v', d', e1, e2, _⟩
  · rw [e1, e2]
    refine ⟨xs ++ [(k, v)], ?_, r.app1 h⟩
    rw [if_neg (by simp)]
    simp
  · rw [e1, e2]
    refine ⟨xs.map fun p => if p.1 = k then (p.1, v) else p, ?_, r.put h⟩
    rw [if_pos (by rfl)]
    simp only [kI, List.map_map]
    refine List.map_congr_left fun p _ => ?_
    by_cases e : p.1 = k
    · simp [e]
    · simp [e]
theorem Vw.dki {S : Ss} {σ : L2.St} {v : V} {kvs : List (Int × D)} (h : Vw K F S σ v (.dki kvs)) (c : Cp K F S σ H) : ∃ a xs, v = .ref a ∧ H a = some (.dK (kI xs)) ∧ RepI K F xs kvs := by
  rcases h with h | ⟨i, h1, h2⟩
  · cases h with
    | dki h l => exact ⟨_, _, rfl, c.sub _ _ h, l⟩
  · obtain ⟨a, e, o, _⟩ := c.own i _ h1
    rw [h2] at e
    cases e
    cases o with
    | dki h l => exact ⟨_, _, rfl, h, l⟩
theorem RepI.keys : ∀ {xs : List (Int × V)} {kvs : List (Int × D)}, RepI K F xs kvs → xs.map (·.1) = kvs.map (·.1)
  | _, _, .nil => rfl
  | _, _, .cons _ t => by rw [List.map_cons, List.map_cons, t.keys]
end
section
variable {X : Cx}
theorem op_inK (hu : X.A.units + 65 < cLine) : OpR X (compareOp .In) (fun y x H Q => ∃ a xs k, x = .ref a ∧ y = .int k ∧ H a = some (.dK (kI xs)) ∧ Q (.bl (valV (kI xs) (Sum.inl k)).isSome) H) := by
  rintro pins s σ H y x u v Q I ry rx ⟨a, xs, k, rfl, rfl, ha, q⟩
  cases rx
  exact d_in (by omega) I (DGet.k (k := Sum.inl k) ha) ry fun s' I' => ⟨.bl _, H, I', rfl, q⟩
theorem op_notInK (hu : X.A.units + 65 < cLine) : OpR X (compareOp .NotIn) (fun y x H Q => ∃ a xs k, x = .ref a ∧ y = .int k ∧ H a = some (.dK (kI xs)) ∧ Q (.bl (!(valV (kI xs) (Sum.inl k)).isSome)) H) := by
  rintro pins s σ H y x u v Q I ry rx ⟨a, xs, k, rfl, rfl, ha, q⟩
  cases rx
  exact d_notIn (by omega) I (DGet.k (k := Sum.inl k) ha) ry fun s' I' => ⟨.bl _, H, I', rfl, q⟩
theorem set_K (hu : X.A.units + 65 < cLine) : PSet X (fun x y v H Q => ∃ a xs k, x = .ref a ∧ y = .int k ∧ H a = some (.dK (kI xs)) ∧ (kI xs).length < sizeLine ∧ Q (upd H a (.dK (putK (kI xs) (Sum.inl k) v)))) := by
  rintro pins s σ H x y v ov iv u Q I rx ry rv ⟨a, xs, k, rfl, rfl, ha, hl, q⟩
  cases rx
  exact d_setItem (by omega) I (DPut.k (k := Sum.inl k) ha hl) ry rv fun s' I' => ⟨_, I', q⟩
theorem ix_K (hu : X.A.units + 65 < cLine) : IxR X (fun x y H Q => ∃ a xs k v, x = .ref a ∧ y = .int k ∧ H a = some (.dK (kI xs)) ∧ valV (kI xs) (Sum.inl k) = some v ∧ Q v H) := by
  rintro value slice pins s σ H x y v u Q I rx ry ⟨a, xs, k, w, rfl, rfl, ha, hv, q⟩ hs
  cases rx
  obtain ⟨z, lo, vs, rel, dd⟩ := dk_of I.hok ha
  obtain ⟨w', hw, rw'⟩ := RelO.some_of (v := w) (o := valueAt vs (Sum.inl k)) (by rw [← hv]; exact rel.val (Sum.inl k))
  exact subscriptTail_builtinR (x := w') dd.typeIs PySem.F.slot_dict_getitem.lookup (wpAny_getItem_of (Q := fun r s' => r = w' ∧ EP X pins σ Q r s') (kV_is (k := Sum.inl k) ry) dd.mapOf hw ⟨rfl, w, H, I.tok _, rw', q⟩) hs
theorem call_lenK : CallR X (.builtin "len") (fun xs H Q => ∃ a kvs, xs = [V.ref a] ∧ H a = some (.dK kvs) ∧ Q (.int ((kvs.length : Nat) : Int)) H) := by
  rintro pins s σ H xs' us' Q I r ⟨a, xs, rfl, ha, q⟩
  obtain ⟨u, rfl, rx⟩ := vals1 r
  obtain rfl : u = .ref a := rx
  exact d_len I (.inl ha) fun t s' I' => ⟨.int _, H, I', ⟨t, rfl⟩, q⟩
end
section
variable {X : Cx} {W : WX} {pos : Pos}
def inDI (neg : Bool) (x y : D) : Out R := match y with
  | .dki kvs => (match x with
    | .int k => fzO (.bl (xor neg (iGet k kvs).isSome))
    | _ => .no)
  | y => inDX neg x y
theorem op_inDI (hu : X.A.units + 65 < cLine) : OpD X W (compareOp .In) (inDI false) := by
  obtain ⟨r, h1, h2⟩ := (op_inDX (W := W) hu).ex
  refine ⟨_, (op_inK hu).or h1, fun F S σ H x y dx dy Q c hx hy q => ?_⟩
  unfold inDI at q
  split at q
  · split at q
    · rename_i kvs k
      obtain ⟨a, xs, rfl, e1, r⟩ := hy.dki c
      have z := fin_bl c q
      refine .inl ⟨a, xs, k, rfl, hx.int c, e1, ?_⟩
      rcases r.look k with ⟨e1, e2⟩ | ⟨v', d', e1, e2, _⟩
      · rw [e1]
        rw [e2] at z
        exact z
      · rw [e1]
        rw [e2] at z
        exact z
    · exact q.elim
  · exact .inr (h2 F S σ H x y dx _ Q c hx hy q)
theorem op_notInDI (hu : X.A.units + 65 < cLine) : OpD X W (compareOp .NotIn) (inDI true) := by
  obtain ⟨r, h1, h2⟩ := (op_notInDX (W := W) hu).ex
  refine ⟨_, (op_notInK hu).or h1, fun F S σ H x y dx dy Q c hx hy q => ?_⟩
  unfold inDI at q
  split at q
  · split at q
    · rename_i kvs k
      obtain ⟨a, xs, rfl, e1, r⟩ := hy.dki c
      have z := fin_bl c q
      refine .inl ⟨a, xs, k, rfl, hx.int c, e1, ?_⟩
      rcases r.look k with ⟨e1, e2⟩ | ⟨v', d', e1, e2, _⟩
      · rw [e1]
        rw [e2] at z
        exact z
      · rw [e1]
        rw [e2] at z
        exact z
    · exact q.elim
  · exact .inr (h2 F S σ H x y dx _ Q c hx hy q)
def lenDI (as : List D) : Out R := match as with
  | [.dki kvs] => fzO (.int kvs.length)
  | as => lenDX as
theorem ca_lenI : CaD X W (.builtin "len") lenDI := by
  obtain ⟨r, h1, h2⟩ := (ca_lenX (X := X) (W := W)).ex
  refine ⟨_, call_lenK.or h1, fun F S σ H xs dxs Q c hx q => ?_⟩
  unfold lenDI at q
  split at q
  · obtain ⟨v, rfl, h⟩ := hx.one
    obtain ⟨a, xs, rfl, e1, e2⟩ := h.dki c
    refine .inl ⟨a, kI xs, rfl, e1, ?_⟩
    rw [List.length_map, e2.len]
    exact fin_int c q
  · exact .inr (h2 F S σ H xs _ Q c hx q)
def ixDI (x y : D) : Out R := match x with
  | .dki kvs => (match y with
    | .int k => optO (iGet k kvs) fzO
    | _ => .no)
  | x => ixDX x y
theorem ix_okX (hu : X.A.units + 65 < cLine) : ∃ r, IxR X r ∧ ∀ F S σ H x y dx dy Q, Cp (kp X) F S σ H → Vw (kp X) F S σ x dx → Vw (kp X) F S σ y dy → Fin (kp X) W F H σ (ixDX dx dy) (kE (kp X) H Q) → r x y H Q := by
  obtain ⟨r, h1, h2⟩ := ix_okD X W
  refine ⟨_, (ix_dicX hu).or h1, fun F S σ H x y dx dy Q c hx hy q => ?_⟩
  unfold ixDX at q
  split at q
  · rename_i kvs
    cases e : keyD dy with
    | none =>
      rw [e] at q
      exact q.elim
    | some k =>
      rw [e] at q
      obtain ⟨a, xs, b, h, r, _⟩ := dkAt c hx hy e
      have q : Fin _ W F H σ (optO (dGet k kvs) fzO) _ := q
      rcases r.look k with ⟨e1, e2⟩ | ⟨b', v', d', e1, e2, rv⟩
      · rw [e2] at q
        exact q.elim
      · rw [e2] at q
        exact .inl ⟨a, xs, k, b, b', v', h, e1, fin_fz c q rv⟩
  · exact .inr (h2 F S σ H x y _ dy Q c hx hy q)
theorem je_itemI {a b : Expr} {ma mb : MV} (hu : X.A.units + 65 < cLine) (ha : JV X W a ma) (hb : JV X W b mb) (hs : PlainIx b) : JE X W (.Subscript a b pos) (m2 ixDI ma mb) := by
  obtain ⟨r, h1, h2⟩ := ix_okX (X := X) (W := W) hu
  refine je_ix ((ix_K hu).or h1) (fun F S σ H x y dx dy Q c hx hy q => ?_) ha hb hs
  unfold ixDI at q
  split at q
  · split at q
    · rename_i kvs k
      obtain ⟨a, xs, rfl, e1, r⟩ := hx.dki c
      rcases r.look k with ⟨_, e2⟩ | ⟨v', d', e3, e2, rv⟩
      · rw [e2] at q
        exact q.elim
      · rw [e2] at q
        exact .inl ⟨a, xs, k, v', rfl, hy.int c, e1, e3, fin_fz c q rv⟩
    · exact q.elim
  · exact .inr (h2 F S σ H x y _ dy Q c hx hy q)
/-- {}, for int keys -/
def mDki : ME := fun _ => .ok ⟨true, .dki []⟩
theorem je_dki : JE X W (.Dict [] [] pos) mDki := ⟨pe_imp pe_dnewK fun σ H Q ⟨F, S, c, q⟩ p hp => q F _ (Step.newH c.sub hp) (.ref p) (.inr ⟨rfl, p, rfl, .dki (xs := []) upd_same .nil, hp, c.sub.free hp⟩)⟩
/-- x[e] = v, x a dict held with int keys -/
def diI (i : Nat) (mi mv : MV) : MS := fun S => ofOut S (mv S) fun d => match S[i]? with
  | some (.own (.dki kvs)) => ofOut S (mi S) fun kd => (match kd with
    | .int k => if kvs.length < 16000000 then .nx (S.set i (.own (.dki (iSet k d kvs)))) else .no
    | _ => .no)
  | _ => .no
theorem js_setDki {i : Nat} {x : Str} {p p2 : Pos} {e ev : Expr} {me mv : MV} (hu : X.A.units + 65 < cLine) (h0 : PE X (.Name x p) (tVar i)) (he : JV X W e me) (h : JZ X W ev mv)
    (hs : swapsWithSole [.Subscript (.Name x p) e p2] ev pos.line X.env = pure false := by rfl) (hw : swappedStores [.Subscript (.Name x p) e p2] ev X.env = pure none := by rfl) (h1 : (assignEach [.Subscript (.Name x p) e p2] X.env).map (·.2) = [assign (.Subscript (.Name x p) e p2) X.env] := by rfl)
    (ha : ∀ v, assign (.Subscript (.Name x p) e p2) X.env v = (do
      let ov ← holding [v] (eval (.Name x p) X.env)
      let iv ← holding [v, ov] (eval e X.env)
      standAt p2
      holding [v, ov, iv] (setItem ov iv v)
      release [v, ov, iv] []) := by intro _; rfl) : JS X W (.Assign [.Subscript (.Name x p) e p2] ev pos) (diI i me mv) := ⟨fun C hC => ps_imp (ps_asg h.pe (pg_sub h0 he.pe (set_K hu) ha) hs hw h1) fun D σ H ⟨F, S, b, q⟩ =>
  ⟨F, S, b.cp, Fin.imp (FinS.out b q) fun d F1 H1 t1 z v rv => by
    have b1 := b.step t1
    split at z
    · rename_i kvs hS
      obtain ⟨a, ha, ow, hf⟩ := b1.cp.own i _ hS
      refine ⟨.ref a, ha, F1, S, b1.cp, Fin.imp (FinS.out b1 z) fun k F2 H2 t2 z2 y ry => ?_⟩
      have b2 := b1.step t2
      split at z2
      · rename_i k
        split at z2
        · rename_i hz
          have hv : Vw (kp X) F2 S σ (.ref a) (.dki kvs) := .inr ⟨i, hS, ha⟩
          obtain ⟨a2, xs, ea, hH, r⟩ := hv.dki b2.cp
          cases ea
          obtain ⟨ys, ey, ry2⟩ := RepI.st (k := k) (rv.mono t2.gf) r
          refine ⟨a, xs, k, rfl, ry.int b2.cp, hH, by rw [List.length_map, r.len, sizeLine_eq]; omega, ?_⟩
          rw [ey]
          exact z2 F2 σ _ (b2.mut hS ha (.dki upd_same ry2)) (.refl _)
        · exact z2.elim
      · exact z2.elim
    · exact z.elim⟩⟩
/-! min, sum -/
def minI (n : Int) (ns : List Int) : Int := ns.foldl (fun a b => if b < a then b else a) n
theorem minI_le : ∀ (ns : List Int) (n : Int), minI n ns ≤ n ∧ ∀ y ∈ ns, minI n ns ≤ y
  | [], n => ⟨Int.le_refl n, fun _ h => nomatch h⟩
  | m :: ns, n => by
    obtain ⟨h1, h2⟩ := minI_le ns (if m < n then m else n)
    have e : minI n (m :: ns) = minI (if m < n then m else n) ns := rfl
    rw [e]
    have h3 : (if m < n then m else n) ≤ n ∧ (if m < n then m else n) ≤ m := by split <;> omega
    refine ⟨Int.le_trans h1 h3.1, fun y hy => ?_⟩
    rcases List.mem_cons.mp hy with e | hy
    · rw [e]
      exact Int.le_trans h1 h3.2
    · exact h2 y hy
theorem minI_mem : ∀ (ns : List Int) (n : Int), minI n ns = n ∨ minI n ns ∈ ns
  | [], n => .inl rfl
  | m :: ns, n => by
    have e : minI n (m :: ns) = minI (if m < n then m else n) ns := rfl
    rw [e]
    rcases minI_mem ns (if m < n then m else n) with h | h
    · rw [h]
      split
      · exact .inr List.mem_cons_self
      · exact .inl rfl
    · exact .inr (List.mem_cons_of_mem _ h)
def minLD (as : List D) : Out R := match as with
  | [.lst ds] => (match intsOf ds with
    | some (n :: ns) => fzO (.int (minI n ns))
    | _ => .no)
  | _ => .no
theorem ca_minL (hc : X.calm = true) : CaD X W (.builtin "min") minLD := ⟨_, cr_min hc, fun F S σ H xs dxs Q c hx q => by
  unfold minLD at q
  split at q
  · split at q
    · rename_i ds n ns e
      obtain ⟨v, rfl, h⟩ := hx.one
      obtain ⟨a, vs, rfl, h1, r⟩ := h.lst c
      have e1 := intsOf_eq e
      subst e1
      rw [r.ints] at h1
      refine ⟨a, n :: ns, rfl, .inl (.inl h1), Nat.succ_pos _, fun m hm hle => ?_⟩
      obtain ⟨k1, k2⟩ := minI_le ns n
      have k3 := minI_mem ns n
      have e2 : m = minI n ns := by
        have k4 : minI n ns ∈ n :: ns := by
          rcases k3 with z | z
          · rw [z]
            exact List.mem_cons_self
          · exact List.mem_cons_of_mem _ z
        have a1 := hle (minI n ns) k4
        rcases List.mem_cons.mp hm with z | z
        · rw [z] at a1 ⊢
          omega
        · have := k2 m z
          omega
      rw [e2]
      exact fin_int c q
    · exact q.elim
  · exact q.elim⟩
def sumLD (as : List D) : Out R := match as with
  | [.lst ds] => optO (intsOf ds) fun ns => fzO (.int ns.sum)
  | _ => .no
theorem ca_sumL (hc : X.calm = true) : CaD X W (.builtin "sum") sumLD := ⟨_, cr_sum hc, fun F S σ H xs dxs Q c hx q => by
  unfold sumLD at q
  split at q
  · rename_i ds
    cases e : intsOf ds with
    | none =>
      rw [e] at q
      exact q.elim
    | some ns =>
      rw [e] at q
      have q3 : Fin (kp X) W F H σ (fzO (.int ns.sum)) (kE (kp X) H Q) := q
      obtain ⟨v, rfl, h⟩ := hx.one
      obtain ⟨a, vs, rfl, h1, r⟩ := h.lst c
      have e1 := intsOf_eq e
      subst e1
      rw [r.ints] at h1
      exact ⟨a, ns, rfl, .inl (.inl h1), fin_int c q3⟩
  · exact q.elim⟩
end
end VM

/-! sorted: of a list of tuples of ints, of a dict with int keys; extend; {k: v} -/
namespace SrtO
open PySem PySem.Spec PyProof.Rows L2 Srt
/-- a tuple of ints -/
def IsTI (h : Heap) (v : Value) (ns : List Int) : Prop := ∃ (a : Addr) (o : Obj) (its : List Value) (n : Nat), v = .ref a ∧ h.get? a = some o ∧ o.cls = .type "tuple" ∧ o.data = .seq its.toArray n ∧ IntsAre its ns
theorem IsTI.keeps {h h' : Heap} {v : Value} {ns : List Int} (p : IsTI h v ns) (k : ∀ b o, h.get? b = some o → o.cls = .type "tuple" → h'.get? b = some o) : IsTI h' v ns := by
  obtain ⟨a, o, its, n, e, h1, h2, h3, h4⟩ := p
  exact ⟨a, o, its, n, e, k a o h1 h2, h2, h3, h4⟩
theorem lex_asym : ∀ (x y : List Int), HT.lexLt x y = true → HT.lexLt y x = false
  | [], [], _ => rfl
  | [], _ :: _, _ => rfl
  | _ :: _, [], h => by cases h
  | a :: x, b :: y, h => by
    rw [HT.lexLt_cons] at h ⊢
    by_cases e : a = b
    · subst e
      rw [if_pos rfl] at h ⊢
      exact lex_asym x y h
    · rw [if_neg e] at h
      rw [if_neg (Ne.symm e)]
      have := of_decide_eq_true h
      exact decide_eq_false (by omega)
theorem lex_tr : ∀ (x y z : List Int), HT.lexLt y x = false → HT.lexLt z y = false → HT.lexLt z x = false
  | [], _, [], _, _ => rfl
  | [], [], c :: z, h1, h2 => rfl
  | [], b :: y, c :: z, h1, h2 => rfl
  | a :: x, [], _, h1, _ => by cases h1
  | a :: x, b :: y, [], _, h2 => by cases h2
  | a :: x, b :: y, c :: z, h1, h2 => by
    rw [HT.lexLt_cons] at h1 h2 ⊢
    by_cases e1 : b = a
    · subst e1
      rw [if_pos rfl] at h1
      by_cases e2 : c = b
      · subst e2
        rw [if_pos rfl] at h2 ⊢
        exact lex_tr x y z h1 h2
      · rw [if_neg e2] at h2 ⊢
        exact h2
    · rw [if_neg e1] at h1
      have h1 := of_decide_eq_false h1
      by_cases e2 : c = b
      · subst e2
        rw [if_neg e1]
        exact decide_eq_false h1
      · rw [if_neg e2] at h2
        have h2 := of_decide_eq_false h2
        rw [if_neg (by omega)]
        exact decide_eq_false (by omega)
theorem lex_tot : ∀ (x y : List Int), HT.lexLt x y = false → HT.lexLt y x = false → x = y
  | [], [], _, _ => rfl
  | [], _ :: _, h, _ => by cases h
  | _ :: _, [], _, h => by cases h
  | a :: x, b :: y, h1, h2 => by
    rw [HT.lexLt_cons] at h1 h2
    by_cases e : a = b
    · subst e
      rw [if_pos rfl] at h1 h2
      rw [lex_tot x y h1 h2]
    · rw [if_neg e] at h1
      rw [if_neg (Ne.symm e)] at h2
      have := of_decide_eq_false h1
      have := of_decide_eq_false h2
      omega
theorem swo_tup (k : Value → List Int) : Swo fun v u => HT.lexLt (k v) (k u) := ⟨fun x y h => lex_asym _ _ h, fun x y z h1 h2 => lex_tr _ _ _ h1 h2⟩
section
variable {prog : Program} {w : World} {A : Around} {E : Value → Shared → Prop} {s : Shared}
theorem kat_ints {fin : Bool} {Q : Bool → Shared → Prop} : ∀ {xs ys : List Value} {ns ms : List Int} (i : Nat), IntsAre xs ns → IntsAre ys ms → fin = decide (ns.length < ms.length) → Q (HT.lexLt ns ms) s → PySem.W.KatLex prog w A true fin Q (xs.zip ys) i s
  | [], [], [], [], i, _, _, hf, h => by
    rw [List.zip_nil_left]
    refine PySem.W.kat_nil ?_
    rw [hf]
    exact h
  | [], _ :: _, [], _ :: _, i, _, _, hf, h => by
    rw [List.zip_nil_left]
    refine PySem.W.kat_nil ?_
    rw [hf, decide_eq_true (by rw [List.length_nil, List.length_cons]; omega)]
    exact h
  | _ :: _, [], _ :: _, [], i, _, _, hf, h => by
    rw [List.zip_nil_right]
    refine PySem.W.kat_nil ?_
    rw [hf, decide_eq_false (by rw [List.length_nil]; omega)]
    exact h
  | x :: xs, y :: ys, n :: ns, m :: ms, i, hx, hy, hf, h => by
    cases hx with
    | cons _ t hx =>
    cases hy with
    | cons _ u hy =>
    rw [List.zip_cons_cons]
    refine PySem.W.kat_cons (SeqAt.EqAt.int_int n t m u prog w _ _ ?_)
    rw [HT.lexLt_cons] at h
    refine PySem.W.kat_go (fun e1 => ?_) (fun e1 => ?_)
    · have e : n = m := by simpa using e1
      rw [if_pos e] at h
      refine PySem.W.kat_yes (kat_ints (i + 1) hx hy ?_ h)
      rw [hf, List.length_cons, List.length_cons]
      exact decide_eq_decide.mpr (by omega)
    · have e : ¬ n = m := by simpa using e1
      rw [if_neg e] at h
      exact PySem.W.kat_no (TS.oneLt_ints _ h)
  | [], _, _ :: _, _, _, hx, _, _, _ => nomatch hx
  | _ :: _, _, [], _, _, hx, _, _, _ => nomatch hx
  | _, [], _, _ :: _, _, _, hy, _, _ => nomatch hy
  | _, _ :: _, _, [], _, _, hy, _, _ => nomatch hy
theorem tup_cmp {vs : List Value} {k : Value → List Int} (hp : ∀ v ∈ vs, IsTI s.heap v (k v)) : Cmp prog w A s (tuples' true) (fun p => p.1 ∈ vs) (lt2 fun v u => HT.lexLt (k v) (k u)) := by
  intro p q hm hm'
  have h1 := hp _ hm
  have h2 := hp _ hm'
  show wpAny (model prog w) A (keyLt' (tuples' true) p.1 q.1) (fun r s' => s' = s ∧ r = HT.lexLt (k p.1) (k q.1)) (fun _ _ => False) s
  obtain ⟨a, o, its, n, e, ho, hc, hd, hi⟩ := h1
  obtain ⟨a', o', its', n', e', ho', hc', hd', hi'⟩ := h2
  rw [e, e']
  rw [e] at hi
  rw [e'] at hi'
  refine PySem.W.kat_lt ho hd ho' hd' ?_
  have l1 : its.length = (k (.ref a)).length := hi.length
  have l2 : its'.length = (k (.ref a')).length := hi'.length
  rw [List.size_toArray, List.size_toArray, l1, l2]
  exact kat_ints (xs := its) (ys := its') 0 hi hi' rfl ⟨rfl, rfl⟩
theorem tups_first {h : Heap} : ∀ {vs : List Value} {k : Value → List Int}, (∀ v ∈ vs, IsTI h v (k v) ∧ k v ≠ []) → ∃ fs, PySem.W.KatTups h vs fs ∧ fs.length = vs.length ∧ ∀ f ∈ fs, ∃ x t, f = .int x t
  | [], _, _ => ⟨[], PySem.W.KatTups.nil, rfl, fun _ h => nomatch h⟩
  | v :: vs, k, hp => by
    obtain ⟨fs, h1, h2, h3⟩ := tups_first fun u hu => hp u (List.mem_cons_of_mem _ hu)
    obtain ⟨⟨a, o, its, n, e, ho, hc, hd, hi⟩, hne⟩ := hp v List.mem_cons_self
    cases its with
    | nil =>
      cases hk : k v with
      | nil => exact absurd hk hne
      | cons x r =>
        rw [hk] at hi
        cases hi
    | cons f its =>
      cases hk : k v with
      | nil => exact absurd hk hne
      | cons x r =>
        rw [hk] at hi
        cases hi with
        | cons _ t hi =>
        refine ⟨.int x t :: fs, ?_, by rw [List.length_cons, List.length_cons, h2], fun g hg => ?_⟩
        · rw [e]
          exact PySem.W.KatTups.cons ho hc hd (by rfl) h1
        · rcases List.mem_cons.mp hg with rfl | hg
          · exact ⟨x, t, rfl⟩
          · exact h3 g hg
theorem tups_sortable {a : Addr} {vs : List Value} {k : Value → List Int} (h0 : 0 < vs.length) (hp : ∀ v ∈ vs, IsTI s.heap v (k v) ∧ k v ≠ []) (ha : ∀ o, s.heap.get? a = some o → o.cls ≠ .type "tuple") : SortableO prog w A s a vs fun v u => HT.lexLt (k v) (k u) := by
  intro h' keep
  have hp' : ∀ v ∈ vs, IsTI h' v (k v) ∧ k v ≠ [] := fun v hm => ⟨(hp v hm).1.keeps fun b o e c => keep b o (fun z => by subst z; exact ha o e c) e, (hp v hm).2⟩
  obtain ⟨fs, h1, h2, h3⟩ := tups_first hp'
  refine ⟨tuples' true, fun Q E hq => ?_, tup_cmp fun v hv => (hp' v hv).1⟩
  refine PySem.W.kat_kind (T := .type "int") h1 (by omega) (fun f hm => ?_) (by rfl) ?_
  · obtain ⟨x, t, rfl⟩ := h3 f hm
    exact PySem.W.Looks.now
  · have e : (Value.type "int" != Value.type "tuple") = true := by first | decide +kernel | rfl | decide
    rw [e]
    exact hq
end
end SrtO
namespace VM
open PySem PySem.Spec PyProof.Rows L2
section
variable {X : Cx}
/-- the ints of the tuple that stands at u -/
def kvH (h : Heap) (u : Value) : List Int := match u with
  | .ref a => (match h.get? a with
    | some o => (match o.data with
      | .seq its _ => its.toList.map SrtO.iv
      | _ => [])
    | none => [])
  | _ => []
theorem iv_of : ∀ {its : List Value} {ns : List Int}, IntsAre its ns → its.map SrtO.iv = ns
  | [], [], _ => rfl
  | [], _ :: _, h => nomatch h
  | _ :: _, [], h => nomatch h
  | _ :: its, n :: ns, .cons _ t h => by
    rw [List.map_cons, iv_of h]
    rfl
theorem call_sortT : CallR X (.builtin "sorted") (fun xs H Q => ∃ (a : Addr) (as : List Addr), xs = [V.ref a] ∧ SqL X.K H a (as.map V.ref) ∧ (∀ t ∈ as, ∃ ns : List Int, SqT X.K H t (ns.map V.int) ∧ ns ≠ []) ∧
    ∀ (k : Addr → List Int) (bs : List Addr) (p : Addr), (∀ t ∈ as, ∀ ns : List Int, SqT X.K H t (ns.map V.int) → k t = ns) → bs.Perm as → (bs.map k).Pairwise (fun x y => HT.lexLt y x = false) → H p = none → Q (.ref p) (upd H p (.lst (bs.map V.ref)))) := by
  intro pins s σ H vs us Q I r h
  obtain ⟨a, as, rfl, hs, hn, q⟩ := h
  obtain ⟨its, rv, hl, hz⟩ := I.list hs
  rw [Vals.ref1 r]
  have ei : its = as.map Value.ref := by
    have : ∀ {as : List Addr} {its : List Value}, Vals (as.map V.ref) its → its = as.map Value.ref := fun {as} => by
      induction as with
      | nil =>
        intro its h
        cases h
        rfl
      | cons x as ih =>
        intro its h
        cases h with
        | cons h1 h2 =>
          rw [ih h2]
          cases h1
          rfl
    exact this rv
  subst ei
  have hz' : (as.map Value.ref).length ≤ sizeLine := by rw [List.length_map]; rw [List.length_map] at hz; exact hz
  have ti : ∀ t ∈ as, ∀ ns : List Int, SqT X.K H t (ns.map V.int) → SrtO.IsTI s.heap (.ref t) ns ∧ kvH s.heap (.ref t) = ns := fun t ht ns h => by
    obtain ⟨its, r1, ⟨o, ho, hc, n, hd⟩, _⟩ := I.tuple h
    have hi : IntsAre its ns := r1.ints
    refine ⟨⟨t, o, its, n, rfl, ho, hc, hd, hi⟩, ?_⟩
    unfold kvH
    simp only [ho, hd]
    exact iv_of hi
  have hp : ∀ v ∈ as.map Value.ref, SrtO.IsTI s.heap v (kvH s.heap v) ∧ kvH s.heap v ≠ [] := fun v hv => by
    obtain ⟨t, ht, rfl⟩ := List.mem_map.mp hv
    obtain ⟨ns, h1, h2⟩ := hn t ht
    obtain ⟨h3, h4⟩ := ti t ht ns h1
    rw [h4]
    exact ⟨h3, h2⟩
  obtain ⟨ob, ho, hc, n, hd⟩ := hl.isList
  refine SrtO.sorted_ordT (SrtO.swo_tup (kvH s.heap)) (.inl rfl) ho hc hd hz' (fun h2 h₁ a' ha' kk => SrtO.tups_sortable (s := { s with heap := h₁ }) (by omega) (fun v hv => ⟨(hp v hv).1.keeps fun b o e _ => (kk b o e).2, (hp v hv).2⟩) fun o e => ?_) fun h' hk out h1 h2 => ?_
  · have e' : some o = some (seqObj "list" (as.map Value.ref).toArray 0) := e.symm.trans ha'
    cases e'
    intro c
    exact absurd (Value.type.inj c) (by decide)
  · obtain ⟨bs, eb, pb⟩ : ∃ bs : List Addr, out = bs.map Value.ref ∧ bs.Perm as := by
      have hperm : out.Perm (as.map Value.ref) := h2.perm
      have key : ∀ {out : List Value} {as : List Addr}, out.Perm (as.map Value.ref) → ∃ bs : List Addr, out = bs.map Value.ref := fun {out as} hp => by
        have hall : ∀ v ∈ out, ∃ b, v = Value.ref b := fun v hv => by
          obtain ⟨t, _, rfl⟩ := List.mem_map.mp (hp.mem_iff.mp hv)
          exact ⟨t, rfl⟩
        clear hp
        induction out with
        | nil => exact ⟨[], rfl⟩
        | cons v out ih =>
          obtain ⟨b, rfl⟩ := hall v List.mem_cons_self
          obtain ⟨bs, e⟩ := ih fun u hu => hall u (List.mem_cons_of_mem _ hu)
          exact ⟨b :: bs, by rw [e]; rfl⟩
      obtain ⟨bs, e⟩ := key hperm
      refine ⟨bs, e, ?_⟩
      rw [e] at hperm
      have h3 := hperm.map (fun v : Value => match v with
        | .ref a => a
        | _ => 0)
      rw [List.map_map, List.map_map] at h3
      have e3 : ∀ l : List Addr, l.map ((fun v : Value => match v with
        | .ref a => a
        | _ => 0) ∘ Value.ref) = l := fun l => by
        induction l with
        | nil => rfl
        | cons x l ih => rw [List.map_cons, ih]; rfl
      rw [e3, e3] at h3
      exact h3
    subst eb
    have hoL : (h'.push (seqObj "list" (as.map Value.ref).toArray 0)).get? h'.objs.size = some (seqObj "list" (as.map Value.ref).toArray 0) := Heap.get?_push_size _ rfl
    obtain ⟨ep, he'⟩ := PyProof.Rows.sortedHeap_at (vs := as.map Value.ref) (out := (bs.map Value.ref).toArray) hoL
    have I1 : Inv X pins σ H { s with heap := h' } := I.kept (t' := s.toks) hk
    have hlen : (bs.map V.ref).length ≤ sizeLine := by
      rw [List.length_map, pb.length_eq]
      rw [List.length_map] at hz
      exact hz
    have hq := q (fun t => kvH s.heap (.ref t)) bs h'.objs.size (fun t ht ns h => (ti t ht ns h).2) pb (by
      have h3 : (bs.map Value.ref).Pairwise (fun u v => HT.lexLt (kvH s.heap v) (kvH s.heap u) = false) := h1
      rw [List.pairwise_map] at h3 ⊢
      exact h3) (I1.hok.fresh (Nat.le_refl _))
    refine ⟨.ref _, upd H h'.objs.size (.lst (bs.map V.ref)), I1.laid (t' := s.toks) (fun b o e => ?_) (Nat.le_refl _) ⟨hlen, bs.map Value.ref, ep, vals_refs bs, he'⟩, rfl, hq⟩
    have hb : b < h'.objs.size := Heap.lt_size e
    rw [PyProof.Rows.sortedHeap_old (Nat.ne_of_lt hb) (Heap.lt_size (Heap.get?_push_of_some _ e))]
    exact Heap.get?_push_of_some _ e
end
end VM

/-! sorted over the readings; extend; {k: v} -/
namespace VM
open PySem PySem.Spec PyProof.Rows L2
section
variable {X : Cx}
theorem call_sortK (hcalm : X.calm = true) : CallR X (.builtin "sorted") (fun xs H Q => ∃ (a : Addr) (ks : List (Int × V)), xs = [.ref a] ∧ H a = some (.dK (kI ks)) ∧
    ∀ (ys : List Int) (p : Addr), ys.Perm (ks.map (·.1)) → ys.Pairwise (· ≤ ·) → H p = none → Q (.ref p) (upd H p (.lst (ys.map V.int)))) := by
  intro pins s σ H xs us Q I r q
  obtain ⟨a, ps, ex, ha, q⟩ := q
  subst ex
  obtain ⟨u, eu, rx⟩ := vals1 r
  subst eu
  cases rx
  obtain ⟨z, lo, vs, rel, dd⟩ := dk_of I.hok ha
  obtain ⟨ep, hat⟩ := dd.dictAt
  have hkeys : vs.map (·.1) = (ps.map (·.1)).map Sum.inl := by
    rw [← rel.keys, List.map_map, List.map_map]
    rfl
  have hl : vs.length = (ps.map (·.1)).length := by
    have e := congrArg List.length hkeys
    rw [List.length_map, List.length_map] at e
    exact e
  have h16 : vs.length ≤ sizeLine := by rw [← rel.length]; exact z
  generalize ps.map (·.1) = ks at hkeys hl q
  refine Calls.call_function_entry PyProof.Rows.kind_sorted PyProof.Rows.plain_sorted PyProof.Rows.entry_sorted (PyProof.Rows.args_sorted1 _) ?_
  unfold Builtin.«sorted»
  refine wpAny_bind (m := checkCount "sorted" 1 1 _) (wpAny_pure ?_)
  refine wpAny_bind (PySem.W.kdu_collect (A := X.A.in1) (PySem.W.kdl_dict (knd := mixKind X.prog X.w) (kvs := vs) (ep := ep) lo) (I.ok.hd hcalm) hat h16 fun h' tk acc hk hacc => ?_)
  have hal : acc.toList.length = ks.length := by rw [Array.length_toList, hacc.1, hl]
  have hS : IntsAre acc.toList ks := ints_each hal fun j v e => by
    obtain ⟨k, x, e1, e2⟩ := hacc.2 j v (by rw [← Array.getElem?_toList]; exact e)
    have e3 : (vs.map (·.1))[j]? = some k := by rw [List.getElem?_map, e1]; rfl
    rw [hkeys, List.getElem?_map] at e3
    cases e4 : ks[j]? with
    | none => rw [e4] at e3; cases e3
    | some y =>
      rw [e4] at e3
      have e5 : Sum.inl y = k := Option.some.inj e3
      subst e5
      rcases keyIs_shape (show keyIs (Sum.inl y) v = true from e2) with ⟨i, t, ek, ev⟩ | ⟨z, t, ek, ev⟩
      · cases ek
        exact ⟨y, t, rfl, ev⟩
      · cases ek
  have hz : acc.toList.length ≤ sizeLine := by rw [hal, ← hl]; exact h16
  refine wpAny_bind (wpAny_newList ?_ hz)
  have hoL : (h'.push (seqObj "list" acc.toList.toArray 0)).get? h'.objs.size = some (seqObj "list" acc.toList.toArray 0) := Heap.get?_push_size _ rfl
  show wpAny _ _ _ _ _ { s with heap := h'.push (seqObj "list" acc.toList.toArray 0), toks := tk }
  refine wpAny_bind (wpAny_holding (wpAny_call_entry PyProof.Rows.slot_list_sort ⟨_, hoL, rfl⟩ PyProof.Rows.entry_list_sort (SrtO.list_sort_ord SrtO.swo_int hoL hz (fun h2 => SrtO.ints_sortable hS h2) fun out h1 h2 => ⟨_, rfl, ?_⟩) (PyProof.Rows.args_list_sort _)))
  refine wpAny_pure ⟨_, rfl, ?_⟩
  obtain ⟨k1, k2, k3⟩ := SrtO.ints_out hS h1 h2
  obtain ⟨ep', he'⟩ := PyProof.Rows.sortedHeap_at (vs := acc.toList) (out := out.toArray) hoL
  have hlen : ((out.map SrtO.iv).map V.int).length ≤ sizeLine := by
    rw [List.length_map, k2.length_eq, ← hal]
    exact hz
  have I1 : Inv X pins σ H { s with heap := h', toks := tk } := I.kept hk
  refine ⟨.ref _, upd H h'.objs.size (.lst ((out.map SrtO.iv).map V.int)), I1.laid (t' := tk) (fun b o e => ?_) (Nat.le_refl _) ⟨hlen, out, ep', vals_of_ints k1, he'⟩, rfl, q _ _ k2 k3 (I1.hok.fresh (Nat.le_refl _))⟩
  have hb : b < h'.objs.size := Heap.lt_size e
  rw [PyProof.Rows.sortedHeap_old (Nat.ne_of_lt hb) (Heap.lt_size (Heap.get?_push_of_some _ e))]
  exact Heap.get?_push_of_some _ e
end
/-! over the readings -/
def leT (a b : List Int) : Bool := !HT.lexLt b a
def sortT (nss : List (List Int)) : List (List Int) := nss.mergeSort leT
theorem sortT_perm (nss : List (List Int)) : (sortT nss).Perm nss := List.mergeSort_perm nss _
theorem sortT_sorted (nss : List (List Int)) : (sortT nss).Pairwise (fun x y => HT.lexLt y x = false) := by
  have h := List.pairwise_mergeSort (le := leT) (fun a b c h1 h2 => by
    unfold leT at *
    rw [Bool.not_eq_true'] at *
    exact SrtO.lex_tr _ _ _ h1 h2) (fun a b => by
    unfold leT
    cases h1 : HT.lexLt b a with
    | false => rfl
    | true => rw [SrtO.lex_asym _ _ h1]; rfl) nss
  exact h.imp fun {a b} h => by
    unfold leT at h
    rw [Bool.not_eq_true'] at h
    exact h
theorem sortT_uniq : ∀ {a b : List (List Int)}, a.Perm b → a.Pairwise (fun x y => HT.lexLt y x = false) → b.Pairwise (fun x y => HT.lexLt y x = false) → a = b
  | [], b, p, _, _ => (List.nil_perm.mp p).symm
  | x :: a, [], p, _, _ => absurd p.length_eq (by simp)
  | x :: a, y :: b, p, h1, h2 => by
    rw [List.pairwise_cons] at h1 h2
    have hx : x ∈ y :: b := p.mem_iff.mp List.mem_cons_self
    have hy : y ∈ x :: a := p.mem_iff.mpr List.mem_cons_self
    have e : x = y := by
      rcases List.mem_cons.mp hx with e | hx
      · exact e
      · rcases List.mem_cons.mp hy with e | hy
        · exact e.symm
        · exact SrtO.lex_tot _ _ (h2.1 x hx) (h1.1 y hy)
    subst e
    rw [sortT_uniq (List.Perm.cons_inv p) h1.2 h2.2]
theorem sortT_eq {ns ms : List (List Int)} (p : ms.Perm ns) (s : ms.Pairwise (fun x y => HT.lexLt y x = false)) : ms = sortT ns := sortT_uniq (p.trans (sortT_perm ns).symm) s (sortT_sorted ns)
abbrev tiD (ns : List Int) : D := .tup (ns.map .int)
def tupsOf : List D → Option (List (List Int))
  | [] => some []
  | .tup xs :: ds => (match intsOf xs with
    | some (n :: ns) => (tupsOf ds).map fun r => (n :: ns) :: r
    | _ => none)
  | _ :: _ => none
theorem tupsOf_eq : ∀ {ds : List D} {nss : List (List Int)}, tupsOf ds = some nss → ds = nss.map VM.tiD ∧ ∀ ns ∈ nss, ns ≠ []
  | [], nss, h => by
    cases h
    exact ⟨rfl, fun _ h => nomatch h⟩
  | d :: ds, nss, h => by
    unfold tupsOf at h
    split at h
    · cases ‹_ :: _ = []›
    · rename_i xs ds' he
      cases he
      split at h
      · rename_i n ns hi
        cases e : tupsOf ds with
        | none =>
          rw [e] at h
          cases h
        | some r =>
          rw [e] at h
          cases h
          obtain ⟨h1, h2⟩ := tupsOf_eq e
          refine ⟨by rw [h1, intsOf_eq hi]; rfl, fun x hx => ?_⟩
          rcases List.mem_cons.mp hx with rfl | hx
          · exact List.cons_ne_nil _ _
          · exact h2 x hx
      · cases h
    · cases h
def sortedDI (as : List D) : Out R := match as with
  | [.dki kvs] => owO (.lst ((sortI (kvs.map Prod.fst)).map .int))
  | [.lst ds] => (match intsOf ds with
    | some ns => owO (.lst ((sortI ns).map .int))
    | none => optO (tupsOf ds) fun nss => owO (.lst ((sortT nss).map VM.tiD)))
  | as => sortedD as
theorem RepL.tups {K : Kp} {F : Hp} : ∀ {vs : List V} {nss : List (List Int)}, RepL K F vs (nss.map VM.tiD) → ∃ as : List Addr, vs = as.map V.ref ∧ as.length = nss.length ∧ ∀ i : Nat, ∀ t ns, as[i]? = some t → nss[i]? = some ns → SqX K F t (ns.map V.int)
  | _, [], h => by
    cases h
    exact ⟨[], rfl, rfl, fun i t ns e => by simp at e⟩
  | _, n :: nss, h => by
    cases h with
    | cons h1 h2 =>
      obtain ⟨as, e1, e2, e3⟩ := RepL.tups h2
      cases h1 with
      | tup hs hl =>
        rename_i a vs'
        refine ⟨a :: as, by rw [e1]; rfl, by rw [List.length_cons, List.length_cons, e2], fun i t ns et en => ?_⟩
        cases i with
        | zero =>
          cases et
          cases en
          rw [hl.ints] at hs
          exact hs
        | succ i => exact e3 i t ns (by simpa using et) (by simpa using en)
section
variable {X : Cx} {W : WX} {pos : Pos}
theorem ca_sortedI (hc : X.calm = true) : CaD X W (.builtin "sorted") sortedDI := by
  obtain ⟨r, h1, h2⟩ := (ca_sorted (X := X) (W := W)).ex
  refine ⟨_, (call_sortK hc).or (call_sortT.or h1), fun F S σ H xs dxs Q c hx q => ?_⟩
  have fin : ∀ (ns : List Int), Fin (kp X) W F H σ (owO (.lst ((sortI ns).map .int))) (kE (kp X) H Q) → ∀ (ns' : List Int) (p : Addr), ns'.Perm ns → ns'.Pairwise (· ≤ ·) → H p = none → Q (.ref p) (upd H p (.lst (ns'.map V.int))) := fun ns q ns' p k1 k2 hp => by
    rw [sortI_eq k1 k2]
    exact fin_lst c q (.of_ints _) p hp
  unfold sortedDI at q
  split at q
  · obtain ⟨v, rfl, h⟩ := hx.one
    obtain ⟨a, ps, rfl, e1, r⟩ := h.dki c
    refine .inl ⟨a, ps, rfl, e1, ?_⟩
    rw [r.keys]
    exact fin _ q
  · rename_i ds
    split at q
    · rename_i ns e
      refine .inr (.inr (h2 F S σ H xs _ Q c hx ?_))
      show Fin (kp X) W F H σ (optO (intsOf ds) fun ns => owO (.lst ((sortI ns).map .int))) (kE (kp X) H Q)
      rw [e]
      exact q
    · rename_i e
      cases e2 : tupsOf ds with
      | none =>
        rw [e2] at q
        exact q.elim
      | some nss =>
        rw [e2] at q
        have q3 : Fin (kp X) W F H σ (owO (.lst ((sortT nss).map VM.tiD))) (kE (kp X) H Q) := q
        obtain ⟨e3, e4⟩ := tupsOf_eq e2
        subst e3
        obtain ⟨v, rfl, h⟩ := hx.one
        obtain ⟨a, vs, rfl, k1, r⟩ := h.lst c
        obtain ⟨as, e5, e6, e7⟩ := r.tups
        subst e5
        have hix : ∀ t ∈ as, ∃ ns ∈ nss, SqX (kp X) F t (ns.map V.int) := fun t ht => by
          obtain ⟨i, hi⟩ := List.mem_iff_getElem?.mp ht
          have hl : i < nss.length := by rw [← e6]; exact (List.getElem?_eq_some_iff.mp hi).1
          have hn := List.getElem?_eq_getElem hl
          exact ⟨nss[i], List.getElem_mem hl, e7 i t _ hi hn⟩
        refine .inr (.inl ⟨a, as, rfl, .inl (.inl k1), fun t ht => ?_, fun k bs p hk hp hs hn => ?_⟩)
        · obtain ⟨ns, h5, h6⟩ := hix t ht
          exact ⟨ns, gr_t c.sub h6.t, e4 ns h5⟩
        · have ek : as.map k = nss := by
            refine List.ext_getElem? fun i => ?_
            rw [List.getElem?_map]
            cases hi : as[i]? with
            | none =>
              have := List.getElem?_eq_none_iff.mp hi
              rw [List.getElem?_eq_none (by omega)]
              rfl
            | some t =>
              have hl : i < nss.length := by rw [← e6]; exact (List.getElem?_eq_some_iff.mp hi).1
              have hn := List.getElem?_eq_getElem hl
              rw [hn]
              have := hk t (List.mem_of_getElem? hi) nss[i] (gr_t c.sub (e7 i t _ hi hn).t)
              rw [← this]
              rfl
          have eb : bs.map k = sortT nss := sortT_eq (by rw [← ek]; exact hp.map k) hs
          rw [← eb] at q3
          have rb : RepL (kp X) F (bs.map V.ref) ((bs.map k).map VM.tiD) := by
            have : ∀ {l : List Addr}, (∀ t ∈ l, t ∈ as) → RepL (kp X) F (l.map V.ref) ((l.map k).map VM.tiD) := fun {l} => by
              induction l with
              | nil => exact fun _ => .nil
              | cons t l ih =>
                intro hl
                obtain ⟨ns, h5, h6⟩ := hix t (hl t List.mem_cons_self)
                have e8 := hk t (hl t List.mem_cons_self) ns (gr_t c.sub h6.t)
                refine .cons ?_ (ih fun x hx => hl x (List.mem_cons_of_mem _ hx))
                rw [e8]
                exact .tup h6 (.of_ints ns)
            exact this fun t ht => hp.mem_iff.mp ht
          exact fin_lst c q3 rb p hn
  · exact .inr (.inr (h2 F S σ H xs _ Q c hx q))
/-- x.extend(e), x a list held -/
def exS (i : Nat) (m : MV) : MS := fun S => match S[i]? with
  | some (.own (.lst ds)) => ofOut S (m S) fun d => (match d with
    | .lst es => if ds.length + es.length < 16000000 then .nx (S.set i (.own (.lst (ds ++ es)))) else .no
    | _ => .no)
  | _ => .no
theorem js_ext {i : Nat} {x : Str} {p apos cpos : Pos} {e : Expr} {m : MV} (h0 : PE X (.Name x p) (tVar i)) (h : JZ X W e m)
    (hbase : attributeBase (.Name x p) "extend" X.env (eval (.Name x p) X.env) = eval (.Name x p) X.env := by rfl)
    (hfew : ((backTo cpos (starEach [e] X.env)).all (fun x => !x.1) && (backToKw cpos (keywordEach [] X.env)).all (fun x => x.1.isSome)
      && decide (([e] : List Expr).length + ([] : List Keyword).length + (if ([] : List Keyword).isEmpty then 0 else 1) < 30)) = true := by rfl)
    (hline : (apos.endLine == cpos.line) = true := by rfl) (hs : starEach [e] X.env = (false, eval e X.env) :: starEach [] X.env := by rfl) (hplain : (backTo cpos (starEach [] X.env)).any (·.1) = false := by rfl)
    (hsw : swapsWith (.Call (.Attribute (.Name x p) "extend" apos) [e] [] cpos) none pos.line X.env = pure false := by rfl) :
    JS X W (.Expr (.Call (.Attribute (.Name x p) "extend" apos) [e] [] cpos) pos) (exS i m) := ⟨fun C hC => ps_imp (ps_expr (pe_bm PySem.F.plainAttrs_list PySem.F.slot_list_extend PySem.F.type_list_extend mt_extend h0 (pa_cons h.pe pa_nil hs) hbase hfew hline hs hplain) hsw) fun D σ H ⟨F, S, b, q⟩ => by
  unfold exS at q
  split at q
  · rename_i ds hS
    obtain ⟨a, ha, ow, hf⟩ := b.cp.own i _ hS
    cases ow with
    | lst hH r =>
      refine ⟨.ref a, ha, .inl ⟨rfl, _, .inl (.inl hH)⟩, F, S, b.cp, Fin.imp (FinS.out b q) fun d F1 H1 t z v rv => ?_⟩
      split at z
      · rename_i es
        split at z
        · rename_i hz
          have b1 := b.step t
          cases rv with
          | lst hb rl =>
            refine ⟨a, _, _, _, rfl, rfl, t.gh _ _ hH, b1.cp.sub _ _ hb, by rw [r.len, rl.len, sizeLine_eq]; omega, ?_⟩
            exact z F1 σ _ (b1.mut hS ha (.lst upd_same ((r.mono t.gf).app rl))) (.refl _)
        · exact z.elim
      · exact z.elim
  · exact q.elim⟩
/-- {e: v}, e an int -/
def dk1D (k d : D) : Out R := match k with
  | .int i => .ok ⟨true, .dki [(i, d)]⟩
  | _ => .no
def mDk1 (mk mv : MV) : ME := fun S => (mk S).bind fun k => (mv S).bind fun d => dk1D k d
theorem je_dk1 {k v : Expr} {mk mv : MV} (hk : JZ X W k mk) (hv : JZ X W v mv) : JE X W (.Dict [some k] [v] pos) (mDk1 mk mv) := ⟨pe_imp (pe_disp (pps_cons hk.pe hv.pe pps_nil) (by rfl) (by rfl) (by simp) (Nat.le_of_ble_eq_true rfl)) fun σ H Q ⟨F, S, c, q⟩ p hp => by
  have t0 : Step F H F (upd H p (.dK [])) := Step.newH c.sub hp
  unfold mDk1 at q
  refine ⟨F, S, c.step t0, ?_⟩
  cases hm : mk S with
  | no =>
    rw [hm] at q
    exact q
  | exc x fs =>
    rw [hm] at q
    exact fun F1 H1 d t e => q F1 H1 d (t0.trans t) e
  | ok kd =>
    rw [hm] at q
    intro F1 H1 t1 kv rk
    refine ⟨F1, S, (c.step t0).step t1, ?_⟩
    cases hn : mv S with
    | no =>
      have q : Fin (kp X) W F H σ ((mv S).bind fun d => dk1D kd d) (fun r F' H' => ∀ v, RepR (kp X) F' H' H v r → Q v H') := q
      rw [hn] at q
      exact q
    | exc x fs =>
      have q : Fin (kp X) W F H σ ((mv S).bind fun d => dk1D kd d) (fun r F' H' => ∀ v, RepR (kp X) F' H' H v r → Q v H') := q
      rw [hn] at q
      exact fun F2 H2 d t e => q F2 H2 d ((t0.trans t1).trans t) e
    | ok d =>
      have q : Fin (kp X) W F H σ ((mv S).bind fun d => dk1D kd d) (fun r F' H' => ∀ v, RepR (kp X) F' H' H v r → Q v H') := q
      rw [hn] at q
      intro F2 H2 t2 vv rv
      have t12 := t1.trans t2
      cases kd with
      | int i =>
        cases rk
        have q : ∀ F' H', Step F H F' H' → ∀ v, RepR (kp X) F' H' H v ⟨true, .dki [(i, d)]⟩ → Q v H' := q
        have hpF : F2 p = none := by
          cases e : F2 p with
          | none => rfl
          | some o =>
            rcases t12.new p o e with z | z
            · rw [c.sub.free hp] at z
              cases z
            · rw [upd_same] at z
              cases z
        have hp2 : H2 p = some (.dK []) := t12.gh p _ upd_same
        refine ⟨hp2, [(Sum.inl i, vv)], rfl, Nat.le_of_ble_eq_true rfl, ?_⟩
        have st : Step F H F2 (upd H2 p (.dK (kI [(i, vv)]))) := ⟨t12.gf, fun b o e => by
          have hb : b ≠ p := ne_of_none e hp
          rw [upd_ne hb]
          exact t12.gh b o (by rw [upd_ne hb]; exact e), fun b o e => by
          have hb : b ≠ p := ne_of_none e hpF
          rw [upd_ne hb]
          exact t2.sub b o e, fun b o e => by
          have hb : b ≠ p := ne_of_none e hpF
          rcases t12.new b o e with z | z
          · exact .inl z
          · rw [upd_ne hb] at z
            exact .inr z⟩
        exact q F2 _ st (.ref p) (.inr ⟨rfl, p, rfl, .dki (xs := [(i, vv)]) upd_same (.cons rv .nil), hp, hpF⟩)
      | _ => exact q.elim⟩
end
end VM

/-! evaluation of int dicts, min, sum, sorted, extend, one step a lemma -/
namespace VM
open PySem L2
def SOut.dii (sl : Option Sl) (ok o : Out D) (S : Ss) (i : Nat) : SOut := ofOut S o fun d => match sl with
  | some (.own (.dki kvs)) => ofOut S ok fun kd => (match kd with
    | .int k => if kvs.length < 16000000 then .nx (S.set i (.own (.dki (iSet k d kvs)))) else .no
    | _ => .no)
  | _ => .no
def SOut.ex (sl : Option Sl) (o : Out D) (S : Ss) (i : Nat) : SOut := match sl with
  | some (.own (.lst ds)) => ofOut S o fun d => (match d with
    | .lst es => if ds.length + es.length < 16000000 then .nx (S.set i (.own (.lst (ds ++ es)))) else .no
    | _ => .no)
  | _ => .no
def Out.dk1 (a b : Out D) : Out R := a.bind fun k => b.bind fun d => dk1D k d
def minO (o : Option (List Int)) : Out R := match o with
  | some (n :: ns) => .ok ⟨false, .int (minI n ns)⟩
  | _ => .no
section
variable {S : Ss} {v u : MV} {i : Nat} {d e : D} {kvs : List (Int × D)} {neg : Bool} {ds es : List D} {k n : Int} {ns : List Int}
theorem ev_dki : mDki S = .ok ⟨true, .dki []⟩ := rfl
theorem ev_dii : diI i v u S = SOut.dii S[i]? (v S) (u S) S i := rfl
theorem dii_ok : SOut.dii (some (.own (.dki kvs))) (.ok (.int k)) (.ok d) S i = if kvs.length < 16000000 then .nx (S.set i (.own (.dki (iSet k d kvs)))) else .no := rfl
theorem ev_dk1 : mDk1 v u S = Out.dk1 (v S) (u S) := rfl
theorem dk1_ok : Out.dk1 (.ok (.int k)) (.ok d) = .ok ⟨true, .dki [(k, d)]⟩ := rfl
theorem d_inI : inDI neg (.int k) (.dki kvs) = .ok ⟨false, .bl (xor neg (iGet k kvs).isSome)⟩ := rfl
theorem d_inI_dic {z : List (D × D)} : inDI neg e (.dic z) = inDX neg e (.dic z) := rfl
theorem d_inI_lst {z : List D} : inDI neg e (.lst z) = inD neg e (.lst z) := rfl
theorem d_inI_tup {z : List D} : inDI neg e (.tup z) = inD neg e (.tup z) := rfl
theorem d_inI_str {z : List Nat} : inDI neg e (.str z) = inD neg e (.str z) := rfl
theorem d_lenI : lenDI [.dki kvs] = .ok ⟨false, .int kvs.length⟩ := rfl
theorem d_lenI_dic {z : List (D × D)} : lenDI [.dic z] = lenDX [.dic z] := rfl
theorem d_ixI : ixDI (.dki kvs) (.int k) = optO (iGet k kvs) fzO := rfl
theorem d_ixI_dic {z : List (D × D)} : ixDI (.dic z) e = ixDX (.dic z) e := rfl
theorem d_lenI_lst {z : List D} : lenDI [.lst z] = lenD [.lst z] := rfl
theorem d_ixI_lst {z : List D} : ixDI (.lst z) e = ixD (.lst z) e := rfl
theorem d_lenI_tup {z : List D} : lenDI [.tup z] = lenD [.tup z] := rfl
theorem d_ixI_tup {z : List D} : ixDI (.tup z) e = ixD (.tup z) e := rfl
theorem d_lenI_str {z : List Nat} : lenDI [.str z] = lenD [.str z] := rfl
theorem d_ixI_str {z : List Nat} : ixDI (.str z) e = ixD (.str z) e := rfl
theorem d_lenI_scr {z : List Int} : lenDI [.scr z] = lenD [.scr z] := rfl
theorem d_ixI_scr {z : List Int} : ixDI (.scr z) e = ixD (.scr z) e := rfl
theorem d_minL : minLD [.lst ds] = minO (intsOf ds) := rfl
theorem minO_s : minO (some (n :: ns)) = .ok ⟨false, .int (minI n ns)⟩ := rfl
theorem d_sumL : sumLD [.lst ds] = optO (intsOf ds) fun ns => .ok ⟨false, .int ns.sum⟩ := rfl
theorem d_sortK : sortedDI [.dki kvs] = .ok ⟨true, .lst ((sortI (kvs.map Prod.fst)).map .int)⟩ := rfl
theorem ev_ex : exS i v S = SOut.ex S[i]? (v S) S i := rfl
theorem ex_ok : SOut.ex (some (.own (.lst ds))) (.ok (.lst es)) S i = if ds.length + es.length < 16000000 then .nx (S.set i (.own (.lst (ds ++ es)))) else .no := rfl
end
theorem sortedDI_ints (ns : List Int) : sortedDI [.lst (ns.map D.int)] = .ok ⟨true, .lst ((sortI ns).map .int)⟩ := by
  show (match intsOf (ns.map D.int) with
    | some ns => owO (.lst ((sortI ns).map .int))
    | none => optO (tupsOf (ns.map D.int)) fun nss => owO (.lst ((sortT nss).map VM.tiD))) = _
  rw [intsOf_map]
  rfl
theorem tupsOf_map : ∀ (nss : List (List Int)), (∀ ns ∈ nss, ns ≠ []) → tupsOf (nss.map VM.tiD) = some nss
  | [], _ => rfl
  | ns :: nss, h => by
    have ih := tupsOf_map nss fun x hx => h x (List.mem_cons_of_mem _ hx)
    have h0 := h ns List.mem_cons_self
    cases ns with
    | nil => exact absurd rfl h0
    | cons n ns =>
      show (match intsOf ((n :: ns).map D.int) with
        | some (n :: ns) => (tupsOf (nss.map VM.tiD)).map fun r => (n :: ns) :: r
        | _ => none) = _
      rw [intsOf_map, ih]
      rfl
theorem sortedDI_tups (nss : List (List Int)) (h : ∀ ns ∈ nss, ns ≠ []) : sortedDI [.lst (nss.map VM.tiD)] = .ok ⟨true, .lst ((sortT nss).map VM.tiD)⟩ := by
  show (match intsOf (nss.map VM.tiD) with
    | some ns => owO (.lst ((sortI ns).map .int))
    | none => optO (tupsOf (nss.map VM.tiD)) fun nss => owO (.lst ((sortT nss).map VM.tiD))) = _
  cases nss with
  | nil => simp [intsOf, sortI, sortT, owO]
  | cons a nss =>
    have e : intsOf ((a :: nss).map VM.tiD) = none := rfl
    rw [e, tupsOf_map _ h]
    rfl
end VM

/-! min of a list of tuples of ints -/
namespace VM
open PySem PySem.Spec PyProof.Rows L2
def pyI (ns : List Int) : PyData := .tuple (ns.map .int)
theorem tiD_py (ns : List Int) : (tiD ns).py = pyI ns := by
  unfold pyI
  rw [D.py]
  congr 1
  induction ns with
  | nil => rw [List.map_nil, D.pyAll]; rfl
  | cons n ns ih => rw [List.map_cons, D.pyAll, ih, D.py]; rfl
theorem toks_ints : ∀ (ns ms : List Int), PyProof.Rows.lexLt PyProof.Rows.itemOrd (PySem.W.keyToksAll (ns.map .int)) (PySem.W.keyToksAll (ms.map .int)) = HT.lexLt ns ms
  | [], [] => by
    rw [List.map_nil, PySem.W.keyToksAll, lex_self]
    rfl
  | [], m :: ms => by
    rw [List.map_nil, List.map_cons, PySem.W.keyToksAll, PySem.W.keyToksAll, lex_diff (by simp)]
    rfl
  | n :: ns, [] => by
    rw [List.map_nil, List.map_cons, PySem.W.keyToksAll, PySem.W.keyToksAll, lex_diff (by simp)]
    rfl
  | n :: ns, m :: ms => by
    rw [List.map_cons, List.map_cons, PySem.W.keyToksAll, PySem.W.keyToksAll, PySem.W.keyToks, PySem.W.keyToks, lex_self, HT.lexLt_cons]
    show PyProof.Rows.lexLt PyProof.Rows.itemOrd (Sum.inl n :: PySem.W.keyToksAll (ns.map .int)) (Sum.inl m :: PySem.W.keyToksAll (ms.map .int)) = _
    by_cases e : n = m
    · subst e
      rw [lex_self, if_pos rfl]
      exact toks_ints ns ms
    · rw [lex_diff (fun z => e (Sum.inl.inj z)), if_neg e]
      rfl
theorem dataLt_ints (ns ms : List Int) : PySem.W.dataLt (pyI ns) (pyI ms) = HT.lexLt ns ms := by
  unfold PySem.W.dataLt pyI
  rw [PySem.W.keyToks, PySem.W.keyToks]
  exact toks_ints ns ms
theorem alike_ints : ∀ ns ms : List Int, PySem.W.alike (pyI ns) (pyI ms) = true := fun ns ms => by
  unfold pyI
  rw [PySem.W.alike]
  induction ns generalizing ms with
  | nil => cases ms <;> simp [PySem.W.alikeAll]
  | cons n ns ih =>
    cases ms with
    | nil => simp [PySem.W.alikeAll]
    | cons m ms =>
      rw [List.map_cons, List.map_cons, PySem.W.alikeAll, PySem.W.alike, ih]
      rfl
def minT (x : List Int) (xs : List (List Int)) : List Int := xs.foldl (fun a y => if HT.lexLt y a then y else a) x
theorem minD_ints (x : List Int) (xs : List (List Int)) : PySem.W.minD (pyI x) (xs.map pyI) = pyI (minT x xs) := by
  unfold PySem.W.minD minT
  induction xs generalizing x with
  | nil => rfl
  | cons y xs ih =>
    rw [List.map_cons, List.foldl_cons, List.foldl_cons, dataLt_ints]
    by_cases h : HT.lexLt y x = true
    · rw [if_pos h, if_pos h]
      exact ih y
    · rw [if_neg h, if_neg h]
      exact ih x
theorem depth_ints (ns : List Int) : (pyI ns).depth ≤ 1 := by
  unfold pyI
  rw [PyData.depth]
  have : PyData.depthAll (ns.map .int) = 0 := by
    induction ns with
    | nil => rfl
    | cons n ns ih => rw [List.map_cons, PyData.depthAll, ih, PyData.depth]; rfl
  omega
theorem depthAll_ints (xs : List (List Int)) : PyData.depthAll (xs.map pyI) ≤ 1 := by
  induction xs with
  | nil => simp [PyData.depthAll]
  | cons x xs ih =>
    rw [List.map_cons, PyData.depthAll]
    have := depth_ints x
    omega
theorem mapI_inj : ∀ {ns ms : List Int}, ns.map PyData.int = ms.map PyData.int → ns = ms
  | [], [], _ => rfl
  | [], _ :: _, h => by cases h
  | _ :: _, [], h => by cases h
  | n :: ns, m :: ms, h => by
    rw [List.map_cons, List.map_cons] at h
    obtain ⟨h1, h2⟩ := List.cons.inj h
    rw [PyData.int.inj h1, mapI_inj h2]
theorem pyI_inj {ns ms : List Int} (h : pyI ns = pyI ms) : ns = ms := mapI_inj (PyData.tuple.inj h)
theorem can_ints (ns : List Int) : (pyI ns).canLay0 = true := by
  unfold pyI
  rw [PyData.canLay0]
  induction ns with
  | nil => rw [List.map_nil, PyData.canLayAll0]
  | cons n ns ih => rw [List.map_cons, PyData.canLayAll0, ih, PyData.canLay0]; rfl
theorem py_tups (nss : List (List Int)) : D.pyAll (nss.map tiD) = nss.map pyI := by
  induction nss with
  | nil => rw [List.map_nil, D.pyAll]; rfl
  | cons n ns ih => rw [List.map_cons, D.pyAll, ih, tiD_py]; rfl
section
variable {X : Cx} {W : WX} {pos : Pos}
/-- the index of the least -/
theorem call_minT (hc : X.calm = true) (hu : X.A.units + 65 < cLine) : CallR X (.builtin "min") (fun xs H Q => ∃ (a : Addr) (vs : List V) (x : List Int) (nss : List (List Int)), xs = [V.ref a] ∧ SqL X.K H a vs ∧ DpAll X.K H vs ((x :: nss).map pyI) ∧
    ∀ (i : Nat) (v : V), vs[i]? = some v → (x :: nss)[i]? = some (minT x nss) → Q v H) := by
  intro pins s σ H xs us Q I r h
  obtain ⟨a, vs, x, nss, rfl, hs, hd, q⟩ := h
  obtain ⟨its, rv, hl, hz⟩ := I.list hs
  rw [Vals.ref1 r]
  obtain ⟨as, ra⟩ := Dp.readsAll I _ _ _ hd rv
  have ra2 : ReadsAll s.heap its.toArray.toList (pyI x :: nss.map pyI) as := by simpa using ra
  refine PySem.W.min_list_data (I.ok.hd hc) hl.isList ra2 ⟨fun p hp q hq => ?_, fun p hp => ?_⟩ ?_ fun i u h' tk bs hi hr hk => ?_
  · rw [← List.map_cons] at hp hq
    obtain ⟨n1, _, rfl⟩ := List.mem_map.mp hp
    obtain ⟨n2, _, rfl⟩ := List.mem_map.mp hq
    exact alike_ints n1 n2
  · rw [← List.map_cons] at hp
    obtain ⟨n1, _, rfl⟩ := List.mem_map.mp hp
    unfold pyI
    simp
  · have := depthAll_ints (x :: nss)
    rw [List.map_cons] at this
    omega
  · have hi' : its[i]? = some u := by simpa using hi
    have hil := (List.getElem?_eq_some_iff.mp hi').1
    have hvl : i < vs.length := by rw [rv.length]; exact hil
    have hvi := List.getElem?_eq_getElem hvl
    have ruv : RelV vs[i] u := by
      have : ∀ {vs : List V} {its : List Value} (i : Nat) {v : V} {u : Value}, Vals vs its → vs[i]? = some v → its[i]? = some u → RelV v u := fun {vs} => by
        induction vs with
        | nil => intro its i v u _ e; simp at e
        | cons w vs ih =>
          intro its i v u h e1 e2
          cases h with
          | cons h1 h2 =>
            cases i with
            | zero =>
              cases e1
              cases e2
              exact h1
            | succ i => exact ih i h2 (by simpa using e1) (by simpa using e2)
      exact this i rv hvi hi'
    have hnl : i < (x :: nss).length := by
      have := PySem.W.readsAll_len ra2
      simp only [List.size_toArray] at this
      rw [List.length_cons, List.length_map] at this
      rw [List.length_cons]
      omega
    have hni := List.getElem?_eq_getElem hnl
    obtain ⟨cs, rc, _⟩ := PySem.W.readsAll_at ra i u hi'
    have e1 : ((x :: nss).map pyI).getD i .none = pyI (x :: nss)[i] := by
      rw [List.getD_eq_getElem?_getD, List.getElem?_map, hni]
      rfl
    rw [e1] at rc
    have e2 := PySem.SeqAt.Reads.unique _ _ _ _ _ (can_ints _) (PySem.W.reads_keeps hk rc) hr
    rw [minD_ints] at e2
    have e3 := pyI_inj e2
    exact ⟨vs[i], H, I.kept (t' := tk) hk, ruv, q i vs[i] hvi (by rw [hni, e3])⟩
def minLPD (as : List D) : Out R := match as with
  | [.lst ds] => (match tupsOf ds with
    | some (x :: xs) => fzO (tiD (minT x xs))
    | _ => minLD [.lst ds])
  | as => minLD as
theorem ca_minLP (hc : X.calm = true) (hu : X.A.units + 65 < cLine) : CaD X W (.builtin "min") minLPD := by
  obtain ⟨r, h1, h2⟩ := (ca_minL (X := X) (W := W) hc).ex
  refine ⟨_, (call_minT hc hu).or h1, fun F S σ H xs dxs Q c hx q => ?_⟩
  unfold minLPD at q
  split at q
  · rename_i ds
    split at q
    · rename_i x nss e
      obtain ⟨e1, _⟩ := tupsOf_eq e
      subst e1
      obtain ⟨v, rfl, h⟩ := hx.one
      obtain ⟨a, vs, rfl, k1, r1⟩ := h.lst c
      have hfl : D.flatAll ((x :: nss).map tiD) = true := by
        have : ∀ l : List (List Int), D.flatAll (l.map tiD) = true := fun l => by
          induction l with
          | nil => rw [List.map_nil, D.flatAll]
          | cons n l ih =>
            rw [List.map_cons, D.flatAll, ih, D.flat]
            have : ∀ z : List Int, D.flatAll (z.map D.int) = true := fun z => by
              induction z with
              | nil => rw [List.map_nil, D.flatAll]
              | cons y z ih => rw [List.map_cons, D.flatAll, ih, D.flat]; rfl
            rw [this]
            rfl
        exact this _
      have dp := (r1.mono c.sub).dp hfl
      rw [py_tups] at dp
      refine .inl ⟨a, vs, x, nss, rfl, .inl (.inl k1), dp, fun i v hv hm => ?_⟩
      obtain ⟨d, hd, rd⟩ := r1.get' hv
      rw [List.getElem?_map, hm] at hd
      cases hd
      exact fin_fz c q rd
    · exact .inr (h2 F S σ H xs _ Q c hx q)
  · exact .inr (h2 F S σ H xs _ Q c hx q)
end
theorem minLPD_tups (x : List Int) (nss : List (List Int)) (h : ∀ ns ∈ x :: nss, ns ≠ []) : minLPD [.lst ((x :: nss).map tiD)] = .ok ⟨false, tiD (minT x nss)⟩ := by
  show (match tupsOf ((x :: nss).map tiD) with
    | some (x :: xs) => fzO (tiD (minT x xs))
    | _ => minLD [.lst ((x :: nss).map tiD)]) = _
  rw [tupsOf_map _ h]
  rfl
end VM

/-! exceptions: made, raised, caught, held as values -/
namespace VM
open PySem PySem.Spec PyProof.Rows L2

/-! ### what the written part says of a class of exceptions -/
def oexB (K : PySem.W.Frag) (C : Addr) : Bool := match K.lookup C with
  | some ⟨.type "type", _, .cls cd, sl⟩ => (match cd.mro, sl.toList with
    | .ref C' :: bm, [_, _, _, _, some (.builtin n), _] => (C' == C && n == "ValueError.__new__") && (!cd.hasDel && (cd.hasDict && PySem.HandSPX.refsVE bm))
    | _, _ => false)
  | _ => false
theorem oexB_ok {K : PySem.W.Frag} {C : Addr} (h : oexB K C = true) : ∃ nm q N bs bm sn sub ab col dd k0 k1 k2 k3 k5, K.lookup C = some (excClassObj nm q C N bs bm true sn sub ab col dd k0 k1 k2 k3 k5 "ValueError.__new__") ∧ PySem.HandSPX.refsVE bm = true := by
  unfold oexB at h
  split at h
  · rename_i dd cd sl ho
    split at h
    · rename_i C2 bm k0 k1 k2 k3 n k5 hm hs
      simp only [Bool.and_eq_true, beq_iff_eq, Bool.not_eq_true'] at h
      obtain ⟨⟨e1, e2⟩, e3, e4, e5⟩ := h
      obtain ⟨nm, bs, mro, ns, qn, hd, sn, sub, ab, col, dl⟩ := cd
      dsimp only at hm e3 e4
      subst e1 e2 e3 e4 hm
      have hq : sl = #[k0, k1, k2, k3, some (.builtin "ValueError.__new__"), k5] := by
        obtain ⟨l⟩ := sl
        simp only at hs
        rw [hs]
      subst hq
      exact ⟨nm, qn, ns, bs, bm, sn, sub, ab, col, dd, k0, k1, k2, k3, k5, ho, e5⟩
    · cases h
  · cases h
/-- a class of exceptions: made, raised, its instances read and asked -/
structure Xcl (K : PySem.W.Frag) (C : Addr) : Prop where
  o : OexC K C
  x : XfC K C
  cl : (PySem.W.clsIn K C).isSome = true
  ha : PySem.W.findIn K (.ref C) "__class__" = some (some (.builtin "object.__class__"))
  hn : PySem.W.specialIn K (.builtin "object.__class__") "__get__" = some (some (.builtin "getset_descriptor.__get__"))
  ht : PySem.W.takesIn K (.builtin "object.__class__") = some true
  hm : PySem.W.mroIn K C (.type "object") = some true
def dq {α : Type} [DecidableEq α] (a b : α) : Bool := decide (a = b)
def xclB (K : PySem.W.Frag) (c : Str) : Bool :=
  (oexB K (He.ga K c) && (xfB K (He.ga K c) && (PySem.W.keepIn K (.ref (He.ga K c)) && (PySem.W.clsIn K (He.ga K c)).isSome))) &&
  ((dq (PySem.W.findIn K (.ref (He.ga K c)) "__setattr__") (some (some (.builtin "object.__setattr__"))) && (dq (PySem.W.subIn K (.ref (He.ga K c)) (.type "BaseException")) (some true) && dq (PySem.W.typeIn K (.ref (He.ga K c))) (some (.type "type")))) &&
  (dq (PySem.W.findIn K (.ref (He.ga K c)) "__class__") (some (some (.builtin "object.__class__"))) && (dq (PySem.W.specialIn K (.builtin "object.__class__") "__get__") (some (some (.builtin "getset_descriptor.__get__"))) &&
  (dq (PySem.W.takesIn K (.builtin "object.__class__")) (some true) && dq (PySem.W.mroIn K (He.ga K c) (.type "object")) (some true)))))
theorem dq_ok {α : Type} [DecidableEq α] {a b : α} (h : dq a b = true) : a = b := of_decide_eq_true h
theorem xclB_ok {K : PySem.W.Frag} {c : Str} (h : xclB K c = true) : Xcl K (He.ga K c) := by
  unfold xclB at h
  simp only [Bool.and_eq_true] at h
  obtain ⟨⟨a1, a2, a3, a4⟩, ⟨b1, b2, b3⟩, c1, c2, c3, c4⟩ := h
  exact ⟨⟨oexB_ok a1, dq_ok b1, dq_ok b2, dq_ok b3, a3⟩, xfB_ok a2, a4, dq_ok c1, dq_ok c2, dq_ok c3, dq_ok c4⟩
/-- its __init__ -/
structure Xin (K : PySem.W.Frag) (c : Str) : Prop where
  i : PySem.W.findIn K (.ref (He.ga K c)) "__init__" = some (some (.ref (He.ma K (He.ga K c) "__init__")))
  t : PySem.W.typeIn K (.ref (He.ma K (He.ga K c) "__init__")) = some (.type "function")
def xinB (K : PySem.W.Frag) (c : Str) : Bool := dq (PySem.W.findIn K (.ref (He.ga K c)) "__init__") (some (some (.ref (He.ma K (He.ga K c) "__init__")))) && dq (PySem.W.typeIn K (.ref (He.ma K (He.ga K c) "__init__"))) (some (.type "function"))
theorem xinB_ok {K : PySem.W.Frag} {c : Str} (h : xinB K c = true) : Xin K c := by
  unfold xinB at h
  rw [Bool.and_eq_true] at h
  exact ⟨dq_ok h.1, dq_ok h.2⟩

/-! ### the __init__ that stores its arguments -/
/-- fields, the newest first -/
def zipR {α : Type} (fs : List Str) (us : List α) : List (Str × α) := (fs.zip us).reverse
def spX (C : Addr) (fs : List Str) : Sp := fun vs H Q _ => ∃ a us, vs = V.ref a :: us ∧ us.length = fs.length ∧ H a = some (exo a C none) ∧ ∀ dx, H dx = none → dx ≠ a → Q .non (upd (upd H dx (exd dx (zipR fs us))) a (exo a C (some dx)))
section
variable {P : Program} {w : World} {K : PySem.W.Frag} {mg : Str → Option Value} {base : Heap}
theorem upd_swap {H : Hp} {a d : Addr} {o u v : HO} (h : d ≠ a) : upd (upd (upd H d o) a u) d v = upd (upd H d v) a u := by
  funext b
  by_cases hd : b = d
  · subst hd
    rw [upd_same, upd_ne h, upd_same]
  · rw [upd_ne hd]
    by_cases ha : b = a
    · subst ha
      rw [upd_same, upd_same]
    · rw [upd_ne ha, upd_ne ha, upd_ne hd, upd_ne hd]
theorem xini1 {x qual f1 p0 p1 : Str} {params : Arguments} {body : List Stmt} {scope : Scope} {f C : Addr} {fd : FuncData} {k : Nat} (F : FunD K x qual params body scope [] [] f fd) (S : FnScope [p0, p1] [p0, p1] scope) (T : OexC K C) (n1 : PySem.W.findIn K (.ref C) f1 = some none)
    (hb : ∀ (cdv : Value) (A : Around) (outer : List Env) (s : Shared) (H : Hp) (E : XK), PSs (cxOf (L2.CX P w) P w K mg base [p0, p1] qual scope f cdv A outer s H E) body (tOst K f1 (tVar 0) (tVar 1))) :
    FnOk P w K mg base (L2.CX P w) (k + 1) f fd [p0, p1] (spX C [f1]) := by
  refine F.ok S (fun vs H Q E ⟨a, us, e, l, _⟩ => by rw [e, List.length_cons, l]; rfl) fun cdv A outer s H vs Q E hr ⟨a, us, e, l, ha, q⟩ => ⟨_, hb cdv A outer s H E, ?_⟩
  obtain ⟨u, rfl⟩ : ∃ u, us = [u] := by
    match us, l with
    | [u], _ => exact ⟨u, rfl⟩
  subst e
  exact ⟨u, rfl, .ref a, rfl, a, C, rfl, T, n1, .inl ⟨ha, fun dx hn hd => q dx hn hd⟩⟩
theorem xini2 {x qual f1 f2 p0 p1 p2 : Str} {params : Arguments} {body : List Stmt} {scope : Scope} {f C : Addr} {fd : FuncData} {k : Nat} (F : FunD K x qual params body scope [] [] f fd) (S : FnScope [p0, p1, p2] [p0, p1, p2] scope) (T : OexC K C) (n1 : PySem.W.findIn K (.ref C) f1 = some none) (n2 : PySem.W.findIn K (.ref C) f2 = some none)
    (hb : ∀ (cdv : Value) (A : Around) (outer : List Env) (s : Shared) (H : Hp) (E : XK), PSs (cxOf (L2.CX P w) P w K mg base [p0, p1, p2] qual scope f cdv A outer s H E) body (tSeq (tOst K f1 (tVar 0) (tVar 1)) (tOst K f2 (tVar 0) (tVar 2)))) :
    FnOk P w K mg base (L2.CX P w) (k + 1) f fd [p0, p1, p2] (spX C [f1, f2]) := by
  refine F.ok S (fun vs H Q E ⟨a, us, e, l, _⟩ => by rw [e, List.length_cons, l]; rfl) fun cdv A outer s H vs Q E hr ⟨a, us, e, l, ha, q⟩ => ⟨_, hb cdv A outer s H E, ?_⟩
  obtain ⟨u, v, rfl⟩ : ∃ u v, us = [u, v] := by
    match us, l with
    | [u, v], _ => exact ⟨u, v, rfl⟩
  subst e
  refine ⟨u, rfl, .ref a, rfl, a, C, rfl, T, n1, .inl ⟨ha, fun dx hn hd => ?_⟩⟩
  refine ⟨v, rfl, .ref a, rfl, a, C, rfl, T, n2, .inr ⟨dx, [(f1, u)], upd_same, by rw [upd_ne hd, upd_same], Nat.le_of_ble_eq_true rfl, ?_⟩⟩
  show Q .non (upd (upd (upd H dx (exd dx [(f1, u)])) a (exo a C (some dx))) dx (exd dx ((f2, v) :: [(f1, u)])))
  rw [upd_swap hd]
  exact q dx hn hd
end
/-! ### picks of a row -/
def pick {α : Type} (ix : List Nat) (l : List α) : List α := ix.filterMap fun i => l[i]?
theorem pick_vals {R : V → Value → Prop} {l : List V} {l' : List Value} (h : Paired R l l') : ∀ ix : List Nat, Paired R (pick ix l) (pick ix l')
  | [] => .nil
  | i :: ix => by
    have t := pick_vals h ix
    have e : l.length = l'.length := paired_len h
    unfold pick
    rw [List.filterMap_cons, List.filterMap_cons]
    have key : ∀ {l : List V} {l' : List Value} (j : Nat), Paired R l l' → (l[j]? = none ∧ l'[j]? = none) ∨ ∃ a b, l[j]? = some a ∧ l'[j]? = some b ∧ R a b := by
      intro l l' j hp
      induction hp generalizing j with
      | nil => exact .inl ⟨by simp, by simp⟩
      | cons r q ih =>
        rename_i a b as bs
        cases j with
        | zero => exact .inr ⟨a, b, rfl, rfl, r⟩
        | succ j => simpa using ih j
    rcases key i h with ⟨e1, e2⟩ | ⟨a, b, e1, e2, r⟩
    · rw [e1, e2]
      exact t
    · rw [e1, e2]
      exact .cons r t
theorem repL_get {K : Kp} {F : Hp} {l : List V} {ds : List D} (h : RepL K F l ds) (i : Nat) : (l[i]? = none ∧ ds[i]? = none) ∨ ∃ a d, l[i]? = some a ∧ ds[i]? = some d ∧ Rep K F a d := by
  cases hi : ds[i]? with
  | none => exact .inl ⟨List.getElem?_eq_none (by rw [h.len]; exact List.getElem?_eq_none_iff.mp hi), rfl⟩
  | some d =>
    obtain ⟨v, h1, h2⟩ := h.get hi
    exact .inr ⟨v, d, h1, rfl, h2⟩
theorem pick_rep {K : Kp} {F : Hp} {l : List V} {ds : List D} (h : RepL K F l ds) : ∀ ix : List Nat, RepL K F (pick ix l) (pick ix ds)
  | [] => .nil
  | i :: ix => by
    have t := pick_rep h ix
    unfold pick
    rw [List.filterMap_cons, List.filterMap_cons]
    rcases repL_get h i with ⟨e1, e2⟩ | ⟨a, d, e1, e2, r⟩
    · rw [e1, e2]
      exact t
    · rw [e1, e2]
      exact .cons r t
/-- a call of n values and the keywords ks, defaults its: how its parameters are bound (ix: where in the values, the keywords' values, the defaults each stands) -/
structure KwB (K : PySem.W.Frag) (fd : FuncData) (ps : List Str) (n : Nat) (ks : List Str) (ix : List Nat) (dvs : List V) (its : List Value) : Prop where
  to : ∀ (s : Shared) (us ws : List Value), K.In s.heap → us.length = n → ws.length = ks.length → BindsTo s fd ⟨us, ks.zip ws⟩ (ps.zip (pick ix (us ++ (ws ++ its))))
  rel : Vals dvs its
theorem kwB0 {K : PySem.W.Frag} {x qual : Str} {params : Arguments} {body : List Stmt} {scope : Scope} {kws : List (Str × V)} {f : Addr} {fd : FuncData} {ps ks : List Str} {n : Nat} {ix : List Nat} (F : FunD K x qual params body scope [] kws f fd)
    (h : ∀ (kV doc pm : Value) (an : Option Addr) (cdv ct : Value) (us ws : List Value), us.length = n → ws.length = ks.length → bindArgs (PySem.W.fnOf x qual params body scope .none kV doc pm an cdv ct) ⟨us, ks.zip ws⟩ = pure (ps.zip (pick ix (us ++ (ws ++ []))))) : KwB K fd ps n ks ix [] [] := by
  obtain ⟨oc, od, dV, kV, doc, pm, an, cdv, ct, osl, rfl, lk, hcd, hD, hK⟩ := F.ex
  rcases hD with ⟨_, rfl⟩ | ⟨e, _⟩
  · exact ⟨fun s us ws _ l1 l2 => .of_eq (h kV doc pm an cdv ct us ws l1 l2), .nil⟩
  · exact absurd rfl e
theorem kwBd {K : PySem.W.Frag} {x qual : Str} {params : Arguments} {body : List Stmt} {scope : Scope} {dvs : List V} {kws : List (Str × V)} {f : Addr} {fd : FuncData} {ps ks : List Str} {n : Nat} {ix : List Nat} (F : FunD K x qual params body scope dvs kws f fd) (hd : dvs ≠ [])
    (h : ∀ (T : Addr) (kV doc pm : Value) (an : Option Addr) (cdv ct : Value) (us its ws : List Value), us.length = n → its.length = dvs.length → ws.length = ks.length →
      ∃ k, bindArgs (PySem.W.fnOf x qual params body scope (.ref T) kV doc pm an cdv ct) ⟨us, ks.zip ws⟩ = seqItems? (.ref T) >>= k ∧ k (some its.toArray) = pure (ps.zip (pick ix (us ++ (ws ++ its))))) : ∃ its, KwB K fd ps n ks ix dvs its := by
  obtain ⟨oc, od, dV, kV, doc, pm, an, cdv, ct, osl, rfl, lk, hcd, hD, hK⟩ := F.ex
  rcases hD with ⟨e, _⟩ | ⟨_, T, o, its, m, rfl, lT, oT, rT⟩
  · exact absurd e hd
  · refine ⟨its, ⟨fun s us ws X l1 l2 => ?_, rT⟩⟩
    obtain ⟨k, e1, e2⟩ := h T kV doc pm an cdv ct us its ws l1 rT.length.symm l2
    exact BindsTo.of_looks fun M => by rw [e1]; exact looks_items X lT oT (.of_pure e2)
/-! ### arguments by keywords -/
structure JK (X : Cx) (W : WX) (kws : List Keyword) (m : MA) : Prop where
  pk : PK X kws (tA (kp X) W m)
section
variable {X : Cx} {W : WX} {pos : Pos}
theorem pk_imp {kws : List Keyword} {t t' : TA} (h : PK X kws t) (f : ∀ σ H Q, t' σ H Q → t σ H Q) : PK X kws t' := ⟨fun pos pins s σ H Q I q => h.run pos pins s σ H Q I (f σ H Q q)⟩
theorem jk_nil : JK X W [] aNil := ⟨pk_imp pk_nil fun σ H Q ⟨F, S, c, q⟩ => Fin.now c.sub q [] .nil⟩
theorem jk_cons {e : Expr} {kws : List Keyword} {kpos : Pos} {nm : Option Str} {m : MV} {ms : MA} (h : JZ X W e m) (t : JK X W kws ms) : JK X W (⟨nm, e, kpos⟩ :: kws) (aCons m ms) :=
  ⟨pk_imp (pk_cons h.pe t.pk) fun σ H Q ⟨F, S, c, q⟩ => ⟨F, S, c, Fin.imp (Fin.bind q) fun d F1 H1 t1 z v rp => ⟨F1, S, c.step t1, Fin.imp (Fin.bind z) fun ds F2 H2 t2 z2 vs rps => Fin.now t2.sub z2 _ (.cons (rp.mono t2.gf) rps)⟩⟩⟩
/-! ### raise -/
theorem del_new {H : Hp} {a d : Addr} {o u v : HO} {w : HO} (ha : H a = none) (hd : d ≠ a) : upd (del (upd (upd H d u) a v) a) d w = upd H d w := by
  funext b
  by_cases hb : b = d
  · subst hb
    rw [upd_same, upd_same]
  · rw [upd_ne hb, upd_ne hb]
    by_cases hc : b = a
    · subst hc
      rw [del_same, ha]
    · rw [del_ne hc, upd_ne hc, upd_ne hb]
theorem repF_zip {K : Kp} {F : Hp} : ∀ {fs : List Str} {us : List V} {ds : List D}, RepL K F us ds → RepF K F (fs.zip us) (fs.zip ds)
  | [], _, _, _ => .nil
  | _ :: _, _, _, .nil => .nil
  | f :: fs, _, _, .cons h t => .cons h (repF_zip t)
theorem repF_app {K : Kp} {F : Hp} : ∀ {a b : List (Str × V)} {x y : List (Str × D)}, RepF K F a x → RepF K F b y → RepF K F (a ++ b) (x ++ y)
  | _, _, _, _, .nil, s => s
  | _, _, _, _, .cons h t, s => .cons h (repF_app t s)
theorem repF_rev {K : Kp} {F : Hp} : ∀ {a : List (Str × V)} {x : List (Str × D)}, RepF K F a x → RepF K F a.reverse x.reverse
  | _, _, .nil => .nil
  | _, _, .cons h t => by
    rw [List.reverse_cons, List.reverse_cons]
    exact repF_app (repF_rev t) (.cons h .nil)
theorem repF_zipR {K : Kp} {F : Hp} {fs : List Str} {us : List V} {ds : List D} (h : RepL K F us ds) : RepF K F (zipR fs us) (zipR fs ds) := repF_rev (repF_zip h)
/-- a class of exceptions with its fields -/
structure Xk (P : Program) (w : World) (K : PySem.W.Frag) (mg : Str → Option Value) (base : Heap) (k : Nat) (c : Str) (fs : List Str) : Prop where
  cl : Xcl K (He.ga K c)
  ini : Xin K c
  mg_ : mg c = some (.ref (He.ga K c))
  fn : ∃ fd ps, FnOk P w K mg base (L2.CX P w) k (He.ma K (He.ga K c) "__init__") fd ps (spX (He.ga K c) fs) ∧ Binds K fd ps []
theorem passes_none : Passes (L2.CX X.prog X.w) X (fun _ _ _ => False) := passes_call takes_none5 fun _ _ _ _ h => h
def raS (c : Str) (fs : List Str) (ma : MA) : MS := fun S => ofOut S (ma S) fun ds => .exc S c (zipR fs ds)
theorem js_raise {k j : Nat} {c : Str} {fs : List Str} {p pos' : Pos} {e : Expr} {es : List Expr} {ma : MA} (E : Xk X.prog X.w X.K X.mg X.base k c fs) (hr : Room j X.A) (hk : k + 1 ≤ j) (hg : Gl X c) (tk : Takes X W) (hc : X.calm = true) (ha : JA X W (e :: es) ma) (hl : ALen ma fs.length) (h9 : decide (fs.length ≤ 1000) = true := by rfl)
    (hdb : (c == ("__debug__" : Str)) = false := by decide) (he : starEach (e :: es) X.env = (false, eval e X.env) :: starEach es X.env := by rfl) (hpl : (backTo pos (starEach es X.env)).any (·.1) = false := by rfl) :
    JS X W (.Raise (some (.Call (.Name c p) (e :: es) [] pos)) none pos') (raS c fs ma) := ⟨fun C hC => by
  obtain ⟨fd, ps, F1, hb⟩ := E.fn
  refine ps_imp (ps_raise hc tk (pmk_oex (dvs := []) (ds := []) E.cl.o E.ini.i E.ini.t F1 (hr.mono hk) hb .nil passes_none hg E.mg_ ha.pa hdb he hpl)) fun D σ H ⟨F, S, b, q⟩ => ?_
  refine ⟨F, S, b.cp, ?_⟩
  unfold raS at q
  have q2 := FinS.out b q
  cases hm : ma S with
  | no =>
    rw [hm] at q2
    exact q2
  | exc x ys =>
    rw [hm] at q2
    exact q2
  | ok ds =>
    rw [hm] at q2
    intro F2 H2 t2 vs rp
    have hlen := hl.len S ds hm
    have hv : vs.length = fs.length := rp.len.trans hlen
    have h9 := of_decide_eq_true h9
    refine ⟨by omega, fun a hn => ⟨a, vs ++ [], rfl, by rw [List.append_nil]; exact hv, upd_same, fun dx hdx hne => ?_⟩⟩
    have e1 : upd (upd (upd H2 a (exo a (He.ga X.K c) none)) dx (exd dx (zipR fs (vs ++ [])))) a (exo a (He.ga X.K c) (some dx)) = upd (upd H2 dx (exd dx (zipR fs vs))) a (exo a (He.ga X.K c) (some dx)) := by
      rw [List.append_nil]
      funext y
      by_cases ya : y = a
      · subst ya
        rw [upd_same, upd_same]
      · rw [upd_ne ya, upd_ne ya]
        by_cases yd : y = dx
        · subst yd
          rw [upd_same, upd_same]
        · rw [upd_ne yd, upd_ne yd, upd_ne ya]
    have hd2 : H2 dx = none := by
      rw [upd_ne hne] at hdx
      exact hdx
    refine ⟨rfl, dx, zipR fs vs, by rw [e1, upd_same], by rw [e1, upd_ne hne, upd_same], hd2, ?_⟩
    rw [e1, del_new (o := .own 0) hn hne]
    have st : Step F2 H2 (upd F2 dx (.xd (zipR fs vs))) (upd H2 dx (.xd (zipR fs vs))) := .newF t2.sub hd2
    exact q2 F2 H2 t2 _ σ _ (some dx) ((b.step t2).step st) st.gf (.inr ⟨dx, _, rfl, upd_same, repF_zipR (rp.mono st.gf)⟩)⟩
/-! ### an exception as a value -/
/-- what a caught exception is -/
def xoO (a C : Addr) (d : Option Addr) : HO := .ext (XoP a C d)
theorem exo_xop {a C : Addr} {d : Option Addr} : ∃ φ, exo a C d = .ext φ ∧ ∀ h, φ h → XoP a C d h := ⟨_, rfl, fun h ⟨t, e⟩ => ⟨_, _, e, ⟨rfl, rfl⟩, rfl⟩⟩
def tMkV (C : Addr) (fs : List Str) (ta : TA) : TE := fun σ H Q => ta σ H fun vs H1 => vs.length = fs.length ∧ ∀ a dx, H1 a = none → H1 dx = none → dx ≠ a → Q (.ref a) (upd (upd H1 dx (exd dx (zipR fs vs))) a (exo a C (some dx)))
theorem pe_xnew {k : Nat} {c : Str} {fs : List Str} {p : Pos} {e : Expr} {es : List Expr} {ta : TA} (E : Xk X.prog X.w X.K X.mg X.base k c fs) (hr : Room (k + 1) X.A) (hg : Gl X c) (h9 : fs.length ≤ 1000) (ha : PA X (e :: es) ta)
    (hdb : (c == ("__debug__" : Str)) = false := by decide) (he : starEach (e :: es) X.env = (false, eval e X.env) :: starEach es X.env := by rfl) (hpl : (backTo pos (starEach es X.env)).any (·.1) = false := by rfl) :
    PE X (.Call (.Name c p) (e :: es) [] pos) (tMkV (He.ga X.K c) fs ta) := by
  obtain ⟨fd, ps, F1, hb⟩ := E.fn
  refine ⟨fun pins s σ H Q I h => ?_⟩
  obtain ⟨nm, q, N, bs, bm, sn, sub, ab, col, dd, k0, k1, k2, k3, k5, hC, hbm⟩ := E.cl.o.cls
  refine wpAny_Call_Name_kw (ld_glob I hg E.mg_ ?_ hdb)
  refine PySem.W.callWith_K (h₀ := X.base) I.ok.mod.kin E.cl.o.kC (thn (ha.run pos pins s σ H _ I h) fun us s1 ⟨vs, H1, I1, r1, hz, q1⟩ => ⟨I1.kIn, ?_⟩) he hpl
  show wpAny _ _ (call (.ref (He.ga X.K c)) us) _ _ _
  obtain ⟨hp, g, dr, tk1, os⟩ := s1
  have sz : hp.objs.size ≤ hp.objs.size + 1 := Nat.le_succ _
  have n1 : H1 (hp.objs.size + 1) = none := I1.hok.fresh sz
  have kp1 : ∀ b o, hp.get? b = some o → ((hp.push (PySem.W.kdv_tup us)).push (PySem.HandSPX.excO (He.ga X.K c) hp.objs.size)).get? b = some o := fun b o z => Heap.get?_push_of_some _ (Heap.get?_push_of_some _ z)
  have g1 : ((hp.push (PySem.W.kdv_tup us)).push (PySem.HandSPX.excO (He.ga X.K c) hp.objs.size)).get? (hp.objs.size + 1) = some (PySem.HandSPX.excO (He.ga X.K c) hp.objs.size) := by heap_get
  have I2 : Inv X pins σ (upd H1 (hp.objs.size + 1) (exo (hp.objs.size + 1) (He.ga X.K c) none)) ⟨(hp.push (PySem.W.kdv_tup us)).push (PySem.HandSPX.excO (He.ga X.K c) hp.objs.size), g, dr, tk1, os⟩ := I1.laid (t' := tk1) kp1 sz (exo_ok g1)
  have r2 : Vals (V.ref (hp.objs.size + 1) :: vs) (Value.ref (hp.objs.size + 1) :: us) := .cons rfl r1
  have hq : spX (He.ga X.K c) fs (V.ref (hp.objs.size + 1) :: vs) (upd H1 (hp.objs.size + 1) (exo (hp.objs.size + 1) (He.ga X.K c) none)) (fun v H2 => v = .non ∧ Q (.ref (hp.objs.size + 1)) H2) (fun _ _ _ => False) := by
    refine ⟨_, vs, rfl, hz, upd_same, fun dx hdx hne => ⟨rfl, ?_⟩⟩
    have hd2 : H1 dx = none := by
      rw [upd_ne hne] at hdx
      exact hdx
    have := q1 _ dx n1 hd2 hne
    have e1 : upd (upd (upd H1 (hp.objs.size + 1) (exo (hp.objs.size + 1) (He.ga X.K c) none)) dx (exd dx (zipR fs vs))) (hp.objs.size + 1) (exo (hp.objs.size + 1) (He.ga X.K c) (some dx)) = upd (upd H1 dx (exd dx (zipR fs vs))) (hp.objs.size + 1) (exo (hp.objs.size + 1) (He.ga X.K c) (some dx)) := by
      funext y
      by_cases ya : y = hp.objs.size + 1
      · subst ya
        rw [upd_same, upd_same]
      · rw [upd_ne ya, upd_ne ya]
        by_cases yd : y = dx
        · subst yd
          rw [upd_same, upd_same]
        · rw [upd_ne yd, upd_ne yd, upd_ne ya]
    rw [e1]
    exact this
  have hl : (Value.ref (hp.objs.size + 1) :: us).length = ps.length := by
    have z := r2.length
    rw [F1.len _ _ _ _ hq] at z
    exact z.symm
  have hus : us.length ≤ sizeLine := by
    rw [← Paired.length r1, sizeLine_eq]
    omega
  have b2 := hb _ (Value.ref (hp.objs.size + 1) :: us) I2.kIn (by rw [List.append_nil]; exact hl)
  rw [List.append_nil] at b2
  refine wpAny_call (PySem.HandSPX.call_own F.excBase_ValueError (fun Y => PySem.HandSPX.refsVE_contains Y bm hbm) (I1.kIn _ _ hC) (PySem.W.looks_findIn I1.kIn E.ini.i) (fun self => PySem.W.bind_fn I1.kIn self E.ini.t) hus
    (codeAny_mono (F1.run _ X.stack _ _ ⟨Value.ref (hp.objs.size + 1) :: us, []⟩ _ _ _ (fun _ _ _ => False) (hr.make (He.ga X.K c) us []) (I2.env0.make (He.ga X.K c) us []) b2 r2 hq) fun r s' z => ?_))
  cases r with
  | error er => exact passes_none pins σ _ _ er s' I2 z
  | ok fl =>
    cases fl with
    | ret u =>
      obtain ⟨v, H', I3, rv, ev, q3⟩ := I2.after z
      subst ev
      exact ⟨rv, ⟨V.ref (hp.objs.size + 1), H', I3, rfl, q3⟩⟩
    | next => exact z.elim
    | brk => exact z.elim
    | cont => exact z.elim
/-- a new exception frozen -/
theorem xob_new {K : Kp} {F H : Hp} {a dx : Addr} {c : Str} {fs : List Str} {vs : List V} {ds : List D} (g : Gr F H) (ha : H a = none) (hd : H dx = none) (hne : dx ≠ a) (rp : RepL K F vs ds) : ∃ F', Step F H F' (upd (upd H dx (exd dx (zipR fs vs))) a (exo a (He.ga K c) (some dx))) ∧ Rep K F' (.ref a) (.xob c (zipR fs ds)) := by
  have s1 : Step F H (upd F dx (exd dx (zipR fs vs))) (upd H dx (exd dx (zipR fs vs))) := .newF g hd
  have ha2 : upd H dx (exd dx (zipR fs vs)) a = none := by
    rw [upd_ne (Ne.symm hne)]
    exact ha
  have s2 := Step.newF (o := exo a (He.ga K c) (some dx)) s1.sub ha2
  obtain ⟨φ, e1, e2⟩ := exo_xop (a := a) (C := He.ga K c) (d := some dx)
  refine ⟨_, s1.trans s2, .xob (φ := φ) (by rw [upd_same, e1]) e2 (by rw [upd_ne hne, upd_same]) (.inr rfl) (repF_zipR (rp.mono (s1.gf.trans s2.gf)))⟩
def xnewD (c : Str) (fs : List Str) (ds : List D) : Out R := if ds.length = fs.length then .ok ⟨false, .xob c (zipR fs ds)⟩ else .no
theorem je_xnew {k j : Nat} {c : Str} {fs : List Str} {p : Pos} {e : Expr} {es : List Expr} {ma : MA} (E : Xk X.prog X.w X.K X.mg X.base k c fs) (hr : Room j X.A) (hk : k + 1 ≤ j) (hg : Gl X c) (ha : JA X W (e :: es) ma) (h9 : decide (fs.length ≤ 1000) = true := by rfl)
    (hdb : (c == ("__debug__" : Str)) = false := by decide) (he : starEach (e :: es) X.env = (false, eval e X.env) :: starEach es X.env := by rfl) (hpl : (backTo pos (starEach es X.env)).any (·.1) = false := by rfl) :
    JE X W (.Call (.Name c p) (e :: es) [] pos) (mN (xnewD c fs) ma) := ⟨pe_imp (pe_xnew E (hr.mono hk) hg (of_decide_eq_true h9) ha.pa hdb he hpl) fun σ H Q ⟨F, S, cp, q⟩ => ⟨F, S, cp, Fin.imp (Fin.bind q) fun ds F1 H1 t1 z vs rp => by
  unfold xnewD at z
  by_cases hl : ds.length = fs.length
  · rw [if_pos hl] at z
    refine ⟨rp.len.trans hl, fun a dx ha hd hne => ?_⟩
    obtain ⟨F', st, r⟩ := xob_new (c := c) (fs := fs) t1.sub ha hd hne rp
    exact z F' _ st (.ref a) (.inl ⟨rfl, r⟩)
  · rw [if_neg hl] at z
    exact z.elim⟩⟩
/-! ### reading and asking -/
def xlk (cs : List Str) (f : Str) (d : D) : Out R := match d with
  | .xob c fs => if cs.contains c then (match lkF f fs with
    | some d => .ok ⟨false, d⟩
    | none => .no) else .no
  | _ => .no
def mXf (cs : List Str) (f : Str) (m : MV) : ME := fun S => (m S).bind (xlk cs f)
theorem Vw.xob {K : Kp} {F H : Hp} {S : Ss} {σ : L2.St} {v : V} {c : Str} {fs : List (Str × D)} (h : Vw K F S σ v (.xob c fs)) (cp : Cp K F S σ H) : Rep K F v (.xob c fs) := by
  rcases h with h | ⟨i, h1, h2⟩
  · exact h
  · obtain ⟨a, e, o, _⟩ := cp.own i _ h1
    cases o
theorem je_xf {o : Expr} {f : Str} {cs : List Str} {m : MV} (h : ∀ c ∈ cs, Xcl (kp X) (He.ga (kp X) c) ∧ PySem.W.findIn (kp X) (.ref (He.ga (kp X) c)) f = some none) (he : JV X W o m) (hb : attributeBase o f X.env (eval o X.env) = eval o X.env := by rfl) : JE X W (.Attribute o f pos) (mXf cs f m) := by
  refine ⟨⟨fun pins s σ H Q I ⟨F, S, cp, q⟩ => ?_⟩⟩
  refine attr_of hb (thn (he.pe.run pins s σ H (fun v H1 => ∃ F1 d, Step F H F1 H1 ∧ Vw (kp X) F1 S σ v d ∧ Fin (kp X) W F1 H1 σ (xlk cs f d) fun r F' H' => ∀ v, RepR (kp X) F' H' H v r → Q v H') I ⟨F, S, cp, Fin.imp (Fin.bind q) fun d F1 H1 t z v vw => ⟨F1, d, t, vw, z⟩⟩) fun u s1 ⟨x, H1, I1, rx, F1, d, t, vw, z⟩ => ?_)
  cases d with
  | xob c fs =>
    have rp := vw.xob (cp.step t)
    unfold xlk at z
    simp only at z
    by_cases hc : cs.contains c = true
    · rw [if_pos hc] at z
      obtain ⟨T, hno⟩ := h c (by simpa using hc)
      cases hl : lkF f fs with
      | none =>
        rw [hl] at z
        exact z.elim
      | some d =>
        rw [hl] at z
        cases rp with
        | xo0 _ _ => exact nomatch hl
        | xob e1 e2 e3 e4 e5 =>
          rename_i a dx fv φ o
          obtain rfl : u = Value.ref a := rx
          obtain ⟨v, lv, rv⟩ := e5.lk hl
          have hφ : φ s1.heap := (I1.hok a _ (t.sub _ _ e1)).1
          obtain ⟨oe, vs, ho, hz, hd⟩ := e2 _ hφ
          have hdx : ∃ mA, s1.heap.Ns1 dx mA ∧ ∀ g, RelO (fv.lookup g) (mA g) := by
            have k := I1.hok dx _ (t.sub _ _ e3)
            rcases e4 with rfl | rfl
            · exact k
            · exact exd_at I1.hok (t.sub _ _ e3)
          obtain ⟨mA, hns, hr⟩ := hdx
          obtain ⟨od, hod, hl2⟩ := lookIn_ns hns
          obtain ⟨w, hw, rw_⟩ := RelO.some_of (v := v) (o := mA f) (by rw [← lv]; exact hr f)
          have J : PySem.W.InstAt s1.heap a oe (He.ga (kp X) c) (some od) := ⟨ho, hz.1, by unfold PySem.W.notCls; rw [hd] <;> rfl, by rw [hz.2]; exact hod⟩
          exact HandSPX.exc_get I1.kIn J T.x.ga T.x.gg T.x.exC (PySem.W.findObj_own T.x.hdC hno rfl (by rw [hl2, hw])) (handed_of rw_) ⟨v, H1, I1.tok _, rw_, z F1 H1 (.refl t.sub) v (.inl ⟨rfl, rv⟩)⟩
    · rw [if_neg hc] at z
      exact z.elim
  | _ => exact z.elim
/-- isinstance(e, c): tab tells it of each class of exceptions -/
def xisD (tab : List (Str × Bool)) (d : D) : Out R := match d with
  | .xob c _ => (match tab.lookup c with
    | some b => .ok ⟨false, .bl b⟩
    | none => .no)
  | _ => .no
theorem call_xis {a : Addr} {c : Str} {d : Option Addr} {φ : Heap → Prop} {cv : Value} {b : Bool} {pins : List (Addr × Obj)} {σ : L2.St} {H : Hp} {s : Shared} {Q : VK} (I : Inv X pins σ H s) (ha : H a = some (.ext φ)) (hp : ∀ h, φ h → XoP a (He.ga X.K c) d h) (hd : ∀ dx, d = some dx → ∃ o, H dx = some o) (T : Xcl X.K (He.ga X.K c)) (e : PySem.W.kitOne X.K (.ref (He.ga X.K c)) cv = some b) (q : Q (.bl b) H) :
    wpAny (model X.prog X.w) X.A (call (.builtin "isinstance") [.ref a, cv]) (EP X pins σ Q) X.xe s := by
  obtain ⟨oe, vs, ho, hz, hv⟩ := hp _ (I.hok a _ ha).1
  obtain ⟨od, hod⟩ : ∃ od : Option Obj, match d, od with
    | some dx, some o => s.heap.get? dx = some o
    | none, none => True
    | _, _ => False := by
    cases d with
    | none => exact ⟨none, trivial⟩
    | some dx =>
      obtain ⟨o, k⟩ := hd dx rfl
      obtain ⟨u, k2⟩ := objOk_get (I.hok dx _ k)
      exact ⟨some u, k2⟩
  have J : PySem.W.InstAt s.heap a oe (He.ga X.K c) od := ⟨ho, hz.1, by unfold PySem.W.notCls; rw [hv] <;> rfl, by
    rw [hz.2]
    cases d <;> cases od <;> first | exact hod | exact hod.elim⟩
  exact PySem.W.kia_one (PySem.W.kitx_exc T.cl T.x.ga T.x.gg T.x.exC T.ha T.hn T.ht T.hm) I.kIn J e (fun z => nomatch z) fun tk => ⟨.bl b, H, I.kept (t' := tk) fun _ _ z => z, rfl, q⟩
/-- how a class is named: of the text, of the built-ins -/
structure Nm (X : Cx) (T : Str) (v : V) (cv : Value) : Prop where
  pe : ∀ {p : Pos}, PE X (.Name T p) (tC v)
  val : ∀ u, RelV v u → u = cv
theorem nm_own {T : Str} (hg : Gl X T) (hm : X.mg T = some (.ref (He.ga X.K T))) (hd : (T == ("__debug__" : Str)) = false := by decide) : Nm X T (.ref (He.ga X.K T)) (.ref (He.ga X.K T)) := ⟨pe_glob hg hm rfl hd, fun u r => r⟩
theorem nm_blt {T : Str} {Ts : String} (hg : Gl X T) (hm : X.mg T = none) (hb : bootBuiltins T = some (.type Ts)) (hn : T ≠ "__name__" := by decide) (hd : (T == ("__debug__" : Str)) = false := by decide) : Nm X T (.ty Ts) (.type Ts) := ⟨pe_bltn (v := .ty Ts) hg hm hb rfl hn hd, fun u r => r⟩
def XisOk (X : Cx) (tab : List (Str × Bool)) (cv : Value) : Prop := ∀ q ∈ tab, Xcl X.K (He.ga X.K q.1) ∧ PySem.W.kitOne X.K (.ref (He.ga X.K q.1)) cv = some q.2
theorem lk_mem {c : Str} {b : Bool} : ∀ {tab : List (Str × Bool)}, tab.lookup c = some b → (c, b) ∈ tab
  | [], h => nomatch h
  | (c', b') :: t, h => by
    rw [List.lookup_cons] at h
    by_cases e : c = c'
    · subst e
      rw [beq_self_eq_true] at h
      cases h
      exact List.mem_cons_self
    · rw [beq_false_of_ne e] at h
      exact List.mem_cons_of_mem _ (lk_mem h)
def rXi (X : Cx) (v : V) (tab : List (Str × Bool)) : List V → Hp → VK → Prop := fun xs H Q => ∃ (a : Addr) (c : Str) (d : Option Addr) (φ : Heap → Prop) (b : Bool), xs = [.ref a, v] ∧ H a = some (.ext φ) ∧ (∀ h, φ h → XoP a (He.ga X.K c) d h) ∧ (∀ dx, d = some dx → ∃ o, H dx = some o) ∧ tab.lookup c = some b ∧ Q (.bl b) H
theorem cr_xi {v : V} {cv : Value} {tab : List (Str × Bool)} (hv : ∀ u, RelV v u → u = cv) (T : XisOk X tab cv) : CallR X (.builtin "isinstance") (rXi X v tab) := by
  rintro pins s σ H xs us Q I r ⟨a, c, d, φ, b, rfl, ha, hp, hd, hl, q⟩
  cases r with
  | cons rx rr =>
    cases rr with
    | cons rt rr =>
      cases rr
      cases rx
      obtain rfl := hv _ rt
      obtain ⟨T1, T2⟩ := T _ (lk_mem hl)
      exact call_xis I ha hp hd T1 T2 q
theorem je_xis {e : Expr} {m : MV} {T : Str} {v : V} {cv : Value} {tab : List (Str × Bool)} {p p2 : Pos} (N : Nm X T v cv) (K : XisOk X tab cv) (hg : Gl X "isinstance") (hm : X.mg "isinstance" = none) (he : JV X W e m)
    (hs : starEach [e, .Name T p2] X.env = (false, eval e X.env) :: starEach [.Name T p2] X.env := by rfl) (hs2 : starEach [.Name T p2] X.env = (false, eval (.Name T p2) X.env) :: starEach [] X.env := by rfl)
    (hpl : (backTo pos (starEach [.Name T p2] X.env)).any (·.1) = false := by rfl) :
    JE X W (.Call (.Name "isinstance" p) [e, .Name T p2] [] pos) (m1 (xisD tab) m) :=
  ⟨pe_imp (pe_callB (cr_xi N.val K) hg hm (by decide +kernel) (pa_cons he.pe (pa_cons N.pe pa_nil hs2) hs) (he := hs) (hpl := hpl)) fun σ H Q ⟨F, S, c, q⟩ => by
    refine ⟨F, S, c, Fin.imp (Fin.bind q) fun d F1 H1 t z v2 vw => ?_⟩
    have c1 := c.step t
    cases d with
    | xob c0 fs =>
      have rp := vw.xob c1
      unfold xisD at z
      simp only at z
      cases hl : tab.lookup c0 with
      | none =>
        rw [hl] at z
        exact z.elim
      | some b =>
        rw [hl] at z
        have fin := z F1 H1 (.refl c1.sub) (.bl b) (.inl ⟨rfl, .bl b⟩)
        cases rp with
        | xob e1 e2 e3 e4 e5 => exact ⟨_, c0, _, _, b, rfl, c1.sub _ _ e1, e2, fun dx e => by cases e; exact ⟨_, c1.sub _ _ e3⟩, hl, fin⟩
        | xo0 e1 e2 => exact ⟨_, c0, none, _, b, rfl, c1.sub _ _ e1, e2, (fun dx e => nomatch e), hl, fin⟩
    | _ => exact z.elim⟩
end
/-! ### try -/
section
variable {X : Cx} {pins : List (Addr × Obj)} {σ : L2.St} {H : Hp} {s : Shared}
/-- an exception of this def's run is tracked -/
theorem inv_adopt {a : Addr} {φ : Heap → Prop} (I : Inv X pins σ H s) (h0 : X.s_0.heap.get? a = none) (na : H a = none) (nL : a ≠ X.env.locals) (nc : ∀ x c, X.env.cells.lookup x = some c → c ≠ a) (np : ∀ p ∈ X.pn ++ pins, p.1 ≠ a)
    (new : ObjOk X.prog X.w (upd H a (.ext φ)) s.heap a (.ext φ)) : Inv X pins σ (upd H a (.ext φ)) s := by
  have n0 : ∀ {b : Addr} {o : Obj}, X.s_0.heap.get? b = some o → b ≠ a := fun {b o} e z => by
    rw [z, h0] at e
    cases e
  have nh : ∀ {b : Addr} {o : HO}, H b = some o → b ≠ a := fun {b o} e => ne_of_none e na
  refine ⟨I.ok, I.os, I.bare, ⟨I.base.keep, I.base.slot, fun b o e n hx => ?_, I.base.there, fun b xs e => ?_, fun b o u e => ?_, fun b ps e => ?_⟩, I.loc, I.cell, ?_, fun x c e => ?_, fun p hp => ?_, fun b u e => ?_, I.len⟩
  · rw [upd_ne (n0 e)]
    exact I.base.free b o e n hx
  · have q := I.base.tups b xs e
    rw [upd_ne (nh q)]
    exact q
  · have q := I.base.frzs b o u e
    rw [upd_ne (nh q)]
    exact q
  · obtain ⟨m, q⟩ := I.base.tbls b ps e
    exact ⟨m, by rw [upd_ne (nh q)]; exact q⟩
  · rw [upd_ne (Ne.symm nL)]
    exact I.free
  · rw [upd_ne (nc x c e)]
    exact I.freeC x c e
  · obtain ⟨k1, k2, k3⟩ := I.pin p hp
    exact ⟨k1, by rw [upd_ne (np p hp)]; exact k2, k3⟩
  · by_cases hb : b = a
    · subst hb
      rw [upd_same] at e
      cases e
      exact new
    · rw [upd_ne hb] at e
      exact (I.hok b u e).stay (fun c v _ q => q) (fun c q => by rw [upd_ne (nh q)]; exact q) fun c xs q => by rw [upd_ne (nh q)]; exact q
theorem inv_suite0 (I : Inv X pins σ H s) (a : Addr) : Inv (X.suite a (X.pn ++ pins)) [] σ H s :=
  ⟨I.ok.suite _ _, I.os, I.bare, I.base, I.loc, I.cell, I.free, I.freeC, fun p hp => I.pin p (by rw [List.append_nil] at hp; exact hp), I.hok, I.len⟩
theorem inv_ofSuite {a : Addr} {pn' : List (Addr × Obj)} (ok : X.Ok) (I : Inv (X.suite a (X.pn ++ pins)) pn' σ H s) : Inv X pins σ H s :=
  ⟨ok, I.os, I.bare, I.base, I.loc, I.cell, I.free, I.freeC, fun p hp => I.pin p (List.mem_append_left _ hp), I.hok, I.len⟩
end
def seO (i : Option Nat) (a : Addr) (σ : L2.St) : L2.St := match i with
  | none => σ
  | some i => σ.set i (some (.ref a))
def unD (i : Option Nat) (D : Ends) : Ends := match i with
  | none => D
  | some i => { nx := fun σ H => D.nx (σ.set i none) H, rt := D.rt, bk := fun σ H => D.bk (σ.set i none) H, ct := fun σ H => D.ct (σ.set i none) H }
/-- what the clauses wish, one behind another -/
def wA (K : PySem.W.Frag) (Wo : WX) (D : Ends) : List (Value × Option Nat × TS) → WX
  | [] => Wo
  | (cv, i, ts) :: r => fun cls d σ H => ∃ b, PySem.W.exmOne K cls cv = some b ∧ (b = true → ∃ C, cls = .ref C ∧ ∀ a, H a = none → ts (unD i D) (seO i a σ) (upd H a (xoO a C d))) ∧ (b = false → wA K Wo D r cls d σ H)
inductive HdsA (X : Cx) : List ExceptHandler → List (Value × Option Nat × TS) → Prop
  | nil : HdsA X [] []
  | bare {x : Str} {c : Value} {ts : TS} {b₀ : Stmt} {suite : List Stmt} {np pos' : Pos} {hds : List ExceptHandler} {l : List (Value × Option Nat × TS)} (hc : Names X x c) (hs : ∀ (a : Addr) (pn : List (Addr × Obj)), PSs (X.suite a pn) (b₀ :: suite) ts) (r : HdsA X hds l) : HdsA X (.ExceptHandler (some (.Name x np)) none (b₀ :: suite) pos' :: hds) ((c, none, ts) :: l)
  | named {x n : Str} {c : Value} {i : Nat} {ts : TS} {b₀ : Stmt} {suite : List Stmt} {np pos' : Pos} {hds : List ExceptHandler} {l : List (Value × Option Nat × TS)} (hc : Names X x c) (hN : X.N.Nodup) (hi : X.N[i]? = some n) (hl : X.env.kindOf n = some .local) (hs : ∀ (a : Addr) (pn : List (Addr × Obj)), PSs (X.suite a pn) (b₀ :: suite) ts) (r : HdsA X hds l) :
      HdsA X (.ExceptHandler (some (.Name x np)) (some n) (b₀ :: suite) pos' :: hds) ((c, some i, ts) :: l)
theorem test_name {X : Cx} {x : Str} {c : Value} {np : Pos} {a : Addr} {pn : List (Addr × Obj)} {σ : L2.St} {H : Hp} {s : Shared} {Q : Value → Shared → Prop} {E : Value → Shared → Prop} (hc : Names X x c) (I : Inv (X.suite a pn) [] σ H s) (q : Q c s) : wpAny (model X.prog X.w) (X.A.mark (some (.ref a))) (eval (.Name x np) X.env) Q E s := by
  obtain ⟨k1, k2, k3 | ⟨k3, k4, k5⟩⟩ := hc
  · exact ld_glob I k1 k3 q k2
  · exact ld_blt I k1 k3 k4 q k5 k2
section
variable {X : Cx} {body : List Stmt} {h₀ : ExceptHandler} {hds : List ExceptHandler} {l : List (Value × Option Nat × TS)} {pos : Pos} {tb : WX → TS} {Wo : WX}
theorem ps_tryA (st : X.stack = X.env :: X.outer) (fe : X.env.frame = some X.env.locals) (nex : X.ex = []) (tk : Takes X Wo)
    (hb : ∀ (W : WX) (pn : List (Addr × Obj)) (xe : Value → Shared → Prop), Takes (X.tr pn xe) W → PassesOwn (model X.prog X.w) X.A X.env xe → PSs (X.tr pn xe) body (tb W))
    (hh : HdsA X (h₀ :: hds) l) : PS X (.Try body (h₀ :: hds) [] [] pos) (fun D σ H => tb (wA X.K Wo D l) D σ H) := by
  refine ⟨fun pins s σ H D I wish => ?_⟩
  have ok := I.ok
  have frm : X.A.frames = some (X.env :: X.outer) := by rw [ok.frames, st]
  refine wpAny_Try_except (wpAny_mono ((hb (wA X.K Wo D l) (X.pn ++ pins) (fun e t₁ => wpAny (model X.prog X.w) X.A (noteFrame e X.env) (fun _ t₂ => wpAny (model X.prog X.w) X.A (setFlight e none) (fun _ t₃ =>
    wpAny (model X.prog X.w) X.A (handleBy e X.env (h₀ :: hds)) (SP X pins D) X.xe t₃) X.xe t₂) X.xe t₁) (fun u t' xx => ?_) PassesOwn.looking).run [] s σ H D (I.toTry _) wish) (fun f t1 hsp => ?_) (fun e t1 he => he))
  · obtain ⟨a, B, sI, pins2, σ', H', cls, d, rfl, J', nb, up, sky, na, os, ag, w⟩ := xx
    have J : Inv X pins σ' H' sI := J'.ofTry ok
    have sky2 : Sky B (X.env :: X.outer) a (Zc cls d) X.env.locals t'.heap := by rw [← st]; exact sky
    show wpAny (model X.prog X.w) X.A (noteFrame (.ref a) X.env) _ _ _
    refine Sky.land Zc.steady frm fe sky2 fun h3 fl3 up3 => ?_
    have J3 : Inv X pins σ' H' { t' with heap := h3 } := J.landed nb fl3.1 (up.trans up3) os ag
    obtain ⟨oe3, vs3, he3, hz3, hd3⟩ := fl3.there
    have nfr : a ∉ frs (X.env :: X.outer) := fun hm => by
      obtain ⟨_, o', e', hnf⟩ := fl3.2.2.1.mem hm
      rw [he3] at e'
      cases e'
      exact hnf _ hd3
    have nL : a ≠ X.env.locals := fun z => nfr (List.mem_filterMap.mpr ⟨X.env, List.mem_cons_self, by rw [fe, z]⟩)
    have notI : ∀ o, sI.heap.get? a = some o → False := fun o e => by
      have z := nb a o e (by rw [st]; exact nfr)
      rw [fl3.2.1] at z
      cases z
    have n0 : X.s_0.heap.get? a = none := by
      cases e : X.s_0.heap.get? a with
      | none => rfl
      | some o =>
        obtain ⟨o', z⟩ := J.base.there a o e (by rw [nex]; exact fun z => nomatch z)
        exact (notI o' z).elim
    have npin : ∀ p ∈ X.pn ++ pins, p.1 ≠ a := fun p hp z => by
      have k := (J.pin p hp).1
      rw [z] at k
      exact notI _ k
    have ncell : ∀ x c, X.env.cells.lookup x = some c → c ≠ a := fun x c e z => by
      obtain ⟨v, o, k, _⟩ := J.cell x c e
      rw [z] at k
      exact notI _ k
    have go : ∀ {hs' : List ExceptHandler} {l' : List (Value × Option Nat × TS)}, HdsA X hs' l' → wA X.K Wo D l' cls d σ' H' → wpAny (model X.prog X.w) X.A (handleBy (.ref a) X.env hs') (SP X pins D) X.xe { t' with heap := h3 } := by
      intro hs' l' hk
      have sui : ∀ {C : Addr} (h4 : Heap), cls = .ref C → HandSPX.FlyingZ B (X.env :: X.outer) a (Zc cls d) h4 → h3.UpToSlots h4 → Inv (X.suite a (X.pn ++ pins)) [] σ' (upd H' a (xoO a C d)) { t' with heap := h4 } := fun {C} h4 ec fl4 up4 => by
        have J4 : Inv X pins σ' H' { t' with heap := h4 } := J.landed nb fl4.1 ((up.trans up3).trans up4) os ag
        obtain ⟨oe4, vs4, he4, hz4, hd4⟩ := fl4.there
        subst ec
        exact (inv_suite0 (inv_adopt J4 n0 na nL ncell npin ⟨⟨oe4, vs4, he4, hz4, hd4⟩, ⟨oe4, he4⟩, fun g1 g2 ⟨o, v, k1, k2⟩ st => ⟨o, v, st o k1, k2⟩⟩) a)
      induction hk with
      | nil =>
        intro w
        refine wpAny_handleBy_nil ?_
        obtain ⟨k1, k2, k3, oe, vs, T, oT, ts', he, hz, hd, h1, hr⟩ := id fl3
        unfold PySem.passOn
        refine wpAny_bind (wpAny_field he hd h1 ?_)
        rw [if_neg (show ¬ ((Value.ref T == Value.none) = true) from by simp)]
        have fin : wpAny (model X.prog X.w) X.A (setFlight (.ref a) X.env.frame) (fun _ t4 => wpAny (model X.prog X.w) X.A (throw (.ref a) : Sem Flow) (SP X pins D) X.xe t4) X.xe { t' with heap := h3 } := by
          rw [fe]
          refine HandSPX.setFlight_upZ fl3 fun h4 hh4 up4 => wpAny_throw (tk _ _ ?_)
          exact ⟨a, B, sI, pins, σ', H', cls, d, rfl, J, nb, (up.trans up3).trans up4, .inr (.inr (by rw [st]; exact hh4)), na, os, ag, w⟩
        first
          | exact wpAny_bind (wpAny_pure (wpAny_bind fin))
          | exact wpAny_bind fin
      | @bare x c ts b₀ suite np pos' hds2 l2 hc hs r ih =>
        intro w
        obtain ⟨b, e1, yes, no⟩ := w
        refine wpAny_handleBy_cons (codeAny_handlers_test ?_) (by intro q; cases q)
        have LM := PySem.W.exm_one (M := model X.prog X.w) J3.kIn (fun A Q E s k q => wpAny_typeOf_ref (k _ _ he3) (by rw [hz3.1]; exact q)) e1
        refine test_name (X := X) hc (inv_suite0 J3 a) (LM.here ?_)
        cases b with
        | false => exact ih (no rfl)
        | true =>
          obtain ⟨C, ec, y⟩ := yes rfl
          refine codeAny_handlers_suite ?_
          refine HandSPX.lands_againZ fl3 fun h4 fl4 up4 => ?_
          refine wpAny_mono ((hs a (X.pn ++ pins)).run [] _ _ _ _ (sui h4 ec fl4 up4) (y a na)) (fun f t6 z => ?_) (fun _ _ z => z.elim)
          cases f with
          | next =>
            obtain ⟨σ6, H6, S6, q6⟩ := z
            exact ⟨_, _, inv_ofSuite ok S6, q6⟩
          | brk =>
            obtain ⟨σ6, H6, S6, q6⟩ := z
            exact ⟨_, _, inv_ofSuite ok S6, q6⟩
          | cont =>
            obtain ⟨σ6, H6, S6, q6⟩ := z
            exact ⟨_, _, inv_ofSuite ok S6, q6⟩
          | ret u =>
            obtain ⟨v6, σ6, H6, S6, r6, q6⟩ := z
            exact ⟨_, _, _, inv_ofSuite ok S6, r6, q6⟩
      | @named x n c i ts b₀ suite np pos' hds2 l2 hc hN hi hl hs r ih =>
        intro w
        obtain ⟨b, e1, yes, no⟩ := w
        refine wpAny_handleBy_cons (codeAny_handlers_test ?_) (by intro q; cases q)
        have LM := PySem.W.exm_one (M := model X.prog X.w) J3.kIn (fun A Q E s k q => wpAny_typeOf_ref (k _ _ he3) (by rw [hz3.1]; exact q)) e1
        refine test_name (X := X) hc (inv_suite0 J3 a) (LM.here ?_)
        cases b with
        | false => exact ih (no rfl)
        | true =>
          obtain ⟨C, ec, y⟩ := yes rfl
          refine codeAny_handlers_suite_as ?_
          refine HandSPX.lands_againZ fl3 fun h4 fl4 up4 => ?_
          refine store_ok (X := X.suite a (X.pn ++ pins)) (v := .ref a) (sui h4 ec fl4 up4) hN hi (.inl hl) rfl (fun t5 S5 => ?_) (.inr hl)
          refine wpAny_mono ((hs a (X.pn ++ pins)).run [] _ _ _ _ S5 (y a na)) (fun f t6 z => ?_) (fun _ _ z => z.elim)
          have fin : ∀ {σ6 : L2.St} {H6 : Hp} {Q : Shared → Prop}, Inv (X.suite a (X.pn ++ pins)) [] σ6 H6 t6 → (∀ t7, Inv X pins (σ6.set i none) H6 t7 → Q t7) → wpAny (model X.prog X.w) X.A (do bindName X.env n .none; unbindBehindTheSuite X.env n pos') (fun _ t7 => Q t7) X.xe t6 :=
            fun {σ6 H6 Q} S6 hq => gone_ok (inv_ofSuite ok S6) hN hi hl hq
          cases f with
          | next =>
            obtain ⟨σ6, H6, S6, q6⟩ := z
            exact fin S6 fun t7 J7 => ⟨_, _, J7, q6⟩
          | brk =>
            obtain ⟨σ6, H6, S6, q6⟩ := z
            exact fin S6 fun t7 J7 => ⟨_, _, J7, q6⟩
          | cont =>
            obtain ⟨σ6, H6, S6, q6⟩ := z
            exact fin S6 fun t7 J7 => ⟨_, _, J7, q6⟩
          | ret u =>
            obtain ⟨v6, σ6, H6, S6, r6, q6⟩ := z
            exact fin S6 fun t7 J7 => ⟨_, _, _, J7, r6, q6⟩
    exact go hh w
  · cases f with
    | next =>
      obtain ⟨σ', H', J', q⟩ := hsp
      exact wpAny_execs_nil ⟨σ', H', J'.ofTry ok, q⟩
    | brk =>
      obtain ⟨σ', H', J', q⟩ := hsp
      exact ⟨σ', H', J'.ofTry ok, q⟩
    | cont =>
      obtain ⟨σ', H', J', q⟩ := hsp
      exact ⟨σ', H', J'.ofTry ok, q⟩
    | ret u =>
      obtain ⟨v, σ', H', J', r, q⟩ := hsp
      exact ⟨v, σ', H', J'.ofTry ok, r, q⟩
end
/-! ### try over the readings -/
/-- a suite lets nothing out -/
def noX (o : SOut) : SOut := match o with
  | .exc _ _ _ => .no
  | o => o
/-- the clause's name goes -/
def unS (i : Nat) (o : SOut) : SOut := match o with
  | .nx S => .nx (S.set i .no)
  | .bk S => .bk (S.set i .no)
  | .ct S => .ct (S.set i .no)
  | .ret r => .ret r
  | _ => .no
abbrev Hd := List (Str × Bool) × Option Nat × MS
def hdl : List Hd → Ss → Str → List (Str × D) → SOut
  | [], S, c, fs => .exc S c fs
  | (tab, i, m) :: r, S, c, fs => match tab.lookup c with
    | some true => (match i with
      | none => noX (m S)
      | some i => unS i (m (S.set i (.fz (.xob c fs)))))
    | some false => hdl r S c fs
    | none => .no
def tryS (m : MS) (hs : List Hd) : MS := fun S => match m S with
  | .exc S c fs => hdl hs S c fs
  | o => o
def ExmOk (X : Cx) (tab : List (Str × Bool)) (cv : Value) : Prop := ∀ q ∈ tab, PySem.W.exmOne X.K (.ref (He.ga X.K q.1)) cv = some q.2
inductive JH (X : Cx) : List ExceptHandler → List Hd → Prop
  | nil : JH X [] []
  | bare {x : Str} {cv : Value} {tab : List (Str × Bool)} {m : MS} {b₀ : Stmt} {suite : List Stmt} {np pos' : Pos} {hds : List ExceptHandler} {l : List Hd} (hc : Names X x cv) (he : ExmOk X tab cv) (hs : ∀ (a : Addr) (pn : List (Addr × Obj)), JSs (X.suite a pn) (fun _ _ _ _ => False) (b₀ :: suite) m) (r : JH X hds l) :
      JH X (.ExceptHandler (some (.Name x np)) none (b₀ :: suite) pos' :: hds) ((tab, none, m) :: l)
  | named {x n : Str} {cv : Value} {i : Nat} {tab : List (Str × Bool)} {m : MS} {b₀ : Stmt} {suite : List Stmt} {np pos' : Pos} {hds : List ExceptHandler} {l : List Hd} (hc : Names X x cv) (hN : X.N.Nodup) (hi : X.N[i]? = some n) (hl : X.env.kindOf n = some .local) (he : ExmOk X tab cv) (hs : ∀ (a : Addr) (pn : List (Addr × Obj)), JSs (X.suite a pn) (fun _ _ _ _ => False) (b₀ :: suite) m) (r : JH X hds l) :
      JH X (.ExceptHandler (some (.Name x np)) (some n) (b₀ :: suite) pos' :: hds) ((tab, some i, m) :: l)
section
variable {X : Cx} {W : WX} {pos : Pos}
theorem set_no {K : Kp} {C : Ct} {F : Hp} {S : Ss} {σ : L2.St} {H : Hp} (b : Bs K C F S σ H) (i : Nat) : Bs K C F (S.set i .no) (σ.set i none) H := by
  have hl := b.cp.len
  have key : ∀ {j : Nat} {sl : Sl}, (S.set i .no)[j]? = some sl → sl ≠ .no → j ≠ i ∧ S[j]? = some sl := fun {j sl} e ne => by
    by_cases hj : j = i
    · subst hj
      exact absurd (set_self e).symm ne
    · rw [List.getElem?_set_ne (Ne.symm hj)] at e
      exact ⟨hj, e⟩
  have at_ : ∀ {j : Nat}, j ≠ i → (σ.set i none)[j]? = σ[j]? := fun {j} hj => List.getElem?_set_ne (Ne.symm hj)
  refine ⟨⟨b.cp.sub, by simpa using hl, fun j d e => ?_, fun j d e => ?_, fun j k dj dk a ne ej ek aj ak => ?_, fun j dss e => ?_⟩, b.st, fun j d a e ea => ?_, fun j dss e => ?_, fun x d ex e => ?_⟩
  · obtain ⟨h1, h2⟩ := key e (fun z => nomatch z)
    rw [at_ h1]
    exact b.cp.fz j d h2
  · obtain ⟨h1, h2⟩ := key e (fun z => nomatch z)
    rw [at_ h1]
    exact b.cp.own j d h2
  · obtain ⟨h1, h2⟩ := key ej (fun z => nomatch z)
    obtain ⟨h3, h4⟩ := key ek (fun z => nomatch z)
    rw [at_ h1] at aj
    rw [at_ h3] at ak
    exact b.cp.dis j k dj dk a ne h2 h4 aj ak
  · obtain ⟨h1, h2⟩ := key e (fun z => nomatch z)
    obtain ⟨⟨a, rs, k1, k2⟩, k3⟩ := b.cp.row j dss h2
    refine ⟨⟨a, rs, by rw [at_ h1]; exact k1, k2⟩, fun k sk hk ek => ?_⟩
    by_cases hki : k = i
    · subst hki
      rw [← set_self ek]
      rfl
    · rw [List.getElem?_set_ne (Ne.symm hki)] at ek
      exact k3 k sk hk ek
  · obtain ⟨h1, h2⟩ := key e (fun z => nomatch z)
    rw [at_ h1] at ea
    exact b.fr j d a h2 ea
  · obtain ⟨h1, h2⟩ := key e (fun z => nomatch z)
    obtain ⟨a, rs, k1, k2⟩ := b.frr j dss h2
    exact ⟨a, rs, by rw [at_ h1]; exact k1, k2⟩
  · obtain ⟨h1, h2⟩ := key e (fun z => nomatch z)
    rw [at_ h1]
    exact b.pin x d ex h2
/-- a caught exception is frozen -/
theorem xo_adopt {K : Kp} {F H : Hp} {a : Addr} {c : Str} {fs : List (Str × D)} {d : Option Addr} (g : Gr F H) (ha : H a = none) (e : IsExc K F H fs d) : Step F H (upd F a (xoO a (He.ga K c) d)) (upd H a (xoO a (He.ga K c) d)) ∧ Rep K (upd F a (xoO a (He.ga K c) d)) (.ref a) (.xob c fs) := by
  have st : Step F H (upd F a (xoO a (He.ga K c) d)) (upd H a (xoO a (He.ga K c) d)) := .newF g ha
  refine ⟨st, ?_⟩
  rcases e with ⟨rfl, rfl⟩ | ⟨dx, fv, rfl, h1, h2⟩
  · exact .xo0 (φ := XoP a (He.ga K c) none) upd_same fun h k => k
  · exact .xob (φ := XoP a (He.ga K c) (some dx)) upd_same (fun h k => k) (st.gf _ _ h1) (.inl rfl) (h2.mono st.gf)
theorem js_try {body : List Stmt} {h₀ : ExceptHandler} {hds : List ExceptHandler} {m : MS} {l : List Hd} (st : X.stack = X.env :: X.outer) (fe : X.env.frame = some X.env.locals) (nex : X.ex = []) (tk : Takes X W)
    (hb : ∀ (W' : WX) (pn : List (Addr × Obj)) (xe : Value → Shared → Prop), Takes (X.tr pn xe) W' → PassesOwn (model X.prog X.w) X.A X.env xe → JSs (X.tr pn xe) W' body m) (hh : JH X (h₀ :: hds) l) (h0 : ∀ q ∈ l, q.2.1 ≠ some 0) : JS X W (.Try body (h₀ :: hds) [] [] pos) (tryS m l) := ⟨fun C hC => by
  have mk : ∀ {hs' : List ExceptHandler} {l' : List Hd}, JH X hs' l' → ∃ l2, HdsA X hs' l2 ∧ ∀ (D : Ends) (F : Hp) (S : Ss) (c : Str) (fs : List (Str × VM.D)), (∀ q ∈ l', q.2.1 ≠ some 0) → FinS (kp X) W C D F (hdl l' S c fs) → ∀ F' σ' H' d, Bs (kp X) C F' S σ' H' → Gr F F' → IsExc (kp X) F' H' fs d → wA X.K W D l2 (.ref (He.ga (kp X) c)) d σ' H' := by
    intro hs' l' hk
    induction hk with
    | nil => exact ⟨[], .nil, fun D F S c fs _ q F' σ' H' d b g e => q F' σ' H' d b g e⟩
    | @bare x cv tab m2 b₀ suite np pos' hds l hc he hs r ih =>
      obtain ⟨l2, k1, k2⟩ := ih
      refine ⟨_, .bare (ts := tS (kp X) (fun _ _ _ _ => False) C m2) hc (fun a pn => (hs a pn).pss C hC) k1, fun D F S c fs hz q F' σ' H' d b g e => ?_⟩
      unfold hdl at q
      cases hl : tab.lookup c with
      | none =>
        rw [hl] at q
        exact q.elim
      | some bb =>
        rw [hl] at q
        refine ⟨bb, he _ (lk_mem hl), fun eb => ⟨_, rfl, fun a ha => ?_⟩, fun eb => ?_⟩
        · subst eb
          obtain ⟨t, rp⟩ := xo_adopt (c := c) b.cp.sub ha e
          refine ⟨_, S, b.step t, ?_⟩
          have q2 := FinS.mono (g.trans t.gf) q
          show FinS (kp X) _ C D _ (m2 S)
          simp only at q2
          cases hm : m2 S with
          | exc S' c' fs' =>
            rw [hm] at q2
            exact q2.elim
          | _ =>
            rw [hm] at q2
            exact q2
        · subst eb
          exact k2 D F S c fs (fun q hq => hz q (List.mem_cons_of_mem _ hq)) q F' σ' H' d b g e
    | @named x n cv i tab m2 b₀ suite np pos' hds l hc hN hi hl he hs r ih =>
      obtain ⟨l2, k1, k2⟩ := ih
      refine ⟨_, .named (ts := tS (kp X) (fun _ _ _ _ => False) C m2) hc hN hi hl (fun a pn => (hs a pn).pss C hC) k1, fun D F S c fs hz q F' σ' H' d b g e => ?_⟩
      have i0 : i ≠ 0 := fun z => hz _ List.mem_cons_self (by rw [z])
      unfold hdl at q
      cases hlk : tab.lookup c with
      | none =>
        rw [hlk] at q
        exact q.elim
      | some bb =>
        rw [hlk] at q
        refine ⟨bb, he _ (lk_mem hlk), fun eb => ⟨_, rfl, fun a ha => ?_⟩, fun eb => ?_⟩
        · subst eb
          obtain ⟨t, rp⟩ := xo_adopt (c := c) b.cp.sub ha e
          refine ⟨_, _, (b.step t).set (sl := .fz (.xob c fs)) i rp (.inl rfl) (.inl rfl), ?_⟩
          have q2 := FinS.mono (g.trans t.gf) q
          show FinS (kp X) _ C (unD (some i) D) _ (m2 (S.set i (.fz (.xob c fs))))
          simp only at q2
          cases hm : m2 (S.set i (.fz (.xob c fs))) with
          | exc S' c' fs' =>
            rw [hm] at q2
            exact q2.elim
          | no =>
            rw [hm] at q2
            exact q2.elim
          | nx S' =>
            rw [hm] at q2
            exact fun F2 σ2 H2 b2 g2 => q2 F2 _ H2 (set_no b2 i) g2
          | bk S' =>
            rw [hm] at q2
            exact fun F2 σ2 H2 b2 g2 => q2 F2 _ H2 (set_no b2 i) g2
          | ct S' =>
            rw [hm] at q2
            exact fun F2 σ2 H2 b2 g2 => q2 F2 _ H2 (set_no b2 i) g2
          | ret r' =>
            rw [hm] at q2
            exact q2
        · subst eb
          exact k2 D F S c fs (fun q hq => hz q (List.mem_cons_of_mem _ hq)) q F' σ' H' d b g e
  obtain ⟨l2, k1, k2⟩ := mk hh
  refine ps_imp (ps_tryA (tb := fun W' => tS (kp X) W' C m) st fe nex tk (fun W' pn xe t p => (hb W' pn xe t p).pss C hC) k1) fun D σ H ⟨F, S, b, q⟩ => ⟨F, S, b, ?_⟩
  unfold tryS at q
  cases hm : m S with
  | exc S' c fs =>
    rw [hm] at q
    exact k2 D F S' c fs h0 q
  | _ =>
    rw [hm] at q
    exact q⟩
end
end VM

/-! calls of classes by keywords -/
namespace PySem.HandSPX
open PySem PySem.W PySem.Calls PyProof.Rows
section
variable {prog : Program} {w : World} {A : Around} {E : Value → Shared → Prop} {R : Result → Shared → Prop} {h : Heap} {g : Array GenState} {d : Drawn} {t : Nat} {os : OsState}
variable {nm q : Str} {C N : Addr} {bs bm bmB : List Value} {hdct : Bool} {sn : List Str} {sub : List Value} {ab : Bool} {col : Option Bool} {dd : Option Addr} {k0 k1 k2 k3 k5 : Option Value} {B newId initId : String}
/-! the same as the library's call_own, with keywords -/
theorem kw_check {M : Model} (F : ExcBaseFacts B newId initId bmB) (hT : ∀ X : String, bm.contains (.type X) = bmB.contains (.type X)) {rest : List Value} {kw : List (Str × Value)} {Q : Unit → Shared → Prop} (hC : h.get? C = some (excClassObj nm q C N bs bm hdct sn sub ab col dd k0 k1 k2 k3 k5 newId)) (fin : Q () ⟨h, g, d, t, os⟩) : wpAny M A (checkBuiltinCall newId ⟨.ref C :: rest, kw⟩) Q E ⟨h, g, d, t, os⟩ := by
  have c1 : (Value.ref C :: bm).contains (.type B) = true := by rw [List.contains_cons, hT, F.hasB, Bool.or_true]
  have c2 := F.noStar
  simp only [checkBuiltinCall, F.newKind, F.newSplit, F.newRow]
  repeat (first | with_reducible refine wpAny_loadPart_at hC ?_ | (with_reducible refine wpAny_isSubtype_exc hC ?_; rw [c1]) | with_reducible refine wpAny_staticBase_exc hC ?_ | with_reducible refine wpAny_madeBy_exc hC ?_ | (simp only [bne_self_eq_false, Bool.false_eq_true, if_false]) | wp_step)
  exact fin
theorem kw_new (F : ExcBaseFacts B newId initId bmB) (hT : ∀ X : String, bm.contains (.type X) = bmB.contains (.type X)) {rest : List Value} {kw : List (Str × Value)} (hC : h.get? C = some (excClassObj nm q C N bs bm hdct sn sub ab col dd k0 k1 k2 k3 k5 newId))
    (fin : R (.ok (.ret (.ref (h.objs.size + 1)))) ⟨(h.push { cls := .type "tuple", data := .seq rest.toArray }).push { cls := .ref C, data := .fields #[.ref h.objs.size, .none, .none, .none, .bool false, .none] }, g, d, t, os⟩) (small : rest.length ≤ sizeLine) :
    codeAny (model prog w) A (.builtin newId ⟨.ref C :: rest, kw⟩) R ⟨h, g, d, t, os⟩ := by
  have c0 := F.ends; have c1 : (Value.ref C :: bm).contains (.type B) = true := by rw [List.contains_cons, hT, F.hasB, Bool.or_true]
  have c2 : (Value.ref C :: bm).contains (.type "AttributeError") = false := by rw [List.contains_cons, hT, F.noAttr]; rfl
  have c3 : (Value.ref C :: bm).contains (.type "NameError") = false := by rw [List.contains_cons, hT, F.noName]; rfl
  refine codeAny_builtinAt F.entry ?_
  unfold Builtin.«BaseException.__new__»
  refine wpAt_bind ?_
  show wpAt _ _ _ (stack >>= _) _ _ _
  refine wpAt_bind (wpAt_stack fun p below => wpAt_of_wpAny ?_)
  wp_walk
  refine wpAt_of_wpAny ?_
  rw [F.owner]
  repeat (first | with_reducible refine wpAny_madeHere_exc F.canon hC ?_ | with_reducible refine wpAny_loadPart_at hC ?_ | (with_reducible refine wpAny_isSubtype_exc hC ?_; first | rw [c1] | rw [c2] | rw [c3]) | wp_step)
  show R _ _
  rw [Heap.size_push]
  exact fin
theorem kw_type (F : ExcBaseFacts B newId initId bmB) (hT : ∀ X : String, bm.contains (.type X) = bmB.contains (.type X)) {rest : List Value} {kw : List (Str × Value)} {fI : Addr} {Q : Fin → Shared → Prop} (hC : h.get? C = some (excClassObj nm q C N bs bm hdct sn sub ab col dd k0 k1 k2 k3 k5 newId))
    (hi : W.Looks (model prog w) h (typeLookup (.ref C) "__init__") (some (.ref fI))) (hb : ∀ self, W.Looks (model prog w) h (bindSpecial (.ref fI) self) (.ref fI, [self])) (small : rest.length ≤ sizeLine)
    (fin : codeAny (model prog w) A (.call (.ref fI) ⟨.ref (h.objs.size + 1) :: rest, kw⟩) (fun r s' => match r with | .ok (.ret v) => v = .none ∧ Q (.done (.ret (.ref (h.objs.size + 1)))) s' | .ok _ => False | .error e => E e s') ⟨(h.push (W.kdv_tup rest)).push (excO C h.objs.size), g, d, t, os⟩) :
    wpAny (model prog w) A (Builtin.«type.__call__» ⟨.ref C :: rest, kw⟩) Q E ⟨h, g, d, t, os⟩ := by
  repeat (first | with_reducible refine wpAny_loadPart_at hC ?_ | with_reducible refine wpAny_madeBy_exc hC ?_ | wp_step)
  refine codeAny_call_builtin_code (Code.quiet_builtin _ F.quiet) (kw_check F hT hC ?_)
  refine kw_new F hT hC ?_ small
  show wpAny _ _ _ _ _ _
  have kp : ∀ b o, h.get? b = some o → ((h.push (W.kdv_tup rest)).push (excO C h.objs.size)).get? b = some o := fun b o z => Heap.get?_push_of_some _ (Heap.get?_push_of_some _ z)
  have hC1 := kp _ _ hC
  have ge : ((h.push (W.kdv_tup rest)).push (excO C h.objs.size)).get? (h.objs.size + 1) = some (excO C h.objs.size) := by heap_get
  have c1 : (Value.ref C :: bm).contains (.ref C) = true := by simp
  have i1 := hi.keeps kp
  have b1 := (hb (.ref (h.objs.size + 1))).keeps kp
  unfold isInstance
  repeat (first | with_reducible refine wpAny_loadPart_at ge ?_ | (with_reducible refine wpAny_isSubtype_exc hC1 ?_; rw [c1]) | wp_step)
  show wpAny _ _ (typeLookup (.ref C) _) _ _ _
  refine i1.at (wpAny_holding (wpAny_bind (b1.at ?_)))
  refine wpAny_bind (wpAny_call (codeAny_mono fin fun r s' z => ?_))
  rcases r with e | (v | _ | _ | _) <;> first | exact z | exact z.elim | skip
  obtain ⟨rfl, z⟩ := z
  first
    | exact wpAny_pure (wpAny_pure z)
    | (wp_walk; exact z)
theorem kw_call (F : ExcBaseFacts B newId initId bmB) (hT : ∀ X : String, bm.contains (.type X) = bmB.contains (.type X)) {rest : List Value} {kw : List (Str × Value)} {fI : Addr} (hC : h.get? C = some (excClassObj nm q C N bs bm hdct sn sub ab col dd k0 k1 k2 k3 k5 newId))
    (hi : W.Looks (model prog w) h (typeLookup (.ref C) "__init__") (some (.ref fI))) (hb : ∀ self, W.Looks (model prog w) h (bindSpecial (.ref fI) self) (.ref fI, [self])) (small : rest.length ≤ sizeLine)
    (fin : codeAny (model prog w) (A.under (.builtin "type.__call__" ⟨.ref C :: rest, kw⟩)) (.call (.ref fI) ⟨.ref (h.objs.size + 1) :: rest, kw⟩) (W.InitBack (h.objs.size + 1) R) ⟨(h.push (W.kdv_tup rest)).push (excO C h.objs.size), g, d, t, os⟩) :
    codeAny (model prog w) A (.call (.ref C) ⟨rest, kw⟩) R ⟨h, g, d, t, os⟩ := by
  have f1 := tc_lookup; have f2 := tc_bind (.ref C)
  have f3 : (⟨h, g, d, t, os⟩ : Shared).TypeIs (.ref C) "type" := ⟨_, hC, rfl⟩
  refine codeAny_of_tree ?_
  show wpAny _ _ (callAny (.ref C) _) _ _ _
  repeat (any_goals (first | assumption | with_reducible refine wpAny_loadPart_at hC ?_ | wp_step))
  refine ⟨rfl, ?_⟩
  refine codeAny_call_builtin_at (Code.quiet_builtin _ (by decide +kernel)) entry_typeCall (wpAny_check_type_call_sub hC (kw_type F hT hC hi hb small ?_))
  exact codeAny_mono fin fun r s' z => by rcases r with e | (v | _ | _ | _) <;> exact z
end
end PySem.HandSPX
namespace VM
open PySem PySem.Spec PyProof.Rows L2
/-! ### the arguments of a call, by place and by keywords -/
def aApp (a b : MA) : MA := fun S => (a S).bind fun x => (b S).bind fun y => .ok (x ++ y)
def t2 (K : Kp) (W : WX) (n k : Nat) (m : MA) (σ : L2.St) (H : Hp) (Q : List V → List V → Hp → Prop) : Prop := ∃ F S, Cp K F S σ H ∧ Fin K W F H σ (m S) fun ds F' H' => ∀ vs zs, RepL K F' (vs ++ zs) ds → vs.length = n → zs.length = k → Q vs zs H'
structure JC (X : Cx) (W : WX) (es : List Expr) (kws : List Keyword) (pos : Pos) (n : Nat) (ks : List Str) (m : MA) : Prop where
  run : ∀ (f : Value) (pins : List (Addr × Obj)) (s : Shared) (σ : L2.St) (H : Hp) (Q : List V → List V → Hp → Prop) (R : Value → Shared → Prop), PySem.W.keepIn X.K f = true → Inv X pins σ H s → t2 (kp X) W n ks.length m σ H Q →
    (∀ us ws s2 vs zs H2, Inv X pins σ H2 s2 → Vals vs us → Vals zs ws → Q vs zs H2 → vs.length = n → zs.length = ks.length → wpAny (model X.prog X.w) X.A (call f us (ks.zip ws)) R X.xe s2) →
    wpAny (model X.prog X.w) X.A (callWith pos f [] (backTo pos (starEach es X.env)) (backToKw pos (keywordEach kws X.env))) R X.xe s
section
variable {X : Cx} {W : WX} {pos : Pos}
theorem jc_pos {e : Expr} {es : List Expr} {ma : MA} {n : Nat} (ha : JA X W (e :: es) ma) (hl : ALen ma n) (he : starEach (e :: es) X.env = (false, eval e X.env) :: starEach es X.env := by rfl) (hpl : (backTo pos (starEach es X.env)).any (·.1) = false := by rfl) : JC X W (e :: es) [] pos n [] ma :=
  ⟨fun f pins s σ H Q R kf I ⟨F, S, c, q⟩ h => by
    refine PySem.W.callWith_K (h₀ := X.base) I.ok.mod.kin kf (thn (ha.pa.run pos pins s σ H (fun vs H1 => vs.length = n ∧ Q vs [] H1) I ⟨F, S, c, ?_⟩) fun us s1 ⟨vs, H1, I1, r, l, q1⟩ => ⟨I1.kIn, h us [] s1 vs [] H1 I1 r .nil q1 l rfl⟩) he hpl
    cases hm : ma S with
    | no =>
      rw [hm] at q
      exact q
    | exc x fs =>
      rw [hm] at q
      exact q
    | ok ds =>
      rw [hm] at q
      exact fun F1 H1 t vs rp => ⟨rp.len.trans (hl.len S ds hm), q F1 H1 t vs [] (by rw [List.append_nil]; exact rp) (rp.len.trans (hl.len S ds hm)) rfl⟩⟩
theorem app_split {K : Kp} {W : WX} {F H : Hp} {σ : L2.St} {S : Ss} {ma mk : MA} {n k : Nat} {Q : List V → List V → Hp → Prop} (hl : ALen ma n) (hk : ALen mk k) (c : Cp K F S σ H) (q : Fin K W F H σ (aApp ma mk S) fun ds F' H' => ∀ vs zs, RepL K F' (vs ++ zs) ds → vs.length = n → zs.length = k → Q vs zs H') :
    tA K W ma σ H fun vs H1 => tA K W mk σ H1 fun zs H2 => Q vs zs H2 ∧ vs.length = n ∧ zs.length = k := by
  refine ⟨F, S, c, ?_⟩
  have q1 := Fin.bind q
  cases hm : ma S with
  | no =>
    rw [hm] at q1
    exact q1
  | exc x fs =>
    rw [hm] at q1
    exact q1
  | ok ds =>
    rw [hm] at q1
    intro F1 H1 t1 vs rp
    refine ⟨F1, S, c.step t1, ?_⟩
    have q2 := Fin.bind (q1 F1 H1 t1)
    cases hn : mk S with
    | no =>
      rw [hn] at q2
      exact q2
    | exc x fs =>
      rw [hn] at q2
      exact q2
    | ok es =>
      rw [hn] at q2
      intro F2 H2 t2 zs rz
      have l1 : vs.length = n := rp.len.trans (hl.len S ds hm)
      have l2 : zs.length = k := rz.len.trans (hk.len S es hn)
      exact ⟨q2 F2 H2 t2 F2 H2 (.refl t2.sub) vs zs ((rp.mono t2.gf).app rz) l1 l2, l1, l2⟩
theorem jc_kw {e : Expr} {es : List Expr} {kws : List Keyword} {ks : List Str} {ma mk : MA} {n : Nat} (ha : JA X W (e :: es) ma) (hl : ALen ma n) (hk : JK X W kws mk) (hn : ALen mk ks.length) (hall : (backToKw pos (keywordEach kws X.env)).all (·.1.isSome) = true := by rfl) (hks : (backToKw pos (keywordEach kws X.env)).filterMap (·.1) = ks := by rfl)
    (he : starEach (e :: es) X.env = (false, eval e X.env) :: starEach es X.env := by rfl) (hpl : ((backTo pos (starEach (e :: es) X.env)).any (·.1) || (backToKw pos (keywordEach kws X.env)).any (·.1.isNone)) = false := by rfl) : JC X W (e :: es) kws pos n ks (aApp ma mk) :=
  ⟨fun f pins s σ H Q R kf I ⟨F, S, c, q⟩ h => by
    refine PySem.W.callWith_KW (h₀ := X.base) I.ok.mod.kin kf hall (thn (ha.pa.run pos pins s σ H _ I (app_split hl hn c q)) fun us s1 ⟨vs, H1, I1, r, q1⟩ => ?_) hpl he
    refine thn (hk.pk.run pos pins s1 σ H1 _ I1 q1) fun ws s2 ⟨zs, H2, I2, rz, q2, l1, l2⟩ => ⟨I2.kIn, ?_⟩
    rw [hks]
    exact h us ws s2 vs zs H2 I2 r rz q2 l1 l2⟩
theorem jc_kw0 {kws : List Keyword} {ks : List Str} {mk : MA} (hk : JK X W kws mk) (hn : ALen mk ks.length) (hall : (backToKw pos (keywordEach kws X.env)).all (·.1.isSome) = true := by rfl) (hks : (backToKw pos (keywordEach kws X.env)).filterMap (·.1) = ks := by rfl)
    (hpl : ((backTo pos (starEach [] X.env)).any (·.1) || (backToKw pos (keywordEach kws X.env)).any (·.1.isNone)) = false := by rfl) : JC X W [] kws pos 0 ks mk :=
  ⟨fun f pins s σ H Q R kf I ⟨F, S, c, q⟩ h => by
    refine PySem.W.callWith_KW0 (h₀ := X.base) I.ok.mod.kin kf hall ?_ hpl
    have w : tA (kp X) W mk σ H fun zs H2 => Q [] zs H2 ∧ zs.length = ks.length := by
      refine ⟨F, S, c, ?_⟩
      cases hm : mk S with
      | no =>
        rw [hm] at q
        exact q
      | exc x fs =>
        rw [hm] at q
        exact q
      | ok ds =>
        rw [hm] at q
        exact fun F1 H1 t zs rz => ⟨q F1 H1 t [] zs rz rfl (rz.len.trans (hn.len S ds hm)), rz.len.trans (hn.len S ds hm)⟩
    refine thn (hk.pk.run pos pins s σ H _ I w) fun ws s2 ⟨zs, H2, I2, rz, q2, l2⟩ => ⟨I2.kIn, ?_⟩
    rw [hks]
    exact h [] ws s2 [] zs H2 I2 .nil rz q2 rfl l2⟩
theorem jc_none : JC X W [] [] pos 0 [] aNil :=
  ⟨fun f pins s σ H Q R kf I ⟨F, S, c, q⟩ h => PySem.W.callWith_K0 I.kIn kf (h [] [] s [] [] H I .nil .nil (q F H (.refl c.sub) [] [] .nil rfl rfl) rfl rfl)⟩

/-! ### exceptions -/
/-- a class of exceptions with its fields, called so -/
structure Xq (P : Program) (w : World) (K : PySem.W.Frag) (mg : Str → Option Value) (base : Heap) (k : Nat) (c : Str) (fs : List Str) (n : Nat) (ks : List Str) (ix : List Nat) : Prop where
  cl : Xcl K (He.ga K c)
  ini : Xin K c
  mg_ : mg c = some (.ref (He.ga K c))
  fn : ∃ fd ps, FnOk P w K mg base (L2.CX P w) k (He.ma K (He.ga K c) "__init__") fd ps (spX (He.ga K c) fs) ∧ KwB K fd ps (n + 1) ks (0 :: ix) [] []
theorem pick_cons {α : Type} (a : α) (ix : List Nat) (l : List α) : pick (0 :: ix.map (· + 1)) (a :: l) = a :: pick ix l := by
  unfold pick
  rw [List.filterMap_cons, List.filterMap_map]
  rfl
def xnewQ (c : Str) (fs : List Str) (ix : List Nat) (ds : List D) : Out R := if (pick ix ds).length = fs.length then .ok ⟨false, .xob c (zipR fs (pick ix ds))⟩ else .no
theorem je_xnewQ {k j n : Nat} {c : Str} {fs ks : List Str} {ix : List Nat} {p : Pos} {es : List Expr} {kws : List Keyword} {m : MA} (E : Xq X.prog X.w X.K X.mg X.base k c fs n ks (ix.map (· + 1))) (hr : Room j X.A) (hk : k + 1 ≤ j) (hg : Gl X c) (ha : JC X W es kws pos n ks m) (h9 : decide (n ≤ 1000) = true := by rfl)
    (hdb : (c == ("__debug__" : Str)) = false := by decide) : JE X W (.Call (.Name c p) es kws pos) (mN (xnewQ c fs ix) m) := ⟨⟨fun pins s σ H Q I ⟨F0, S0, c0, q0⟩ => by
  have hr := hr.mono hk
  obtain ⟨fd, ps, F1, hb⟩ := E.fn
  obtain ⟨nm, qn, N, bs, bm, sn, sub, ab, col, dd, k0, k1, k2, k3, k5, hC, hbm⟩ := E.cl.o.cls
  refine wpAny_Call_Name_kw (ld_glob I hg E.mg_ ?_ hdb)
  refine ha.run _ pins s σ H (fun vs zs H1 => (pick ix (vs ++ zs)).length = fs.length ∧ ∀ a dx, H1 a = none → H1 dx = none → dx ≠ a → Q (.ref a) (upd (upd H1 dx (exd dx (zipR fs (pick ix (vs ++ zs))))) a (exo a (He.ga X.K c) (some dx)))) _ E.cl.o.kC I ⟨F0, S0, c0, Fin.imp (Fin.bind q0) fun ds F1 H1 t1 z vs zs rp _ _ => ?_⟩ fun us ws s1 vs zs H1 I1 r1 rz ⟨hz, q1⟩ l1 l2 => ?_
  · unfold xnewQ at z
    have rq := pick_rep rp ix
    by_cases hl : (pick ix ds).length = fs.length
    · rw [if_pos hl] at z
      refine ⟨rq.len.trans hl, fun a dx ha hd hne => ?_⟩
      obtain ⟨F', st, r⟩ := xob_new (c := c) (fs := fs) t1.sub ha hd hne rq
      exact z F' _ st (.ref a) (.inl ⟨rfl, r⟩)
    · rw [if_neg hl] at z
      exact z.elim
  obtain ⟨hp, g, dr, tk1, os⟩ := s1
  have sz : hp.objs.size ≤ hp.objs.size + 1 := Nat.le_succ _
  have n1 : H1 (hp.objs.size + 1) = none := I1.hok.fresh sz
  have kp1 : ∀ b o, hp.get? b = some o → ((hp.push (PySem.W.kdv_tup us)).push (PySem.HandSPX.excO (He.ga X.K c) hp.objs.size)).get? b = some o := fun b o z => Heap.get?_push_of_some _ (Heap.get?_push_of_some _ z)
  have g1 : ((hp.push (PySem.W.kdv_tup us)).push (PySem.HandSPX.excO (He.ga X.K c) hp.objs.size)).get? (hp.objs.size + 1) = some (PySem.HandSPX.excO (He.ga X.K c) hp.objs.size) := by heap_get
  have I2 : Inv X pins σ (upd H1 (hp.objs.size + 1) (exo (hp.objs.size + 1) (He.ga X.K c) none)) ⟨(hp.push (PySem.W.kdv_tup us)).push (PySem.HandSPX.excO (He.ga X.K c) hp.objs.size), g, dr, tk1, os⟩ := I1.laid (t' := tk1) kp1 sz (exo_ok g1)
  have r0 : Vals (V.ref (hp.objs.size + 1) :: (vs ++ (zs ++ []))) (Value.ref (hp.objs.size + 1) :: (us ++ (ws ++ []))) := .cons rfl (r1.append (rz.append hb.rel))
  have r2 := pick_vals r0 (0 :: ix.map (· + 1))
  rw [pick_cons, pick_cons] at r2
  have hq : spX (He.ga X.K c) fs (V.ref (hp.objs.size + 1) :: pick ix (vs ++ (zs ++ []))) (upd H1 (hp.objs.size + 1) (exo (hp.objs.size + 1) (He.ga X.K c) none)) (fun v H2 => v = .non ∧ Q (.ref (hp.objs.size + 1)) H2) (fun _ _ _ => False) := by
    refine ⟨_, pick ix (vs ++ (zs ++ [])), rfl, by rw [List.append_nil]; exact hz, upd_same, fun dx hdx hne => ⟨rfl, ?_⟩⟩
    have hd2 : H1 dx = none := by
      rw [upd_ne hne] at hdx
      exact hdx
    have := q1 _ dx n1 hd2 hne
    have e1 : upd (upd (upd H1 (hp.objs.size + 1) (exo (hp.objs.size + 1) (He.ga X.K c) none)) dx (exd dx (zipR fs (pick ix (vs ++ (zs ++ [])))))) (hp.objs.size + 1) (exo (hp.objs.size + 1) (He.ga X.K c) (some dx)) = upd (upd H1 dx (exd dx (zipR fs (pick ix (vs ++ zs))))) (hp.objs.size + 1) (exo (hp.objs.size + 1) (He.ga X.K c) (some dx)) := by
      rw [List.append_nil]
      funext y
      by_cases ya : y = hp.objs.size + 1
      · subst ya
        rw [upd_same, upd_same]
      · rw [upd_ne ya, upd_ne ya]
        by_cases yd : y = dx
        · subst yd
          rw [upd_same, upd_same]
        · rw [upd_ne yd, upd_ne yd, upd_ne ya]
    rw [e1]
    exact this
  have hus : us.length ≤ sizeLine := by
    have := of_decide_eq_true h9
    rw [← Paired.length r1, sizeLine_eq]
    omega
  have b2 := hb.to ⟨(hp.push (PySem.W.kdv_tup us)).push (PySem.HandSPX.excO (He.ga X.K c) hp.objs.size), g, dr, tk1, os⟩ (Value.ref (hp.objs.size + 1) :: us) ws I2.kIn (by rw [List.length_cons, ← r1.length, l1]) (rz.length.symm.trans l2)
  rw [show Value.ref (hp.objs.size + 1) :: us ++ (ws ++ []) = Value.ref (hp.objs.size + 1) :: (us ++ (ws ++ [])) from rfl, pick_cons] at b2
  refine wpAny_call (PySem.HandSPX.kw_call F.excBase_ValueError (fun Y => PySem.HandSPX.refsVE_contains Y bm hbm) (I1.kIn _ _ hC) (PySem.W.looks_findIn I1.kIn E.ini.i) (fun self => PySem.W.bind_fn I1.kIn self E.ini.t) hus
    (codeAny_mono (F1.run _ X.stack _ _ ⟨Value.ref (hp.objs.size + 1) :: us, ks.zip ws⟩ _ _ _ (fun _ _ _ => False) (hr.make (He.ga X.K c) us (ks.zip ws)) (I2.env0.make (He.ga X.K c) us (ks.zip ws)) b2 r2 hq) fun r s' z => ?_))
  cases r with
  | error er => exact passes_none pins σ _ _ er s' I2 z
  | ok fl =>
    cases fl with
    | ret u =>
      obtain ⟨v, H', I3, rv, ev, q3⟩ := I2.after z
      subst ev
      exact ⟨rv, ⟨V.ref (hp.objs.size + 1), H', I3, rfl, q3⟩⟩
    | next => exact z.elim
    | brk => exact z.elim
    | cont => exact z.elim⟩⟩
/-! ### instances, defs -/
/-- a plain class, called so: ix picks its __init__'s arguments (self left out) out of the values, the keywords' values, the defaults dds -/
structure Iq (P : Program) (w : World) (K : PySem.W.Frag) (mg : Str → Option Value) (base : Heap) (k np : Nat) (c : Str) (g : List D → Out (List (Str × D))) (n : Nat) (ks : List Str) (ix : List Nat) (dds : List D) : Prop where
  ex : ∃ fd ps dvs its, FnOk P w K mg base (L2.CX P w) k (He.ma K (He.ga K c) "__init__") fd ps (spI (kq P w K) np c g) ∧ Mk K (He.ga K c) (He.ma K (He.ga K c) "__init__") ∧ mg c = some (.ref (He.ga K c)) ∧ (∀ F, RepL (kq P w K) F dvs dds) ∧ KwB K fd ps (n + 1) ks (0 :: ix) dvs its
theorem run_makeQ {C f : Addr} {k n : Nat} {fd : FuncData} {ps ks : List Str} {sp : Sp} {ix : List Nat} {dvs : List V} {its : List Value} {E : XK} {pins : List (Addr × Obj)} {σ : L2.St} {H : Hp} {s : Shared} {Q : VK} {us ws : List Value} {vs zs : List V} (M : Mk (kp X) C f) (F : FnOk X.prog X.w X.K X.mg X.base (L2.CX X.prog X.w) k f fd ps sp) (hr : Room (k + 1) X.A)
    (hb : KwB (kp X) fd ps (n + 1) ks (0 :: ix.map (· + 1)) dvs its) (hx : PassesAt (L2.CX X.prog X.w) X σ E) (I : Inv X pins σ H s) (r : Vals vs us) (rz : Vals zs ws) (l1 : vs.length = n) (l2 : zs.length = ks.length)
    (h : ∀ x dx, H x = none → H dx = none → dx ≠ x → sp (.ref x :: pick ix (vs ++ (zs ++ dvs))) (upd (upd H dx (.own x)) x (.ins C dx [])) (fun v H2 => v = .non ∧ Q (.ref x) H2) E) :
    wpAny (model X.prog X.w) X.A (call (.ref C) us (ks.zip ws)) (EP X pins σ Q) X.xe s := by
  have hq := h (s.heap.objs.size + 1) s.heap.objs.size (I.hok.fresh (Nat.le_succ _)) (I.hok.fresh (Nat.le_refl _)) (Nat.ne_of_lt (Nat.lt_succ_self _))
  have I2 := Inv.made (C := C) I
  have r0 : Vals (V.ref (s.heap.objs.size + 1) :: (vs ++ (zs ++ dvs))) (Value.ref (s.heap.objs.size + 1) :: (us ++ (ws ++ its))) := .cons rfl (r.append (rz.append hb.rel))
  have r2 := pick_vals r0 (0 :: ix.map (· + 1))
  rw [pick_cons, pick_cons] at r2
  have b2 := fun s' (k' : X.K.In s'.heap) => hb.to s' (Value.ref (s.heap.objs.size + 1) :: us) ws k' (by rw [List.length_cons, ← r.length, l1]) (rz.length.symm.trans l2)
  rw [show Value.ref (s.heap.objs.size + 1) :: us ++ (ws ++ its) = Value.ref (s.heap.objs.size + 1) :: (us ++ (ws ++ its)) from rfl, pick_cons] at b2
  refine wpAny_call (make_map (f := f) I.kIn M.makes M.init (beq_iff_eq.mp M.fn) (codeAny_mono (F.run _ X.stack _ _ ⟨Value.ref (s.heap.objs.size + 1) :: us, ks.zip ws⟩ _ _ _ E (hr.make C us (ks.zip ws)) (I2.env0.make C us (ks.zip ws)) (b2 _ I2.kIn) r2 hq) fun r s' z => ?_))
  cases r with
  | error e => exact hx pins _ _ e s' I2 z
  | ok fl =>
    cases fl with
    | ret u =>
      obtain ⟨v, H', I3, rv, ev, q3⟩ := I2.after z
      subst ev
      exact ⟨rv, ⟨V.ref (s.heap.objs.size + 1), H', I3, rfl, q3⟩⟩
    | next => exact z.elim
    | brk => exact z.elim
    | cont => exact z.elim
def newQ (c : Str) (np : Nat) (g : List D → Out (List (Str × D))) (ix : List Nat) (dds ds : List D) : Out R := if (pick ix (ds ++ dds)).length = np then (g (pick ix (ds ++ dds))).bind fun fs => .ok ⟨true, .obj c fs⟩ else .no
theorem je_newQ {k j np n : Nat} {c : Str} {ks : List Str} {ix : List Nat} {dds : List D} {p : Pos} {es : List Expr} {kws : List Keyword} {g : List D → Out (List (Str × D))} {m : MA} (I : Iq X.prog X.w X.K X.mg X.base k np c g n ks (ix.map (· + 1)) dds) (hr : Room j X.A) (hk : k + 1 ≤ j) (hg : Gl X c) (tk : Takes X W) (ha : JC X W es kws pos n ks m)
    (hdb : (c == ("__debug__" : Str)) = false := by decide) : JE X W (.Call (.Name c p) es kws pos) (mN (newQ c np g ix dds) m) := ⟨⟨fun pins s σ H Q J ⟨F0, S0, c0, q0⟩ => by
  obtain ⟨fd, ps, dvs, its, h1, h2, h3, h4, h5⟩ := I.ex
  refine wpAny_Call_Name_kw (ld_glob J hg h3 ?_ hdb)
  refine ha.run _ pins s σ H (fun vs zs H1 => ∀ x dx, H1 x = none → H1 dx = none → dx ≠ x → spI (kp X) np c g (.ref x :: pick ix (vs ++ (zs ++ dvs))) (upd (upd H1 dx (.own x)) x (.ins (He.ga X.K c) dx [])) (fun v H2 => v = .non ∧ Q (.ref x) H2) (WE W σ)) _ h2.kp J ⟨F0, S0, c0, Fin.imp (Fin.bind q0) fun ds F1 H1 t1 z vs zs rp _ _ => ?_⟩
    fun us ws s1 vs zs H1 I1 r1 rz q1 l1 l2 => run_makeQ h2 h1 (hr.mono hk) h5 (passAt tk σ) I1 r1 rz l1 l2 q1
  unfold newQ at z
  have rq := pick_rep (rp.app (h4 F1)) ix
  rw [List.append_assoc] at rq
  by_cases hl : (pick ix (ds ++ dds)).length = np
  case neg =>
    rw [if_neg hl] at z
    exact z.elim
  rw [if_pos hl] at z
  intro x dx hx hdx hne
  have z2 := Fin.bind z
  refine ⟨F1, H1, x, dx, _, pick ix (ds ++ dds), rfl, hx, hdx, hne, rfl, t1.sub, rq, hl, ?_⟩
  cases hgd : g (pick ix (ds ++ dds)) with
  | no =>
    rw [hgd] at z2
    exact z2
  | exc c' fs =>
    rw [hgd] at z2
    exact fun F' H' d st ie => z2 F' H' d st ie
  | ok fs =>
    rw [hgd] at z2
    intro F' H' st ow hf
    have z3 := z2 F' H' st
    exact ⟨rfl, Fin.now st.sub z3 (.ref x) (.inr ⟨rfl, x, rfl, ow, t1.gh.free hx, hf⟩)⟩⟩⟩
/-- a def, called so -/
structure Fq (P : Program) (w : World) (K : PySem.W.Frag) (mg : Str → Option Value) (base : Heap) (k np : Nat) (x : Str) (g : List D → Out R) (n : Nat) (ks : List Str) (ix : List Nat) (dds : List D) : Prop where
  ex : ∃ f fd ps dvs its, FnOk P w K mg base (L2.CX P w) k f fd ps (spD (kq P w K) np g) ∧ mg x = some (.ref f) ∧ PySem.W.keepIn K (.ref f) = true ∧ (∀ F, RepL (kq P w K) F dvs dds) ∧ KwB K fd ps n ks ix dvs its
def fxQ (np : Nat) (g : List D → Out R) (ix : List Nat) (dds ds : List D) : Out R := if (pick ix (ds ++ dds)).length = np then g (pick ix (ds ++ dds)) else .no
theorem je_fxQ {k j np n : Nat} {x : Str} {ks : List Str} {ix : List Nat} {dds : List D} {p : Pos} {es : List Expr} {kws : List Keyword} {g : List D → Out R} {m : MA} (I : Fq X.prog X.w X.K X.mg X.base k np x g n ks ix dds) (hr : Room j X.A) (hk : k ≤ j) (hg : Gl X x) (tk : Takes X W) (ha : JC X W es kws pos n ks m)
    (hdb : (x == ("__debug__" : Str)) = false := by decide) : JE X W (.Call (.Name x p) es kws pos) (mN (fxQ np g ix dds) m) := ⟨⟨fun pins s σ H Q J ⟨F0, S0, c0, q0⟩ => by
  obtain ⟨f, fd, ps, dvs, its, h1, h2, h3, h4, h5⟩ := I.ex
  refine wpAny_Call_Name_kw (ld_glob J hg h2 ?_ hdb)
  refine ha.run _ pins s σ H (fun vs zs H1 => spD (kp X) np g (pick ix (vs ++ (zs ++ dvs))) H1 Q (WE W σ)) _ h3 J ⟨F0, S0, c0, Fin.imp (Fin.bind q0) fun ds F1 H1 t1 z vs zs rp _ _ => ?_⟩ fun us ws s1 vs zs H1 I1 r1 rz q1 l1 l2 => ?_
  · unfold fxQ at z
    have rq := pick_rep (rp.app (h4 F1)) ix
    rw [List.append_assoc] at rq
    by_cases hl : (pick ix (ds ++ dds)).length = np
    case neg =>
      rw [if_neg hl] at z
      exact z.elim
    rw [if_pos hl] at z
    refine ⟨F1, pick ix (ds ++ dds), t1.sub, rq, hl, ?_⟩
    cases hgd : g (pick ix (ds ++ dds)) with
    | no =>
      rw [hgd] at z
      exact z
    | exc c' fs =>
      rw [hgd] at z
      exact fun F' H' d st ie => z F' H' d st ie
    | ok r =>
      rw [hgd] at z
      exact fun v F' H' st rr => z F' H' st v (rr.imp id fun ⟨k1, a, k2, k3, k4, k5⟩ => ⟨k1, a, k2, k3, t1.gh.free k4, k5⟩)
  · have r2 := pick_vals (r1.append (rz.append h5.rel)) ix
    have b2 := h5.to s1 us ws I1.kIn (r1.length.symm.trans l1) (rz.length.symm.trans l2)
    refine wpAny_call (codeAny_mono (h1.run X.A X.stack s1 H1 ⟨us, ks.zip ws⟩ _ _ Q (WE W σ) (hr.mono hk) I1.env0 b2 r2 q1) fun r s' z => ?_)
    cases r with
    | error e => exact passAt tk σ pins H1 s1 e s' I1 z
    | ok fl =>
      cases fl with
      | ret u => exact I1.after z
      | next => exact z.elim
      | brk => exact z.elim
      | cont => exact z.elim⟩⟩
end
end VM

/-! x[::-1] -/
namespace VM
open PySem PySem.Spec PyProof.Rows L2
section
variable {prog : Program} {w : World} {A : Around} {E : Value → Shared → Prop} {s : Shared}
theorem adjust_rev (n : Nat) : Builtin.Slice.sliceAdjust none none (-1) (n : Int) = ((n : Int) - 1, -1) := by
  unfold Builtin.Slice.sliceAdjust
  have h1 : ((-1 : Int) < 0) = True := by simp
  simp only [h1, if_true]
theorem places_rev (n : Nat) : Builtin.Slice.slicePlaces ((n : Int) - 1) (-1) (-1) = n := by
  unfold Builtin.Slice.slicePlaces
  have h1 : ¬ ((-1 : Int) > 0) := by omega
  have h2 : (- -1 : Int) = 1 := by decide
  simp only [h1, if_false, h2, Int.ediv_one]
  first
    | (split <;> omega)
    | omega
theorem applied_rev {sl : Addr} {vs : Value} {n : Nat} {Q : Int × Int × Nat → Shared → Prop} (hs : s.heap.IsSliceOf sl .none .none vs) (ps : IsPart vs (some (-1))) (h : Q ((n : Int) - 1, -1, n) s) : wpAny (model prog w) A (Builtin.Slice.sliceApplied (.ref sl) (pure (n : Int))) Q E s := by
  obtain ⟨os, hos, hcs, hds⟩ := id hs
  cases ps with
  | int _ t =>
    unfold Builtin.Slice.sliceApplied Builtin.Slice.sliceFields
    refine wpAny_bind (wpAny_bind (wpAny_field hos hds (x := .none) rfl (wpAny_bind (wpAny_field hos hds (x := .none) rfl (wpAny_bind (wpAny_field hos hds (x := .int (-1) t) rfl (wpAny_pure ?_)))))))
    refine wpAny_bind (slicePart_int ?_)
    show wpAny _ _ (if ((-1 : Int) == 0) = true then _ else _) _ _ s
    rw [if_neg (by decide)]
    refine wpAny_bind (slicePart_none (wpAny_bind (slicePart_none (wpAny_bind (wpAny_pure ?_)))))
    show wpAny _ _ (match Builtin.Slice.sliceAdjust none none (-1) (n : Int) with | (lo, hi) => pure (lo, (-1 : Int), Builtin.Slice.slicePlaces lo hi (-1))) _ _ s
    rw [adjust_rev n]
    show wpAny _ _ (pure ((n : Int) - 1, (-1 : Int), Builtin.Slice.slicePlaces ((n : Int) - 1) (-1) (-1))) _ _ s
    rw [places_rev]
    exact wpAny_pure h
theorem filterMap_on {α β : Type} {f g : α → Option β} : ∀ {l : List α}, (∀ m ∈ l, f m = g m) → l.filterMap f = l.filterMap g
  | [], _ => rfl
  | a :: l, h => by
    rw [List.filterMap_cons, List.filterMap_cons, h a List.mem_cons_self, filterMap_on fun m hm => h m (List.mem_cons_of_mem _ hm)]
theorem pick_back (xs : Array Value) : ((List.range xs.size).filterMap fun (m : Nat) => xs[((xs.size : Int) - 1 + (m : Int) * -1).toNat]?).toArray = xs.toList.reverse.toArray := by
  rw [← PySem.W.krv_all xs, ← List.filterMap_reverse, ← PySem.W.krv_range, List.filterMap_map]
  congr 1
  refine filterMap_on fun m hm => ?_
  show xs[((xs.size : Int) - 1 + (m : Int) * -1).toNat]? = xs[xs.size - 1 - m]?
  congr 1
  have := List.mem_range.mp hm
  omega
theorem getItem_tuple_rev {t sl : Addr} {items : Array Value} {vs : Value} {Q : Value → Shared → Prop} (ht : IsTup s.heap t items) (hs : s.heap.IsSliceOf sl .none .none vs) (ps : IsPart vs (some (-1)))
    (h : Q (.ref s.heap.objs.size) { s with heap := s.heap.push { cls := .type "tuple", data := .seq items.toList.reverse.toArray } }) (hsz : items.size ≤ sizeLine) : wpAny (model prog w) A (getItem (.ref t) (.ref sl)) Q E s := by
  have hz : sizeOk (.seq items.toList.reverse.toArray) := by
    show items.toList.reverse.toArray.size ≤ sizeLine
    rw [List.size_toArray, List.length_reverse, Array.length_toList]
    exact hsz
  obtain ⟨os, hos, hcs, hds⟩ := id hs
  have hT : s.TypeIs (.ref sl) "slice" := ⟨os, hos, hcs⟩
  unfold getItem
  try with_reducible refine wpAny_holding ?_
  first | refine wpAny_bind (wpAny_pure ?_) | skip
  refine wpAny_bind (wpAny_sequenceKey ht.typeIs (by decide) ?_)
  refine wpAny_bind (wpAny_callSpecial?_slot (name := Str.ofString "__getitem__") ht.typeIs PyProof.Rows.slot_tuple_getitem (wpAny_call_entry PyProof.Rows.slot_tuple_getitem ht.typeIs entry_tuple_getitem ?_ (args_tuple_getitem _ _)))
  show wpAny _ _ (Builtin.Tuple.tupleItemsOf (.ref t) >>= _) _ _ s
  refine wpAny_bind (tupleItemsOf_ ht (wpAny_bind (wpAny_typeOf hT ?_)))
  rw [if_pos (by decide)]
  refine wpAny_bind (applied_rev hs ps ?_)
  have hno : ¬ ((((items.size : Int) - 1) == 0 && (-1 : Int) == 1 && items.size == items.size) = true) := by
    rw [show ((-1 : Int) == 1) = false from rfl, Bool.and_false, Bool.false_and]
    exact Bool.false_ne_true
  show wpAny _ _ (if (((items.size : Int) - 1) == 0 && (-1 : Int) == 1 && items.size == items.size) = true then _ else _) _ _ s
  rw [if_neg hno, pick_back]
  first
    | exact wpAny_bind (m := Builtin.Tuple.tupleExact _) (wpAny_newObj_type (wpAny_pure ⟨_, rfl, wpAny_pure h⟩) hz)
    | exact wpAny_bind (m := Builtin.Tuple.tupleExact _) (wpAny_newObj_type (wpAny_bind (wpAny_pure (wpAny_pure ⟨_, rfl, wpAny_pure h⟩))) hz)
    | exact wpAny_bind (wpAny_bind (m := Builtin.Tuple.tupleExact _) (wpAny_newObj_type (wpAny_pure (wpAny_pure ⟨_, rfl, wpAny_pure h⟩)) hz))
    | exact wpAny_bind (wpAny_bind (m := Builtin.Tuple.tupleExact _) (wpAny_newObj_type (wpAny_pure ⟨_, rfl, wpAny_pure h⟩) hz))
end
section
variable {X : Cx} {W : WX} {pos : Pos}
def rRev (K : Kp) : V → Hp → VK → Prop := fun x H Q => (∃ a xs, x = .ref a ∧ SqL K H a xs ∧ ∀ p, H p = none → Q (.ref p) (upd H p (.lst xs.reverse))) ∨ ∃ a xs, x = .ref a ∧ SqT K H a xs ∧ ∀ p its n, H p = none → Q (.ref p) (upd H p (.frz (tupO its n) (.tup xs.reverse)))
theorem vals_rev' {xs : List V} {us : List Value} (r : Vals xs us) : Vals xs.reverse us.reverse := by
  induction r with
  | nil => exact .nil
  | cons h t ih =>
    rw [List.reverse_cons, List.reverse_cons]
    exact ih.append (.cons h .nil)
theorem pe_rev {e s1 : Expr} {te : TE} {t1 : TO} {p2 : Pos} (hst : PO X (some s1) t1) (he : PE X e te) :
    PE X (.Subscript e (.Slice none none (some s1) p2) pos) (fun σ H Q => te σ H fun x H1 => t1 σ H1 fun o H2 => o = some (-1) ∧ rRev (kp X) x H2 Q) := by
  refine ⟨fun pins s σ H Q I h => ?_⟩
  refine Subscript_ (thn (he.run pins s σ H _ I h) fun v s1' ⟨x, H1, I1, r1, q1⟩ => ?_)
  refine wpAny_Slice ?_
  rw [evalPart_none]
  refine wpAny_pure (wpAny_pure ?_)
  refine thn (hst.run pins s1' σ H1 _ I1 q1) fun vs s3 ⟨o, H3, I3, ps, eo, q1⟩ => ?_
  subst eo
  have I4 : Inv X pins σ H3 { s3 with heap := s3.heap.push { cls := .type "slice", data := .fields #[.none, .none, vs] } } := I3.kept (t' := s3.toks) fun b ob q => Heap.get?_push_of_some _ q
  have hsl := Heap.IsSliceOf.new s3.heap .none .none vs
  show wpAny (model X.prog X.w) X.A (subscriptTail e (.Slice none none (some s1) p2) v (.ref s3.heap.objs.size)) (EP X pins σ Q) X.xe { s3 with heap := s3.heap.push { cls := .type "slice", data := .fields #[.none, .none, vs] } }
  rcases q1 with ⟨a, xs, rfl, hx, q⟩ | ⟨a, xs, rfl, hx, q⟩
  · cases r1
    obtain ⟨its, r, ht, hz⟩ := I4.list hx
    refine tail_any (ops := [.ref a, .ref s3.heap.objs.size]) ht.isList.typeIs slot_list_getitem.lookup (wpAny_getItem_list_slice ht.isList hsl .none .none ps (by simp) ?_ (by rw [List.size_toArray, ← r.length]; exact hz)) (by with_unfolding_all rfl)
    rw [PySem.W.krv_pick]
    have n1 := I4.hok.fresh (Nat.le_refl _)
    refine ⟨.ref _, _, I4.laid (t' := s3.toks) (o := .lst xs.reverse) (fun b ob q => Heap.get?_push_of_some _ q) (Nat.le_refl _) ?_, rfl, q _ n1⟩
    exact ⟨by rw [List.length_reverse]; exact hz, its.reverse, 0, vals_rev' r, Heap.get?_push_size _ rfl⟩
  · cases r1
    obtain ⟨its, r, ht, hz⟩ := I4.tuple hx
    refine tail_any (ops := [.ref a, .ref s3.heap.objs.size]) ht.typeIs PyProof.Rows.slot_tuple_getitem.lookup (getItem_tuple_rev ht hsl ps ?_ (by rw [List.size_toArray, ← r.length]; exact hz)) (by with_unfolding_all rfl)
    have n1 := I4.hok.fresh (Nat.le_refl _)
    exact ⟨.ref _, _, I4.laid (t' := s3.toks) (fun b ob q => Heap.get?_push_of_some _ q) (Nat.le_refl _) (tupO_ok (its := its.reverse) (n := 0) (by rw [List.length_reverse]; exact hz) (vals_rev' r) (Heap.get?_push_size _ rfl)), rfl, q _ _ _ n1⟩
def revD (x : D) : Out R := match x with
  | .lst ds => owO (.lst ds.reverse)
  | .tup ds => fzO (.tup ds.reverse)
  | _ => .no
def mRev (a : MV) (o : MO) : ME := fun S => (a S).bind fun x => (o S).bind fun l => if l = some (-1) then revD x else .no
theorem je_rev {e s1 : Expr} {p2 : Pos} {ma : MV} {mo : MO} (ha : JV X W e ma) (ho : JO X W (some s1) mo) : JE X W (.Subscript e (.Slice none none (some s1) p2) pos) (mRev ma mo) :=
  ⟨pe_imp (pe_rev ho.po ha.pe) fun σ H Q ⟨F, S, c, q⟩ => ⟨F, S, c, Fin.imp (Fin.bind q) fun x F1 H1 t1 z1 v1 r1 => ⟨F1, S, c.step t1, Fin.imp (Fin.bind z1) fun l F2 H2 t2 z2 => by
    have c2 := (c.step t1).step t2
    have hx : Vw (kp X) F2 S σ v1 x := r1.mono t2.gf
    by_cases hl : l = some (-1)
    · rw [if_pos hl] at z2
      refine ⟨hl, ?_⟩
      have q : Fin (kp X) W F2 H2 σ (revD x) (kE (kp X) H2 Q) := Fin.kE_mono (t1.gh.trans t2.gh) z2
      unfold revD at q
      split at q
      · obtain ⟨a, vs, rfl, h1, r⟩ := hx.lst c2
        exact .inl ⟨a, vs, rfl, .inl (.inl h1), fin_lst c2 q r.rev⟩
      · obtain ⟨a, vs, rfl, h1, h1', r⟩ := hx.tup c2
        exact .inr ⟨a, vs, rfl, h1', fin_tup c2 q r.rev⟩
      · exact q.elim
    · rw [if_neg hl] at z2
      exact z2.elim⟩⟩⟩
end
end VM

/-! what the head tells of a text's exceptions; evaluation -/
namespace VM
open PySem PySem.Spec PyProof.Rows L2
abbrev Tab := List (Str × Bool)
/-- classes of exceptions that are made, their fields, the classes that are asked for by isinstance (own, built-in), by except -/
structure XL where
  xc : List Str
  xn : List (Str × Str)
  xk : List (Str × Tab)
  xb : List (String × Tab)
  xm : List (Str × Tab)
structure Tz (xl : XL) (K : PySem.W.Frag) : Prop where
  cl : ∀ {i : Nat} {c : Str}, xl.xc[i]? = some c → Xcl K (He.ga K c)
  ini : ∀ {i : Nat} {c : Str}, xl.xc[i]? = some c → Xin K c
  na : ∀ {i : Nat} {p : Str × Str}, xl.xn[i]? = some p → PySem.W.findIn K (.ref (He.ga K p.1)) p.2 = some none
  kit : ∀ {i : Nat} {p : Str × Tab}, xl.xk[i]? = some p → ∀ q ∈ p.2, Xcl K (He.ga K q.1) ∧ PySem.W.kitOne K (.ref (He.ga K q.1)) (.ref (He.ga K p.1)) = some q.2
  kib : ∀ {i : Nat} {p : String × Tab}, xl.xb[i]? = some p → ∀ q ∈ p.2, Xcl K (He.ga K q.1) ∧ PySem.W.kitOne K (.ref (He.ga K q.1)) (.type p.1) = some q.2
  exm : ∀ {i : Nat} {p : Str × Tab}, xl.xm[i]? = some p → ∀ q ∈ p.2, PySem.W.exmOne K (.ref (He.ga K q.1)) (.ref (He.ga K p.1)) = some q.2
def xlB (xl : XL) (K : PySem.W.Frag) : Bool := (xl.xc.all (fun c => xclB K c && xinB K c) && xl.xn.all fun p => dq (PySem.W.findIn K (.ref (He.ga K p.1)) p.2) (some none)) &&
  (xl.xk.all (fun p => p.2.all fun q => xclB K q.1 && dq (PySem.W.kitOne K (.ref (He.ga K q.1)) (.ref (He.ga K p.1))) (some q.2)) &&
  (xl.xb.all (fun p => p.2.all fun q => xclB K q.1 && dq (PySem.W.kitOne K (.ref (He.ga K q.1)) (.type p.1)) (some q.2)) &&
  xl.xm.all fun p => p.2.all fun q => dq (PySem.W.exmOne K (.ref (He.ga K q.1)) (.ref (He.ga K p.1))) (some q.2)))
theorem tz_of {xl : XL} {K : PySem.W.Frag} (h : xlB xl K = true) : Tz xl K := by
  unfold xlB at h
  simp only [Bool.and_eq_true, List.all_eq_true] at h
  obtain ⟨⟨h1, h2⟩, h3, h4, h5⟩ := h
  exact ⟨fun {i c} e => xclB_ok (h1 c (List.mem_of_getElem? e)).1, fun {i c} e => xinB_ok (h1 c (List.mem_of_getElem? e)).2, fun {i p} e => dq_ok (h2 p (List.mem_of_getElem? e)),
    fun {i p} e q hq => ⟨xclB_ok (h3 p (List.mem_of_getElem? e) q hq).1, dq_ok (h3 p (List.mem_of_getElem? e) q hq).2⟩, fun {i p} e q hq => ⟨xclB_ok (h4 p (List.mem_of_getElem? e) q hq).1, dq_ok (h4 p (List.mem_of_getElem? e) q hq).2⟩,
    fun {i p} e q hq => dq_ok (h5 p (List.mem_of_getElem? e) q hq)⟩
def exOfX (cs : List (Str × D)) (xl : XL) (K : PySem.W.Frag) : Bool := exOf cs K && xlB xl K
theorem txz_of {fn : List He.DefD} {glo fr : List Str} {cs : List (Str × D)} {xl : XL} {cl : List Str} {na : List (Str × Str)} {w : World} {h0 h : Heap} {K : PySem.W.Frag} {mg : Str → Option Value} (X : K.In h) (G : h.Ns mainGlobals mg) (c : He.SaysX (faOf glo fr cl na) fn [] [] (exOfX cs xl) w h0 K) : Tx fn glo fr cs cl na K mg ∧ Tz xl K := by
  obtain ⟨m1, m2⟩ := Bool.and_eq_true_iff.mp c.more
  exact ⟨tx_of X G ⟨c.t, m1, c.hd, c.out, c.empty⟩, tz_of m2⟩
/-- a class of exceptions that is raised -/
theorem xk_mk {P : Program} {w : World} {K : PySem.W.Frag} {mg : Str → Option Value} {base : Heap} {c : Str} {fs : List Str} {fd : FuncData} {ps : List Str} (cl : Xcl K (He.ga K c)) (ini : Xin K c) (hm : mg c = some (.ref (He.ga K c))) (F : FnOk P w K mg base (L2.CX P w) 1 (He.ma K (He.ga K c) "__init__") fd ps (spX (He.ga K c) fs))
    (hb : ∀ (s : Shared) (us : List Value), us.length = ps.length → BindsTo s fd ⟨us, []⟩ (ps.zip us)) : Xk P w K mg base 1 c fs := ⟨cl, ini, hm, fd, ps, F, bindsK hb⟩
section
variable {P : Program} {w : World} {K : PySem.W.Frag} {mg : Str → Option Value} {base : Heap}
theorem fi_mk {x qual c : Str} {params : Arguments} {body : List Stmt} {scope : Scope} {dvs : List V} {kws : List (Str × V)} {N ps : List Str} {k n : Nat} {m : MS} {g : List D → Out (List (Str × D))} (F : ∃ fd, FunD K x qual params body scope dvs kws (He.ma K (He.ga K c) "__init__") fd) (S : FnScope N ps scope) (hn : ps.length = n + 1) (hN : n < N.length) (h0 : N.head? = some ("self" : Str))
    (hg : ∀ ds, ds.length = n → finI c (m (inI N.length c ds)) = g ds)
    (hb : ∀ (cdv : Value) (A : Around) (outer : List Env) (s : Shared) (H : Hp) (E : XK), Room k (A.deeper (envOfC qual scope s.heap.objs.size (He.ma K (He.ga K c) "__init__") cdv)) →
      JSs (cxOf (L2.CX P w) P w K mg base N qual scope (He.ma K (He.ga K c) "__init__") cdv A outer s H E) (fun cls d _ H' => E cls d H') body m) :
    ∃ fd, FunD K x qual params body scope dvs kws (He.ma K (He.ga K c) "__init__") fd ∧ FnOk P w K mg base (L2.CX P w) (k + 1) (He.ma K (He.ga K c) "__init__") fd ps (spI (kq P w K) n c g) := by
  obtain ⟨fd, F⟩ := F
  exact ⟨fd, F, init_ok F S hn hN h0 hg hb⟩
theorem ix_mk2 {x qual c : Str} {params : Arguments} {body : List Stmt} {scope : Scope} {dvs : List V} {kws : List (Str × V)} {ps : List Str} {k n : Nat} {ar : List (List D)} {g : List D → Out (List (Str × D))}
    (F : ∃ fd, FunD K x qual params body scope dvs kws (He.ma K (He.ga K c) "__init__") fd ∧ FnOk P w K mg base (L2.CX P w) k (He.ma K (He.ga K c) "__init__") fd ps (spI (kq P w K) n c g)) (hm : mg c = some (.ref (He.ga K c))) (M : Mk K (He.ga K c) (He.ma K (He.ga K c) "__init__"))
    (hbd : ∀ fd, FunD K x qual params body scope dvs kws (He.ma K (He.ga K c) "__init__") fd → ∀ dds ∈ ar, ∃ dvs ds, (∀ F, RepL (kq P w K) F dvs dds) ∧ Vals dvs ds ∧ Binds K fd ps ds) : Ix P w K mg base k n ar c g := by
  obtain ⟨fd, F, O⟩ := F
  exact ⟨fd, ps, O, M, hm, hbd fd F⟩
end
end VM

/-! division of ints of any size: what the head must tell for it -/
namespace VM
open PySem PySem.Spec PyProof.Rows L2
/-- the heap's facts that a very long division asks for -/
def SeerK (K : PySem.W.Frag) (mg : Str → Option Value) : Prop := ∀ h : Heap, K.In h → h.Ns mainGlobals mg → (∃ mb, h.Ns builtinsNs mb ∧ ∀ x : Str, x ≠ "__name__" → mb x = bootBuiltins x) → h.NoSeer
def mainB (K : PySem.W.Frag) : Bool := match PySem.W.nsIn K mainGlobals "__builtins__" with
  | some (some (.ref bm)) => (match K.lookup bm with
    | some o => dq o.cls (.type "module") && dq o.dict (some builtinsNs)
    | none => false)
  | _ => false
def seerB (K : PySem.W.Frag) : Bool := (PySem.W.nsOkIn K cStatics && (dq (PySem.W.nsIn K cStatics "sys.audit-hooks") (some none) && dq (PySem.W.nsIn K cStatics "sys.dict") (some none))) && ((PySem.W.nsOkIn K sysModules && dq (PySem.W.nsIn K sysModules "_pylong") (some none)) && mainB K)
theorem seerB_ok {K : PySem.W.Frag} {mg : Str → Option Value} (h : seerB K = true) : SeerK K mg := by
  intro hp X G B
  unfold seerB at h
  simp only [Bool.and_eq_true] at h
  obtain ⟨⟨a1, a2, a3⟩, ⟨b1, b2⟩, c⟩ := h
  refine ⟨⟨_, .of_isNs (PySem.W.isNs_of_in X a1), PySem.W.nsMap_none_of_in X a1 (dq_ok a2), PySem.W.nsMap_none_of_in X a1 (dq_ok a3)⟩, ⟨_, .of_isNs (PySem.W.isNs_of_in X b1), PySem.W.nsMap_none_of_in X b1 (dq_ok b2)⟩, B, ?_⟩
  unfold mainB at c
  split at c
  · rename_i bm e
    cases hb : K.lookup bm with
    | none =>
      rw [hb] at c
      cases c
    | some o =>
      rw [hb] at c
      simp only [Bool.and_eq_true] at c
      exact ⟨mg, bm, o, G, PySem.W.mg_of X G e, X _ _ hb, dq_ok c.1, dq_ok c.2⟩
  · cases c
structure SeerN (P : Program) (K : PySem.W.Frag) (mg : Str → Option Value) : Prop where
  n : SeerK K mg
  t : P.given.tree = none
abbrev AlY : Type := He.AlT × Bool
def obsY (n : Nat) (more : List Addr) (fa : List He.Fa) (fn : List He.DefD) (ex : PySem.W.Frag → Bool) (g : Addr → Option Obj) : AlY := (He.obsT fa fn [] (He.frT g (He.asD g n ++ more)), ex (He.frT g (He.asD g n ++ more)))
def hookY (n : Nat) (more : List Addr) (fa : List He.Fa) (fn : List He.DefD) (ex : PySem.W.Frag → Bool) : PySem.W.Hook where
  α := AlY
  obs := fun s => obsY n more fa fn ex s.heap.get?
  val := fun w => (He.valT fn [] w, true)
  says := fun w h => ∃ K : PySem.W.Frag, K.In h ∧ He.SaysX fa fn [] [] ex w h K
  of := fun w h e => ⟨_, He.frT_in, ⟨congrArg (fun z : AlY => z.1) e, congrArg (fun z : AlY => z.2) e, (fun p hp => nomatch hp), (fun p hp => nomatch hp), (fun p hp => nomatch hp)⟩⟩
  keeps := fun _ _ _ ⟨K, hK, c⟩ k => ⟨K, PySem.W.Frag.In.keeps hK k, ⟨c.t, c.more, c.hd, c.out, fun p hp => nomatch hp⟩⟩
theorem obsY_eq {n : Nat} {more : List Addr} {fa : List He.Fa} {fn : List He.DefD} {ex : PySem.W.Frag → Bool} {g : Addr → Option Obj} {s : Shared} (h : ∀ a, g a = s.heap.get? a) : obsY n more fa fn ex g = (hookY n more fa fn ex).obs s := by
  have e : g = s.heap.get? := funext h
  rw [e] <;> rfl
def exOfY (cs : List (Str × D)) (xl : XL) (K : PySem.W.Frag) : Bool := exOfX cs xl K && seerB K
theorem tyz_of {fn : List He.DefD} {glo fr : List Str} {cs : List (Str × D)} {xl : XL} {cl : List Str} {na : List (Str × Str)} {w : World} {h0 h : Heap} {K : PySem.W.Frag} {mg : Str → Option Value} (X : K.In h) (G : h.Ns mainGlobals mg) (c : He.SaysX (faOf glo fr cl na) fn [] [] (exOfY cs xl) w h0 K) : Tx fn glo fr cs cl na K mg ∧ Tz xl K ∧ SeerK K mg := by
  obtain ⟨m1, m2⟩ := Bool.and_eq_true_iff.mp c.more
  obtain ⟨h1, h2⟩ := txz_of X G ⟨c.t, m1, c.hd, c.out, c.empty⟩
  exact ⟨h1, h2, seerB_ok m2⟩
/-- // by a positive int of any size, deep below the limit of frames -/
def divP : D → D → Out R
  | .int i, .int j => if 0 < j then fzO (.int (i / j)) else .no
  | _, _ => .no
section
variable {X : Cx} {W : WX}
theorem room_pylong {k : Nat} {pins : List (Addr × Obj)} {σ : L2.St} {H : Hp} {s : Shared} (N : SeerK X.K X.mg) (hr : Room k X.A) (hk : 40 ≤ k) (st : X.stack = X.env :: X.outer) (ht : X.prog.given.tree = none) (hg : X.env.scope.isGenerator = false) (hc : X.env.scope.isCoroutine = false) (I : Inv X pins σ H s) : PySem.PylongRoom (model X.prog X.w) X.A s := by
  have n1 : s.heap.NoSeer := (N X.base I.ok.mod.kin I.ok.mod.glob I.ok.mod.blt).keeps I.bk
  refine PySem.PylongRoom.of I.nolimit ?_ (PySem.SeerAt.of (env := X.env) (l := X.outer) n1 ht (by rw [I.ok.frames, st]) hg hc I.ok.blt I.ok.glob)
  have := hr.dp
  show X.A.depth + 100 < recursionLimit
  omega
theorem op_divPD {k : Nat} (N : SeerK X.K X.mg) (hr : Room k X.A) (hk : 40 ≤ k) (st : X.stack = X.env :: X.outer) (ht : X.prog.given.tree = none) (hg : X.env.scope.isGenerator = false) (hc : X.env.scope.isCoroutine = false) : OpD X W (binaryOp .FloorDiv) divP :=
  ⟨rI (fun _ j => 0 < j) fun i j => .int (i / j), (by
    rintro pins s σ H x y v u Q I rx ry ⟨i, j, rfl, rfl, hj, q⟩
    obtain ⟨t, rfl⟩ := rx
    obtain ⟨t', rfl⟩ := ry
    refine floordiv_int (by omega) ?_ (.inr (room_pylong N hr hk st ht hg hc I))
    rw [Int.fdiv_eq_ediv_of_nonneg i (by omega)]
    exact ⟨.int (i / j), _, I.tok _, ⟨_, rfl⟩, q⟩), fun F S σ H x y dx dy Q c hx hy q => by
    unfold divP at q
    split at q
    · split at q
      · rename_i h
        exact ⟨_, _, hx.int c, hy.int c, h, fin_int c q⟩
      · exact q.elim
    · exact q.elim⟩
end
end VM

/-! evaluation of exceptions, keywords, x[::-1], one step a lemma -/
namespace VM
open PySem L2
def SOut.rz (o : Out (List D)) (S : Ss) (c : Str) (fs : List Str) : SOut := ofOut S o fun ds => .exc S c (zipR fs ds)
def SOut.tr (o : SOut) (hs : List Hd) : SOut := match o with
  | .exc S c fs => hdl hs S c fs
  | o => o
def Out.rv2 (a : Out D) (o : Out (Option Int)) : Out R := a.bind fun x => o.bind fun l => if l = some (-1) then revD x else .no
def Out.ap2 (a b : Out (List D)) : Out (List D) := a.bind fun x => b.bind fun y => .ok (x ++ y)
/-- what comes of a def, exceptions too -/
def GivesX (o : Out R) (P : R → Prop) (E : Str → List (Str × D) → Prop) : Prop := match o with
  | .ok r => P r
  | .exc c fs => E c fs
  | .no => False
theorem gives_finX {o : SOut} {P : R → Prop} {E : Str → List (Str × D) → Prop} (h : Wp o { nx := fun _ => P ⟨false, .non⟩, rt := P, ex := E }) : GivesX (finO o) P E := by
  obtain ⟨h⟩ := h
  cases o <;> exact h
section
variable {S : Ss} {v u : MV} {i : Nat} {d e : D} {c : Str} {fs : List Str} {xs : List (Str × D)} {as bs : MA} {ds es : List D} {hs : List Hd} {a : MS} {mo : MO} {r : R} {cs : List Str} {f : Str} {k : Kk} {m : MS}
theorem wp_ex : Wp (.exc S c xs) k = k.ex c xs := propext ⟨fun h => h.run, fun h => ⟨h⟩⟩
theorem ev_rz : raS c fs as S = SOut.rz (as S) S c fs := rfl
theorem rz_ok : SOut.rz (.ok ds) S c fs = .exc S c (zipR fs ds) := rfl
theorem ev_tr : tryS a hs S = SOut.tr (a S) hs := rfl
theorem tr_nx : SOut.tr (.nx S) hs = .nx S := rfl
theorem tr_ret : SOut.tr (.ret r) hs = .ret r := rfl
theorem tr_bk : SOut.tr (.bk S) hs = .bk S := rfl
theorem tr_ct : SOut.tr (.ct S) hs = .ct S := rfl
theorem tr_no : SOut.tr (.no) hs = .no := rfl
theorem tr_exc : SOut.tr (.exc S c xs) hs = hdl hs S c xs := rfl
theorem un_ret : unS i (.ret r) = .ret r := rfl
theorem un_nx : unS i (.nx S) = .nx (S.set i .no) := rfl
theorem nox_ret : noX (.ret r) = .ret r := rfl
theorem nox_nx : noX (.nx S) = .nx S := rfl
theorem ev_xf : mXf cs f v S = Out.bind (v S) (xlk cs f) := rfl
theorem ev_rev : mRev v mo S = Out.rv2 (v S) (mo S) := rfl
theorem rv2_ok : Out.rv2 (.ok d) (.ok (some (-1))) = revD d := rfl
theorem d_revl : revD (.lst ds) = .ok ⟨true, .lst ds.reverse⟩ := rfl
theorem d_revt : revD (.tup ds) = .ok ⟨false, .tup ds.reverse⟩ := rfl
theorem ev_ap2 : aApp as bs S = Out.ap2 (as S) (bs S) := rfl
theorem ap2_ok : Out.ap2 (.ok ds) (.ok es) = .ok (ds ++ es) := rfl
theorem n_xob : isNon (.xob c xs) = false := rfl
theorem n_obj : isNon (.obj c xs) = false := rfl
theorem d_divP {i j : Int} (h : 0 < j) : divP (.int i) (.int j) = .ok ⟨false, .int (i / j)⟩ := if_pos h
end
theorem hd_yes {tab : Tab} {i : Nat} {m : MS} {r : List Hd} {S : Ss} {c : Str} {xs : List (Str × D)} (h : tab.lookup c = some true) : hdl ((tab, some i, m) :: r) S c xs = unS i (m (S.set i (.fz (.xob c xs)))) := by
  unfold hdl
  rw [h]
theorem hd_yes0 {tab : Tab} {m : MS} {r : List Hd} {S : Ss} {c : Str} {xs : List (Str × D)} (h : tab.lookup c = some true) : hdl ((tab, none, m) :: r) S c xs = noX (m S) := by
  unfold hdl
  rw [h]
theorem hd_no {tab : Tab} {o : Option Nat} {m : MS} {r : List Hd} {S : Ss} {c : Str} {xs : List (Str × D)} (h : tab.lookup c = some false) : hdl ((tab, o, m) :: r) S c xs = hdl r S c xs := by
  conv => lhs; unfold hdl
  rw [h]
theorem xis_at {tab : Tab} {c : Str} {xs : List (Str × D)} {b : Bool} (h : tab.lookup c = some b) : xisD tab (.xob c xs) = .ok ⟨false, .bl b⟩ := by
  unfold xisD
  simp only [h]
theorem xlk_at {cs : List Str} {f c : Str} {xs : List (Str × D)} {d : D} (h : cs.contains c = true) (h2 : lkF f xs = some d) : xlk cs f (.xob c xs) = .ok ⟨false, d⟩ := by
  unfold xlk
  simp only [h, h2, if_true]
end VM

local macro_rules | `(tactic| walk_at "vm") => `(tactic| simp only [VM.ev_seq, VM.th_nx, VM.th_ret, VM.th_no, VM.th_bk, VM.th_ct, VM.th_exc, VM.ev_nx, VM.ev_bk, VM.ev_ct, VM.ev_noS, VM.ev_as, VM.st_okf, VM.st_okt, 
  VM.st_no, VM.st_exc, VM.ev_re, VM.rt_ok, VM.rt_no, VM.rt_exc, VM.ev_dr, VM.dr_ok, VM.dr_no, VM.dr_exc, VM.ev_if, VM.ite_t, VM.ite_f, VM.ite_no, 
  VM.ite_exc, VM.ev_fo, VM.fo_ok, VM.fo_no, VM.fo_exc, VM.ev_wh, VM.ev_ag, VM.ag_ok, VM.ag_no, VM.ag_exc, VM.ofO_s, VM.ofO_n, VM.ev_ap, VM.ap_ok, 
  VM.ev_rv, VM.rv_fz, VM.rv_own, VM.ev_rn, VM.ev_frw, VM.ev_frz0, VM.ev_frzc, VM.frz_own, VM.frz_fz, VM.frz_no, VM.frz_none, VM.slR_f, VM.slR_o, 
  VM.fin_nx, VM.fin_ret, VM.fin_no, VM.fin_exc, VM.ev_fzO, VM.ev_owO, VM.opt_s, VM.opt_n, VM.ev_mZ, VM.ev_vE, VM.zz_ok, VM.zz_no, VM.zz_exc, VM.ev_vv, 
  VM.look_fz, VM.look_own, VM.ev_mv, VM.read_fz, VM.ev_mC, VM.ev_mN, VM.ev_mK, VM.ev_m1, VM.ev_m2, VM.b2_ok, VM.b2_no, VM.b2_no2, VM.ev_m3, VM.b3c_ok, 
  VM.c3_t, VM.c3_f, VM.ev_aNil, VM.ev_aCons, VM.cn_ok, VM.ev_mB, VM.ev_ntV, VM.ntV_ok, VM.ev_mIf, VM.oite_t, VM.oite_f, VM.ev_tB, VM.tb_ok, VM.ev_tNot, 
  VM.ntB_ok, VM.ev_tAnd, VM.andB_t, VM.andB_f, VM.ev_tOr, VM.orB_t, VM.orB_f, VM.ev_mMs, VM.mm_s, VM.ev_mSl, VM.b3_ok, VM.ev_oN, VM.ev_oS, VM.osm_ok, 
  VM.ev_iV, VM.ev_iR, VM.it_l, VM.it_t, VM.it_r, VM.it_s, VM.ev_mLc, VM.lc_ok, VM.lcF_ok, VM.ev_gN, VM.ev_gT, VM.ev_gs0, VM.ev_gsC, VM.obind_s, VM.ev_w0, 
  VM.ev_wc, VM.wp_nx, VM.wp_ret, VM.wp_bk, VM.wp_ct, VM.tt_s, VM.te_s, VM.givesD_ok, VM.ev_in0, VM.d_add, VM.d_sub, VM.d_adds, VM.d_addl, VM.d_addt, 
  VM.d_neg, VM.d_lt, VM.d_le, VM.d_gt, VM.d_ge, VM.d_isn, VM.d_isb, VM.n_non, VM.n_int, VM.n_str, VM.n_bl, VM.n_tup, VM.n_lst, VM.d_lenl, VM.d_lent, 
  VM.d_lenr, VM.d_lens, VM.d_int, VM.d_intb, VM.d_min, VM.d_max, VM.d_tupl, VM.d_tupt, VM.d_listl, VM.d_listt, VM.d_tupD, VM.d_lstD, VM.d_ixl, VM.d_ixt, 
  VM.d_ixr, VM.d_ixs, VM.d_sll, VM.d_slt, VM.d_sls, VM.d_rng1, VM.d_rng2, VM.nr_0, VM.nr_n, VM.nr_f, VM.nr_o, VM.nr_r, VM.ls_0, VM.ls_n, VM.ls_f, 
  VM.ls_o, VM.ls_r, VM.frz_row, VM.ev_rw, VM.rw_ok, VM.ev_ra, VM.ra_ok, VM.ev_si, VM.si_ok, VM.si2_ok, VM.ev_po, VM.ev_pp, VM.pp_ok, VM.ev_fs, VM.fs_ok, 
  VM.ev_fld, VM.ev_mq, VM.mq_l, VM.mq_t, VM.ev_av, VM.av_t, VM.av_f, VM.ev_ov, VM.ov_t, VM.ov_f, VM.d_new, VM.d_idxl, VM.d_idxt, VM.d_sorl, VM.d_sort, 
  VM.d_tr1, VM.d_lr1, VM.q_int_non, VM.q_int_bl, VM.q_int_int, VM.q_int_str, VM.q_int_tup, VM.q_int_lst, VM.q_bool_non, VM.q_bool_bl, VM.q_bool_int, 
  VM.q_bool_str, VM.q_bool_tup, VM.q_bool_lst, VM.q_str_non, VM.q_str_bl, VM.q_str_int, VM.q_str_str, VM.q_str_tup, VM.q_str_lst, VM.q_tuple_non, 
  VM.q_tuple_bl, VM.q_tuple_int, VM.q_tuple_str, VM.q_tuple_tup, VM.q_tuple_lst, VM.q_list_non, VM.q_list_bl, VM.q_list_int, VM.q_list_str, 
  VM.q_list_tup, VM.q_list_lst, VM.inS, VM.Out.bind_ok, VM.Out.bind_no, VM.Out.bind_exc, List.map_cons, List.map_nil, List.length_cons, List.length_nil, 
  List.replicate, List.cons_append, List.nil_append, List.append_nil, List.set_cons_zero, List.set_cons_succ, List.getElem?_cons_zero, 
  List.getElem?_cons_succ, List.getElem?_nil, Bool.false_eq_true, if_true, if_false, ite_true, ite_false, Bool.true_and, Bool.false_and, Bool.and_true, 
  Bool.and_false, Bool.not_true, Bool.not_false, Bool.false_xor, Bool.true_xor, decide_true, decide_false, reduceCtorEq, Nat.reduceSub, Nat.reduceAdd, 
  Nat.reduceLeDiff, Nat.sub_self, Nat.sub_zero, Option.isSome_none, Option.isSome_some,
  VM.ev_dic, VM.ev_di, VM.di_ok, VM.di2_ok, VM.d_inX, VM.d_inX_lst, VM.d_inX_tup, VM.d_inX_str, VM.kd2, VM.d_lenX, VM.d_listX, VM.d_ixX, VM.d_lenX_lst, VM.d_ixX_lst, VM.d_listX_lst, VM.d_lenX_tup, VM.d_ixX_tup, VM.d_listX_tup, VM.d_lenX_str, VM.d_ixX_str, VM.d_lenX_scr, VM.d_ixX_scr, VM.d_listX_scr, VM.d_ltXi, VM.d_ltXt, VM.d_eqXd, VM.d_eqX_lst, VM.d_eqX_tup, VM.d_eqX_str, VM.d_eqX_int, VM.d_eqX_bl, VM.d_eqX_non, VM.n_dic, VM.n_dki,
  VM.ev_dki, VM.ev_dii, VM.dii_ok, VM.ev_dk1, VM.dk1_ok, VM.d_inI, VM.d_inI_dic, VM.d_inI_lst, VM.d_inI_tup, VM.d_inI_str, VM.d_lenI, VM.d_lenI_dic, VM.d_ixI, VM.d_ixI_dic, VM.d_lenI_lst, VM.d_ixI_lst, VM.d_lenI_tup, VM.d_ixI_tup, VM.d_lenI_str, VM.d_ixI_str, VM.d_lenI_scr, VM.d_ixI_scr, VM.d_minL, VM.minO_s, VM.d_sumL, VM.d_sortK, VM.ev_ex, VM.ex_ok,
  VM.wp_ex, VM.ev_rz, VM.rz_ok, VM.ev_tr, VM.tr_nx, VM.tr_ret, VM.tr_bk, VM.tr_ct, VM.tr_no, VM.tr_exc, VM.un_ret, VM.un_nx, VM.nox_ret, VM.nox_nx, VM.ev_xf, VM.ev_rev, VM.rv2_ok, VM.d_revl, VM.d_revt, VM.ev_ap2, VM.ap2_ok, VM.n_xob, VM.n_obj])

/-! printed by gen.py: the readings of the defs -/
namespace Sh
open PySem VM
/-- check_nexts -/
def m_check_nexts_a5738 : MS :=
    (foS [1, 2] (gN 1) (iR rng1 (aCons (vE (mN lenD (aCons (vVar 0) aNil))) aNil)) (seqS (asS 2 (m2 ixD (vVar 0) (vVar 1)))
    (ifS (tAndB (tB' (mZ (m2 (isD true) (vVar 2) (vE (mC .non))))) (tNotB (tB' (mZ (m3 leD ltD (vE (mC (.int 0))) (vVar 2) (vE (mN lenD (aCons (vVar 0) aNil)))))))) (raS "BadGraph" ["node"] (aCons (mZ (mVar 1)) aNil)) nxS)))
def g_check_nexts_a5738 (ds : List D) : Out R := finO (m_check_nexts_a5738 (inS 3 ds))
/-- predecessor_rows -/
def m_predecessor_rows_c4a15 : MS :=
    (seqS (rwS 1 (iV (mZ (mVar 0))))
    (seqS (foS [2, 3] (gN 2) (iR rng1 (aCons (vE (mN lenD (aCons (vVar 0) aNil))) aNil)) (seqS (asS 3 (m2 ixD (vVar 0) (vVar 2)))
    (ifS (tB' (mZ (m2 (isD true) (vVar 3) (vE (mC .non))))) (rwA 1 (vVar 3) (mZ (mVar 2))) nxS)))
    (frW [1] (reS (mN tupleD (aCons (vE (mLc [4] (gN 4) (iV (mZ (mVar 1))) mYes (mZ (mN tupleD (aCons (vVar 4) aNil))))) aNil))))))
def g_predecessor_rows_c4a15 (ds : List D) : Out R := finO (m_predecessor_rows_c4a15 (inS 5 ds))
/-- plain_rows -/
def m_plain_rows_acf7e : MS :=
    (reS (mN tupleD (aCons (vE (mLc [1] (gN 1) (iV (mZ (mVar 0))) mYes (mZ (mN tupRng1 (aCons (vE (m2 addD (vE (mN lenD (aCons (vVar 1) aNil))) (vE (mC (.int 1))))) aNil))))) aNil)))
def g_plain_rows_acf7e (ds : List D) : Out R := finO (m_plain_rows_acf7e (inS 2 ds))
/-- check_rows -/
def m_check_rows_8896c : MS :=
    (foS [2] (gN 2) (iR rng1 (aCons (vE (mN lenD (aCons (vVar 0) aNil))) aNil)) (ifS (tB' (mZ (m2 neD (vE (mN sortedD (aCons (vE (m2 ixD (vVar 0) (vVar 2))) aNil))) (vE (mN lstRng1 (aCons (vE (m2 addD (vE (mN lenD (aCons (vE (m2 ixD (vVar 1) (vVar 2))) aNil))) (vE (mC (.int 1))))) aNil)))))) (raS "BadRotation" ["at"] (aCons (mZ (mVar 2)) aNil)) nxS))
def g_check_rows_8896c (ds : List D) : Out R := finO (m_check_rows_8896c (inS 3 ds))
/-- _law_whole -/
def m__law_whole_cee86 : MS :=
    (reS (mAndV (mZ (mN (isiD "int") (aCons (vVar 0) aNil))) (mNotV (mZ (mN (isiD "bool") (aCons (vVar 0) aNil))))))
def g__law_whole_cee86 (ds : List D) : Out R := finO (m__law_whole_cee86 (inS 1 ds))
/-- _law_numbers -/
def m__law_numbers_7d612 : MS :=
    (reS (mAndV (mZ (mN (isiD "tuple") (aCons (vVar 0) aNil))) (mN allD (aCons (vE (mLc [1] (gN 1) (iV (mZ (mVar 0))) mYes (mZ (mN g__law_whole_cee86 (aCons (mZ (mVar 1)) aNil))))) aNil))))
def g__law_numbers_7d612 (ds : List D) : Out R := finO (m__law_numbers_7d612 (inS 2 ds))
/-- _law_cell -/
def m__law_cell_baed3 : MS :=
    (seqS (ifS (tB' (mZ (m2 ltD (vVar 1) (vE (mN lenD (aCons (vVar 0) aNil)))))) (reS (m2 ixD (vVar 0) (vVar 1))) nxS)
    (seqS (asS 2 (mC (.int 17)))
    (seqS (foS [3] (gN 3) (iV (mZ (mVar 0))) (asS 2 (m2 modD (vE (mN intD (aCons (vE (m2 addD (vE (m2 mulD (vVar 2) (vE (mC (.int 31))))) (vE (m2 modD (vE (mN intD (aCons (vVar 3) aNil))) (vE (mC (.int 1000003))))))) aNil))) (vE (mC (.int 1000003))))))
    (reS (m2 modD (vE (mN intD (aCons (vE (m2 mulD (vE (m2 mulD (vE (m2 addD (vVar 2) (vE (mC (.int 7))))) (vE (m2 addD (vVar 1) (vE (mC (.int 3))))))) (vE (mC (.int 69621))))) aNil))) (vE (mC (.int 2147483647))))))))
def g__law_cell_baed3 (ds : List D) : Out R := finO (m__law_cell_baed3 (inS 4 ds))
/-- _law_digits -/
def m__law_digits_c35f8 : MS :=
    (seqS (asS 2 (mN lstD aNil))
    (seqS (asS 3 (mN intD (aCons (vVar 0) aNil)))
    (seqS (ifS (tB' (mZ (m2 geD (vVar 3) (vE (m2 powD (vE (mC (.int 10))) (vE (mC (.int 18)))))))) (seqS (asS 3 (m2 subD (vVar 3) (vE (m2 powD (vE (mC (.int 10))) (vE (mC (.int 18)))))))
    (seqS (foS [4] (gN 4) (iV (mZ (mVar 1))) (seqS (apS 2 (mZ (m2 modD (vE (mN intD (aCons (vVar 3) aNil))) (vVar 4))))
    (asS 3 (m2 divP (vE (mN intD (aCons (vVar 3) aNil))) (vVar 4)))))
    (rvS 2))) nxS)
    (seqS (asS 5 (m2 modD (vE (mN intD (aCons (vVar 3) aNil))) (vE (mC (.int 2147483629)))))
    (seqS (foS [6, 7] (gN 6) (iR rng1 (aCons (vE (mN lenD (aCons (vVar 1) aNil))) aNil)) (seqS (asS 5 (m2 modD (vE (mN intD (aCons (vE (m2 addD (vE (m2 addD (vE (m2 mulD (vVar 5) (vE (mC (.int 48271))))) (vE (m2 mulD (vE (mC (.int 974711))) (vVar 6))))) (vE (mC (.int 12345))))) aNil))) (vE (mC (.int 2147483647)))))
    (seqS (asS 7 (m2 modD (vE (mN intD (aCons (vE (m2 mulD (vVar 5) (vE (m2 addD (vE (m2 divP (vVar 5) (vE (mC (.int 65537))))) (vE (mC (.int 3))))))) aNil))) (vE (mC (.int 2147483629)))))
    (apS 2 (mZ (m2 modD (vE (m2 divP (vVar 7) (vE (mC (.int 19))))) (vE (m2 ixD (vVar 1) (vVar 6)))))))))
    (rvS 2))))))
def g__law_digits_c35f8 (ds : List D) : Out R := finO (m__law_digits_c35f8 (inS 8 ds))
/-- _law_many -/
def m__law_many_0ff6a : MS :=
    (seqS (ifS (tB' (mZ (m2 ltD (vE (m2 ixD (vVar 0) (vE (mC (.int 0))))) (vE (mC (.int 50)))))) (reS (m2 addD (vE (mC (.int 1))) (vE (m2 ixD (vVar 0) (vE (mC (.int 1))))))) nxS)
    (seqS (ifS (tB' (mZ (m2 ltD (vE (m2 ixD (vVar 0) (vE (mC (.int 0))))) (vE (mC (.int 175)))))) (reS (m2 addD (vE (mC (.int 8))) (vE (m2 modD (vE (mN intD (aCons (vE (m2 ixD (vVar 0) (vE (mC (.int 2))))) aNil))) (vE (mC (.int 17))))))) nxS)
    (seqS (ifS (tB' (mZ (m2 ltD (vE (m2 ixD (vVar 0) (vE (mC (.int 0))))) (vE (mC (.int 195)))))) (reS (m2 addD (vE (mC (.int 1))) (vE (m2 ixD (vVar 0) (vE (mC (.int 2))))))) nxS)
    (seqS (ifS (tB' (mZ (m2 ltD (vE (m2 ixD (vVar 0) (vE (mC (.int 0))))) (vE (mC (.int 199)))))) (reS (m2 addD (vE (mC (.int 1))) (vE (m2 ixD (vVar 0) (vE (mC (.int 3))))))) nxS)
    (reS (m2 addD (vE (mC (.int 1))) (vE (m2 ixD (vVar 0) (vE (mC (.int 4)))))))))))
def g__law_many_0ff6a (ds : List D) : Out R := finO (m__law_many_0ff6a (inS 1 ds))
/-- _law_next -/
def m__law_next_cc2f4 : MS :=
    (seqS (ifS (tB' (mZ (m2 ltD (vVar 0) (vVar 1)))) (reS (m2 modD (vE (m2 addD (vVar 0) (vE (mC (.int 1))))) (vVar 1))) nxS)
    (seqS (ifS (tOrB (tB' (mZ (m2 eqD (vVar 0) (vE (mC (.int 0)))))) (tAndB (tB' (mZ (m2 eqD (vVar 2) (vE (mC (.int 4)))))) (tB' (mZ (m2 eqD (vE (m2 modD (vE (mN intD (aCons (vVar 3) aNil))) (vE (mC (.int 6))))) (vE (mC (.int 0)))))))) (reS (mC .non)) nxS)
    (seqS (ifS (tAndB (tB' (mZ (m2 eqD (vVar 2) (vE (mC (.int 4)))))) (tB' (mZ (m2 eqD (vE (m2 modD (vE (mN intD (aCons (vVar 3) aNil))) (vE (mC (.int 6))))) (vE (mC (.int 1))))))) (rvS 0) nxS)
    (seqS (ifS (tB' (mZ (m2 eqD (vVar 2) (vE (mC (.int 0)))))) (reS (m2 subD (vVar 0) (vE (mC (.int 1))))) nxS)
    (seqS (ifS (tOrB (tB' (mZ (m2 eqD (vVar 2) (vE (mC (.int 1)))))) (tAndB (tB' (mZ (m2 gtD (vVar 2) (vE (mC (.int 4)))))) (tB' (mZ (m2 eqD (vE (m2 modD (vVar 0) (vE (mC (.int 2))))) (vE (mC (.int 0)))))))) (reS (m2 modD (vE (mN intD (aCons (vVar 3) aNil))) (vE (mN maxD (aCons (vE (mC (.int 1))) (aCons (vVar 1) aNil)))))) nxS)
    (seqS (ifS (tB' (mZ (m2 eqD (vVar 2) (vE (mC (.int 2)))))) (reS (mN maxD (aCons (vE (mC (.int 0))) (aCons (vE (m2 subD (vE (m2 subD (vVar 0) (vE (mC (.int 1))))) (vE (m2 modD (vE (mN intD (aCons (vVar 3) aNil))) (vE (mC (.int 3))))))) aNil)))) nxS)
    (reS (m2 modD (vE (mN intD (aCons (vVar 3) aNil))) (vVar 0)))))))))
def g__law_next_cc2f4 (ds : List D) : Out R := finO (m__law_next_cc2f4 (inS 4 ds))
/-- _law_alike -/
def m__law_alike_8c450 : MS :=
    (seqS (ifS (tOrB (tB' (mZ (m2 eqD (vVar 2) (vE (mC (.int 0)))))) (tAndB (tB' (mZ (m2 eqD (vVar 2) (vE (mC (.int 2)))))) (tB' (mZ (m2 eqD (vVar 0) (vVar 3)))))) (reS (mC .non)) nxS)
    (seqS (ifS (tB' (mZ (m2 eqD (vVar 2) (vE (mC (.int 1)))))) (rvS 0) nxS)
    (seqS (ifS (tB' (mZ (m2 eqD (vVar 2) (vE (mC (.int 4)))))) (reS (m2 modD (vE (m2 addD (vVar 0) (vE (mC (.int 1))))) (vVar 1))) nxS)
    (rvS 3))))
def g__law_alike_8c450 (ds : List D) : Out R := finO (m__law_alike_8c450 (inS 4 ds))
/-- _law_order -/
def m__law_order_4fbf8 : MS :=
    (seqS (asS 1 (mN lstRng1 (aCons (vE (mN lenD (aCons (vVar 0) aNil))) aNil)))
    (seqS (asS 2 (mN lstD aNil))
    (seqS (foS [3] (gN 3) (iV (mZ (mVar 0))) (apPopS 2 1 (vE (m2 modD (vE (mN intD (aCons (vVar 3) aNil))) (vE (mN lenD (aCons (vVar 1) aNil)))))))
    (rvS 2))))
def g__law_order_4fbf8 (ds : List D) : Out R := finO (m__law_order_4fbf8 (inS 4 ds))
/-- _law_table -/
def m__law_table_8aae1 : MS :=
    (seqS (asS 2 (mN g__law_digits_c35f8 (aCons (mZ (mN g__law_cell_baed3 (aCons (mZ (mVar 0)) (aCons (mZ (mC (.int 1))) aNil)))) (aCons (mZ (mN lstD (aCons (mZ (mC (.int 10))) (aCons (mZ (m2 addD (vVar 1) (vE (mC (.int 1))))) (aCons (mZ (mC (.int 7))) (aCons (mZ (mC (.int 7))) (aCons (mZ (mC (.int 4))) (aCons (mZ (mC (.int 8))) (aCons (mZ (mC (.int 4))) aNil))))))))) aNil))))
    (seqS (asS 3 (mN g__law_digits_c35f8 (aCons (mZ (mN g__law_cell_baed3 (aCons (mZ (mVar 0)) (aCons (mZ (mC (.int 2))) aNil)))) (aCons (mZ (m2 mulD (vE (mN lstD (aCons (mZ (m2 addD (vVar 1) (vE (mC (.int 1))))) aNil))) (vVar 1))) aNil))))
    (seqS (ifS (tB' (mZ (m2 ltD (vE (m2 ixD (vVar 2) (vE (mC (.int 0))))) (vE (mC (.int 2)))))) (frW [3] (reS (mLc [4] (gN 4) (iV (mZ (mVar 3))) mYes (mZ (m2 ixD (vE (mN lstD (aCons (mZ (mVar 4)) (aCons (mZ (mC .non)) aNil)))) (vE (mN intD (aCons (vE (m2 eqD (vVar 4) (vVar 1))) aNil)))))))) nxS)
    (seqS (ifS (tB' (mZ (m2 eqD (vE (m2 ixD (vVar 2) (vE (mC (.int 0))))) (vE (mC (.int 2)))))) (reS (mLc [5] (gN 5) (iR rng1 (aCons (vVar 1) aNil)) mYes (mZ (mN g__law_alike_8c450 (aCons (mZ (mVar 5)) (aCons (mZ (mVar 1)) (aCons (mZ (m2 modD (vE (mN intD (aCons (vE (m2 ixD (vVar 2) (vE (mC (.int 2))))) aNil))) (vE (mC (.int 5))))) (aCons (mZ (m2 modD (vE (mN intD (aCons (vE (m2 ixD (vVar 2) (vE (mC (.int 1))))) aNil))) (vVar 1))) aNil)))))))) nxS)
    (seqS (asS 6 (m2 ixD (vE (mN lstD (aCons (mZ (mC (.int 0))) (aCons (mZ (mC (.int 0))) (aCons (mZ (mVar 1)) (aCons (mZ (m2 ixD (vVar 2) (vE (mC (.int 1))))) aNil)))))) (vE (mN minD (aCons (vE (m2 subD (vE (m2 ixD (vVar 2) (vE (mC (.int 0))))) (vE (mC (.int 3))))) (aCons (vE (mC (.int 3))) aNil))))))
    (seqS (asS 7 (mN minD (aCons (vE (m2 ixD (vE (mN lstD (aCons (mZ (mC (.int 0))) (aCons (mZ (mC (.int 0))) (aCons (mZ (mC (.int 0))) (aCons (mZ (mC (.int 2))) aNil)))))) (vE (m2 ixD (vVar 2) (vE (mC (.int 4))))))) (aCons (vVar 6) aNil))))
    (seqS (asS 8 (mN minD (aCons (vE (m2 ixD (vE (mN lstD (aCons (mZ (mC (.int 1))) (aCons (mZ (mC (.int 1))) (aCons (mZ (mC (.int 2))) (aCons (mZ (mC (.int 2))) (aCons (mZ (mC (.int 3))) (aCons (mZ (mC (.int 4))) (aCons (mZ (mC (.int 5))) (aCons (mZ (mVar 1)) aNil)))))))))) (vE (m2 ixD (vVar 2) (vE (mC (.int 5))))))) (aCons (vE (m2 subD (vVar 1) (vVar 6))) aNil))))
    (seqS (asS 9 (mLc [5] (gN 5) (iR rng1 (aCons (vVar 6) aNil)) mYes (mZ (mN g__law_next_cc2f4 (aCons (mZ (mVar 5)) (aCons (mZ (mVar 7)) (aCons (mZ (m2 ixD (vVar 2) (vE (mC (.int 2))))) (aCons (mZ (m2 ixD (vVar 3) (vVar 5))) aNil))))))))
    (seqS (foS [5, 10] (gN 5) (iR rng1 (aCons (vE (m2 subD (vVar 1) (vVar 6))) aNil)) (seqS (asS 10 (mN g__law_next_cc2f4 (aCons (mZ (mVar 5)) (aCons (mZ (mVar 8)) (aCons (mZ (m2 ixD (vVar 2) (vE (mC (.int 3))))) (aCons (mZ (m2 ixD (vVar 3) (vE (m2 addD (vVar 6) (vVar 5))))) aNil))))))
    (seqS (ifS (tB' (mZ (m2 (isD true) (vVar 10) (vE (mC .non))))) (asS 10 (m2 addD (vVar 6) (vVar 10))) nxS)
    (frW [10] (apS 9 (mZ (mVar 10)))))))
    (seqS (ifS (tB' (mZ (m2 eqD (vE (m2 ixD (vVar 2) (vE (mC (.int 6))))) (vE (mC (.int 0)))))) (rvS 9) nxS)
    (seqS (asS 11 (mN g__law_order_4fbf8 (aCons (mZ (mN g__law_digits_c35f8 (aCons (mZ (mN g__law_cell_baed3 (aCons (mZ (mVar 0)) (aCons (mZ (mC (.int 3))) aNil)))) (aCons (mZ (mLc [5] (gN 5) (iR rng1 (aCons (vVar 1) aNil)) mYes (mZ (m2 subD (vVar 1) (vVar 5))))) aNil)))) aNil)))
    (seqS (asS 12 (m2 mulD (vE (mN lstD (aCons (mZ (mC .non)) aNil))) (vVar 1)))
    (seqS (foS [5] (gN 5) (iR rng1 (aCons (vVar 1) aNil)) (ifS (tB' (mZ (m2 (isD true) (vE (m2 ixD (vVar 9) (vVar 5))) (vE (mC .non))))) (siS 12 (vE (m2 ixD (vVar 11) (vVar 5))) (mZ (m2 ixD (vVar 11) (vE (m2 ixD (vVar 9) (vVar 5)))))) nxS))
    (rvS 12))))))))))))))
def g__law_table_8aae1 (ds : List D) : Out R := finO (m__law_table_8aae1 (inS 13 ds))
/-- _law_back -/
def m__law_back_8863e : MS :=
    (seqS (rwS 1 (iV (mZ (mVar 0))))
    (seqS (foS [3] (gN 3) (iR rng1 (aCons (vE (mN lenD (aCons (vVar 0) aNil))) aNil)) (ifS (tB' (mZ (m2 (isD true) (vE (m2 ixD (vVar 0) (vVar 3))) (vE (mC .non))))) (rwA 1 (vE (m2 ixD (vVar 0) (vVar 3))) (mZ (mVar 3))) nxS))
    (frW [1] (rvS 1))))
def g__law_back_8863e (ds : List D) : Out R := finO (m__law_back_8863e (inS 4 ds))
/-- _law_rows -/
def m__law_rows_4ab23 : MS :=
    (seqS (ifS (tB' (mZ (m2 ltD (vVar 1) (vE (mC (.int 3)))))) (reS (mN tupleD (aCons (vE (mLc [3] (gN 3) (iV (mZ (mVar 0))) mYes (mZ (mN tupRng1 (aCons (vE (m2 addD (vE (mN lenD (aCons (vVar 3) aNil))) (vE (mC (.int 1))))) aNil))))) aNil))) nxS)
    (seqS (ifS (tB' (mZ (m2 eqD (vVar 1) (vE (mC (.int 3)))))) (reS (mN tupleD (aCons (vE (mLc [3] (gN 3) (iV (mZ (mVar 0))) mYes (mZ (mN tupleD (aCons (vE (mLc [4] (gN 4) (iR rng1 (aCons (vE (m2 addD (vE (mN lenD (aCons (vVar 3) aNil))) (vE (mC (.int 1))))) aNil)) mYes (mZ (m2 subD (vE (mN lenD (aCons (vVar 3) aNil))) (vVar 4))))) aNil))))) aNil))) nxS)
    (seqS (asS 5 (mN lstD aNil))
    (seqS (foS [3, 4] (gN 3) (iV (mZ (mVar 0))) (foS [4] (gN 4) (iR rng1 (aCons (vE (m2 addD (vE (mN lenD (aCons (vVar 3) aNil))) (vE (mC (.int 1))))) aNil)) (apS 5 (mZ (m2 subD (vE (m2 addD (vE (mN lenD (aCons (vVar 3) aNil))) (vE (mC (.int 1))))) (vVar 4))))))
    (seqS (frW [5] (asS 6 (mN g__law_digits_c35f8 (aCons (mZ (mVar 2)) (aCons (mZ (mVar 5)) aNil)))))
    (seqS (asS 7 (mN lstD aNil))
    (seqS (asS 8 (mC (.int 0)))
    (seqS (foS [3] (gN 3) (iV (mZ (mVar 0))) (seqS (apS 7 (mZ (mN tupleD (aCons (vE (mN g__law_order_4fbf8 (aCons (mZ (mSl (vVar 6) (oSome (vVar 8)) (oSome (vE (m2 addD (vE (m2 addD (vVar 8) (vE (mN lenD (aCons (vVar 3) aNil))))) (vE (mC (.int 1)))))))) aNil))) aNil))))
    (asS 8 (m2 addD (vE (m2 addD (vVar 8) (vE (mN lenD (aCons (vVar 3) aNil))))) (vE (mC (.int 1)))))))
    (reS (mN tupleD (aCons (vVar 7) aNil)))))))))))
def g__law_rows_4ab23 (ds : List D) : Out R := finO (m__law_rows_4ab23 (inS 9 ds))
/-- Graph__init__ -/
def m_Graph__init___c7e29 : MS :=
    (seqS (drS (mN g_check_nexts_a5738 (aCons (mZ (mVar 1)) aNil)))
    (seqS (asS 3 (mN g_predecessor_rows_c4a15 (aCons (mZ (mVar 1)) aNil)))
    (seqS (frW [3] (asS 4 (mIf (tB' (mZ (m2 (isD false) (vVar 2) (vE (mC .non))))) (mN g_plain_rows_acf7e (aCons (mZ (mVar 3)) aNil)) (mVar 2))))
    (seqS (frW [3, 4] (drS (mN g_check_rows_8896c (aCons (mZ (mVar 4)) (aCons (mZ (mVar 3)) aNil)))))
    (seqS (fldS 0 "Graph" "nexts" (mZ (mVar 1)))
    (seqS (frW [4] (fldS 0 "Graph" "rotation" (mZ (mVar 4))))
    (frW [3] (fldS 0 "Graph" "behind" (mZ (mVar 3))))))))))
def g_Graph__init___c7e29 (ds : List D) : Out (List (PySem.Str × D)) := finI "Graph" (m_Graph__init___c7e29 (inI 5 "Graph" ds))
/-- _law_graph -/
def m__law_graph_699c0 : MS :=
    (seqS (ifS (tB' (mZ (m2 eqD (vVar 2) (vE (mC (.int 0)))))) (reS (mN (newD "Graph" g_Graph__init___c7e29 [.non]) (aCons (mZ (mN tupleD (aCons (vVar 0) aNil))) aNil))) nxS)
    (seqS (ifS (tB' (mZ (m2 eqD (vVar 2) (vE (mC (.int 1)))))) (reS (mN (newQ "Graph" 2 g_Graph__init___c7e29 [0, 1] [.non]) (aApp (aCons (mZ (mN tupleD (aCons (vVar 0) aNil))) aNil) (aCons (mZ (mC .non)) aNil)))) nxS)
    (reS (mN (newQ "Graph" 2 g_Graph__init___c7e29 [0, 1] [.non]) (aApp (aCons (mZ (mN tupleD (aCons (vVar 0) aNil))) aNil) (aCons (mZ (mVar 1)) aNil))))))
def g__law_graph_699c0 (ds : List D) : Out R := finO (m__law_graph_699c0 (inS 3 ds))
/-- _law_fields -/
def m__law_fields_24e42 : MS :=
    (seqS (ifS (tOrB (tNotB (tB' (mZ (mN (isiD "tuple") (aCons (vE (mFld ["Graph"] "nexts" (vVar 0))) aNil))))) (tB' (mZ (m2 neD (vE (mN lenD (aCons (vE (mFld ["Graph"] "nexts" (vVar 0))) aNil))) (vE (mN lenD (aCons (vVar 1) aNil))))))) (reS (mC (.bl false))) nxS)
    (seqS (ifS (tOrB (tNotB (tB' (mZ (mN (isiD "tuple") (aCons (vE (mFld ["Graph"] "rotation" (vVar 0))) aNil))))) (tB' (mZ (m2 neD (vE (mN lenD (aCons (vE (mFld ["Graph"] "rotation" (vVar 0))) aNil))) (vE (mN lenD (aCons (vVar 2) aNil))))))) (reS (mC (.bl false))) nxS)
    (seqS (foS [3] (gN 3) (iR rng1 (aCons (vE (mN lenD (aCons (vVar 1) aNil))) aNil)) (seqS (ifS (tOrB (tAndB (tB' (mZ (m2 (isD true) (vE (m2 ixD (vE (mFld ["Graph"] "nexts" (vVar 0))) (vVar 3))) (vE (mC .non))))) (tNotB (tB' (mZ (mN g__law_whole_cee86 (aCons (mZ (m2 ixD (vE (mFld ["Graph"] "nexts" (vVar 0))) (vVar 3))) aNil)))))) (tB' (mZ (m2 neD (vE (m2 ixD (vE (mFld ["Graph"] "nexts" (vVar 0))) (vVar 3))) (vE (m2 ixD (vVar 1) (vVar 3))))))) (reS (mC (.bl false))) nxS)
    (ifS (tOrB (tNotB (tB' (mZ (mN g__law_numbers_7d612 (aCons (mZ (m2 ixD (vE (mFld ["Graph"] "rotation" (vVar 0))) (vVar 3))) aNil))))) (tB' (mZ (m2 neD (vE (m2 ixD (vE (mFld ["Graph"] "rotation" (vVar 0))) (vVar 3))) (vE (m2 ixD (vVar 2) (vVar 3))))))) (reS (mC (.bl false))) nxS)))
    (reS (mC (.bl true))))))
def g__law_fields_24e42 (ds : List D) : Out R := finO (m__law_fields_24e42 (inS 4 ds))
/-- _law_harmed_next -/
def m__law_harmed_next_bd52d : MS :=
    (seqS (ifS (tB' (mZ (m2 eqD (vVar 0) (vE (mC (.int 0)))))) (reS (m1 negD (vE (mC (.int 1))))) nxS)
    (seqS (ifS (tB' (mZ (m2 eqD (vVar 0) (vE (mC (.int 1)))))) (rvS 1) nxS)
    (seqS (ifS (tB' (mZ (m2 eqD (vVar 0) (vE (mC (.int 2)))))) (reS (m2 addD (vVar 1) (vE (mC (.int 1))))) nxS)
    (seqS (ifS (tB' (mZ (m2 eqD (vVar 0) (vE (mC (.int 3)))))) (reS (m2 subD (vE (mC (.int 0))) (vVar 1))) nxS)
    (seqS (ifS (tB' (mZ (m2 eqD (vVar 0) (vE (mC (.int 4)))))) (rvS 3) nxS)
    (seqS (ifS (tB' (mZ (m2 eqD (vVar 0) (vE (mC (.int 5)))))) (reS (m2 subD (vE (m1 negD (vE (mC (.int 1))))) (vVar 3))) nxS)
    (seqS (ifS (tB' (mZ (m2 eqD (vVar 0) (vE (mC (.int 6)))))) (reS (mC .non)) nxS)
    (reS (m2 ixD (vE (mN lstD (aCons (mZ (m2 subD (vVar 1) (vE (mC (.int 1))))) (aCons (mZ (mC (.int 0))) (aCons (mZ (mVar 2)) aNil))))) (vE (m2 subD (vVar 0) (vE (mC (.int 7))))))))))))))
def g__law_harmed_next_bd52d (ds : List D) : Out R := finO (m__law_harmed_next_bd52d (inS 4 ds))
/-- _law_harmed_row -/
def m__law_harmed_row_beab3 : MS :=
    (seqS (ifS (tB' (mZ (m2 eqD (vVar 0) (vE (mC (.int 0)))))) (reS (m2 addD (vE (mSl (vVar 1) oNone (oSome (vVar 3)))) (vE (mSl (vVar 1) (oSome (vE (m2 addD (vVar 3) (vE (mC (.int 1)))))) oNone)))) nxS)
    (seqS (ifS (tB' (mZ (m2 eqD (vVar 0) (vE (mC (.int 1)))))) (reS (m2 addD (vE (m2 addD (vE (mSl (vVar 1) oNone (oSome (vVar 3)))) (vE (mN tupD (aCons (mZ (m2 ixD (vVar 1) (vVar 3))) aNil))))) (vE (mSl (vVar 1) (oSome (vVar 3)) oNone)))) nxS)
    (seqS (ifS (tB' (mZ (m2 eqD (vVar 0) (vE (mC (.int 2)))))) (reS (m2 addD (vVar 1) (vE (mN tupD (aCons (mZ (mN lenD (aCons (vVar 1) aNil))) aNil))))) nxS)
    (seqS (ifS (tB' (mZ (m2 eqD (vVar 0) (vE (mC (.int 3)))))) (reS (mN tupD aNil)) nxS)
    (seqS (ifS (tB' (mZ (m2 eqD (vVar 0) (vE (mC (.int 4)))))) (reS (mN tupleD (aCons (vE (mLc [5] (gN 5) (iV (mZ (mVar 1))) mYes (mZ (m2 addD (vVar 5) (vE (mC (.int 1))))))) aNil))) nxS)
    (seqS (ifS (tB' (mZ (m2 eqD (vVar 0) (vE (mC (.int 5)))))) (rvS 2) nxS)
    (seqS (ifS (tB' (mZ (m2 eqD (vVar 0) (vE (mC (.int 6)))))) (reS (mRev (vVar 1) (oSome (vE (m1 negD (vE (mC (.int 1)))))))) nxS)
    (seqS (ifS (tB' (mZ (m2 eqD (vVar 0) (vE (mC (.int 7)))))) (reS (m2 addD (vE (mSl (vVar 1) (oSome (vVar 3)) oNone)) (vE (mSl (vVar 1) oNone (oSome (vVar 3)))))) nxS)
    (seqS (asS 6 (m2 ixD (vE (mN lstD (aCons (mZ (m2 ixD (vVar 1) (vE (m2 modD (vE (m2 addD (vVar 3) (vE (mC (.int 1))))) (vE (mN lenD (aCons (vVar 1) aNil))))))) (aCons (mZ (mN lenD (aCons (vVar 1) aNil))) (aCons (mZ (m1 negD (vE (mC (.int 1))))) (aCons (mZ (m2 subD (vE (m2 ixD (vVar 1) (vVar 3))) (vE (mN lenD (aCons (vVar 1) aNil))))) (aCons (mZ (m2 addD (vE (m2 ixD (vVar 1) (vVar 3))) (vE (mN lenD (aCons (vVar 1) aNil))))) (aCons (mZ (mVar 4)) aNil)))))))) (vE (m2 subD (vVar 0) (vE (mC (.int 8)))))))
    (frW [6] (reS (m2 addD (vE (m2 addD (vE (mSl (vVar 1) oNone (oSome (vVar 3)))) (vE (mN tupD (aCons (mZ (mVar 6)) aNil))))) (vE (mSl (vVar 1) (oSome (vE (m2 addD (vVar 3) (vE (mC (.int 1)))))) oNone))))))))))))))
def g__law_harmed_row_beab3 (ds : List D) : Out R := finO (m__law_harmed_row_beab3 (inS 7 ds))
/-- _law_reach -/
def m__law_reach_b40ea : MS :=
    (seqS (ifS (tB' (mZ (m2 geD (vVar 0) (vE (m2 powD (vE (mC (.int 10))) (vE (mC (.int 18)))))))) (reS (m2 subD (vVar 0) (vE (m2 powD (vE (mC (.int 10))) (vE (mC (.int 18))))))) nxS)
    (reS (m2 modD (vE (mN intD (aCons (vVar 0) aNil))) (vE (mC (.int 4))))))
def g__law_reach_b40ea (ds : List D) : Out R := finO (m__law_reach_b40ea (inS 1 ds))
/-- _law_any_nexts -/
def m__law_any_nexts_e3e0b : MS :=
    (reS (mLc [4] (gN 4) (iV (mZ (mN g__law_digits_c35f8 (aCons (mZ (mVar 0)) (aCons (mZ (m2 mulD (vE (mN lstD (aCons (mZ (m2 addD (vVar 2) (vE (mC (.int 1))))) aNil))) (vVar 1))) aNil))))) mYes (mZ (m2 ixD (vE (mN lstD (aCons (mZ (m2 subD (vVar 4) (vVar 3))) (aCons (mZ (mC .non)) aNil)))) (vE (mN intD (aCons (vE (m2 eqD (vVar 4) (vVar 2))) aNil)))))))
def g__law_any_nexts_e3e0b (ds : List D) : Out R := finO (m__law_any_nexts_e3e0b (inS 5 ds))
/-- _law_any_rows -/
def m__law_any_rows_12687 : MS :=
    (seqS (asS 3 (mN g__law_digits_c35f8 (aCons (mZ (mVar 1)) (aCons (mZ (mLc [4] (gN 4) (iV (mZ (mVar 0))) mYes (mZ (m2 addD (vE (mN lenD (aCons (vVar 4) aNil))) (vE (mC (.int 4))))))) aNil))))
    (seqS (asS 5 (mN lstD aNil))
    (seqS (foS [6, 7] (gN 6) (iR rng1 (aCons (vE (mN lenD (aCons (vVar 0) aNil))) aNil)) (foS [7] (gN 7) (iR rng1 (aCons (vE (m2 ixD (vVar 3) (vVar 6))) aNil)) (apS 5 (mZ (m2 addD (vE (mN lenD (aCons (vE (m2 ixD (vVar 0) (vVar 6))) aNil))) (vE (mC (.int 3))))))))
    (seqS (frW [5] (asS 8 (mN g__law_digits_c35f8 (aCons (mZ (mVar 2)) (aCons (mZ (mVar 5)) aNil)))))
    (seqS (asS 9 (mN lstD aNil))
    (seqS (asS 10 (mC (.int 0)))
    (seqS (frW [3] (foS [11] (gN 11) (iV (mZ (mVar 3))) (seqS (apS 9 (mZ (mN tupleD (aCons (vE (mLc [12] (gN 12) (iV (mZ (mSl (vVar 8) (oSome (vVar 10)) (oSome (vE (m2 addD (vVar 10) (vVar 11))))))) mYes (mZ (m2 subD (vVar 12) (vE (mC (.int 1))))))) aNil))))
    (asS 10 (m2 addD (vVar 10) (vVar 11))))))
    (reS (mN tupleD (aCons (vVar 9) aNil))))))))))
def g__law_any_rows_12687 (ds : List D) : Out R := finO (m__law_any_rows_12687 (inS 13 ds))
/-- _law_due -/
def m__law_due_a3c36 : MS :=
    (seqS (foS [3] (gN 3) (iR rng1 (aCons (vE (mN lenD (aCons (vVar 0) aNil))) aNil)) (ifS (tAndB (tB' (mZ (m2 (isD true) (vE (m2 ixD (vVar 0) (vVar 3))) (vE (mC .non))))) (tOrB (tB' (mZ (m2 ltD (vE (m2 ixD (vVar 0) (vVar 3))) (vE (mC (.int 0)))))) (tB' (mZ (m2 geD (vE (m2 ixD (vVar 0) (vVar 3))) (vE (mN lenD (aCons (vVar 0) aNil)))))))) (reS (mN lstD (aCons (mZ (mC (.int 1))) (aCons (mZ (mVar 3)) aNil)))) nxS))
    (seqS (asS 4 (mN g__law_back_8863e (aCons (mZ (mVar 0)) aNil)))
    (seqS (foS [3, 5] (gN 3) (iR rng1 (aCons (vE (mN lenD (aCons (vVar 0) aNil))) aNil)) (seqS (asS 5 (mLc [6] (gN 6) (iR rng1 (aCons (vE (m2 addD (vE (mN lenD (aCons (vE (m2 ixD (vVar 4) (vVar 3))) aNil))) (vE (mC (.int 1))))) aNil)) (tB' (mZ (m2 (inD true) (vVar 6) (vE (m2 ixD (vVar 1) (vVar 3)))))) (mZ (mVar 6))))
    (ifS (tAndB (tB' (mZ (m2 gtD (vVar 2) (vE (mC (.int 1)))))) (tOrB (tB' (mZ (m2 gtD (vE (mN lenD (aCons (vVar 5) aNil))) (vE (mC (.int 0)))))) (tB' (mZ (m2 neD (vE (mN lenD (aCons (vE (m2 ixD (vVar 1) (vVar 3))) aNil))) (vE (m2 addD (vE (mN lenD (aCons (vE (m2 ixD (vVar 4) (vVar 3))) aNil))) (vE (mC (.int 1)))))))))) (reS (mN lstD (aCons (mZ (mC (.int 2))) (aCons (mZ (mVar 3)) aNil)))) nxS)))
    (reS (mN lstD (aCons (mZ (mC (.int 0))) (aCons (mZ (mC (.int 0))) aNil)))))))
def g__law_due_a3c36 (ds : List D) : Out R := finO (m__law_due_a3c36 (inS 7 ds))
/-- _law_told -/
def m__law_told_5a9d2 : MS :=
    (seqS (tryS (asS 3 (mN g__law_graph_699c0 (aCons (mZ (mVar 0)) (aCons (mZ (mVar 1)) (aCons (mZ (mVar 2)) aNil))))) [([("RoomError", false), ("BadText", false), ("BadLine", false), ("BadLibrary", false), ("ProcedureCycle", false), ("UnknownProgram", false), ("BadCode", false), ("BadGraph", true), ("BadRotation", false), ("BadBook", false), ("TooLarge", false), ("BadSnapshot", false)], some 4, (frW [4] (reS (mN lstD (aCons (mZ (mC (.int 1))) (aCons (mZ (mXf ["BadGraph"] "node" (vVar 4))) aNil)))))),
    ([("RoomError", false), ("BadText", false), ("BadLine", false), ("BadLibrary", false), ("ProcedureCycle", false), ("UnknownProgram", false), ("BadCode", false), ("BadGraph", false), ("BadRotation", true), ("BadBook", false), ("TooLarge", false), ("BadSnapshot", false)], some 4, (frW [4] (reS (mN lstD (aCons (mZ (mC (.int 2))) (aCons (mZ (mXf ["BadText", "BadRotation", "BadSnapshot"] "at" (vVar 4))) aNil))))))])
    (seqS (asS 5 (mVar 1))
    (seqS (ifS (tB' (mZ (m2 ltD (vVar 2) (vE (mC (.int 2)))))) (asS 5 (mN g__law_rows_4ab23 (aCons (mZ (mN g__law_back_8863e (aCons (mZ (mVar 0)) aNil))) (aCons (mZ (mC (.int 0))) (aCons (mZ (mC (.int 0))) aNil))))) nxS)
    (frW [3, 5] (reS (m2 ixD (vE (mN lstD (aCons (mZ (mN lstD (aCons (mZ (mC (.int 3))) (aCons (mZ (mC (.int 3))) aNil)))) (aCons (mZ (mN lstD (aCons (mZ (mC (.int 0))) (aCons (mZ (mC (.int 0))) aNil)))) aNil)))) (vE (mN intD (aCons (vE (mN g__law_fields_24e42 (aCons (mZ (mVar 3)) (aCons (mZ (mVar 0)) (aCons (mZ (mVar 5)) aNil))))) aNil)))))))))
def g__law_told_5a9d2 (ds : List D) : Out R := finO (m__law_told_5a9d2 (inS 6 ds))
/-- _law_class -/
def m__law_class_ba2e6 : MS :=
    (seqS (tryS (drS (mN g__law_graph_699c0 (aCons (mZ (mVar 0)) (aCons (mZ (mVar 1)) (aCons (mZ (mVar 2)) aNil))))) [([("RoomError", true), ("BadText", true), ("BadLine", true), ("BadLibrary", true), ("ProcedureCycle", true), ("UnknownProgram", true), ("BadCode", true), ("BadGraph", true), ("BadRotation", true), ("BadBook", true), ("TooLarge", true), ("BadSnapshot", true)], some 3, (seqS (frW [3] (ifS (tOrB (tNotB (tB' (mZ (m1 (xisD [("RoomError", true), ("BadText", true), ("BadLine", true), ("BadLibrary", true), ("ProcedureCycle", true), ("UnknownProgram", true), ("BadCode", true), ("BadGraph", true), ("BadRotation", true), ("BadBook", true), ("TooLarge", true), ("BadSnapshot", true)]) (vVar 3))))) (tB' (mZ (m2 eqD (vE (m1 (xisD [("RoomError", false), ("BadText", false), ("BadLine", false), ("BadLibrary", false), ("ProcedureCycle", false), ("UnknownProgram", false), ("BadCode", false), ("BadGraph", true), ("BadRotation", false), ("BadBook", false), ("TooLarge", false), ("BadSnapshot", false)]) (vVar 3))) (vE (m1 (xisD [("RoomError", false), ("BadText", false), ("BadLine", false), ("BadLibrary", false), ("ProcedureCycle", false), ("UnknownProgram", false), ("BadCode", false), ("BadGraph", false), ("BadRotation", true), ("BadBook", false), ("TooLarge", false), ("BadSnapshot", false)]) (vVar 3))))))) (reS (m1 negD (vE (mC (.int 1))))) nxS))
    (seqS (frW [3] (ifS (tOrB (tB' (mZ (m1 (xisD [("RoomError", false), ("BadText", true), ("BadLine", false), ("BadLibrary", false), ("ProcedureCycle", false), ("UnknownProgram", false), ("BadCode", false), ("BadGraph", false), ("BadRotation", false), ("BadBook", false), ("TooLarge", false), ("BadSnapshot", false)]) (vVar 3)))) (tOrB (tB' (mZ (m1 (xisD [("RoomError", false), ("BadText", false), ("BadLine", true), ("BadLibrary", false), ("ProcedureCycle", false), ("UnknownProgram", false), ("BadCode", false), ("BadGraph", false), ("BadRotation", false), ("BadBook", false), ("TooLarge", false), ("BadSnapshot", false)]) (vVar 3)))) (tOrB (tB' (mZ (m1 (xisD [("RoomError", false), ("BadText", false), ("BadLine", false), ("BadLibrary", true), ("ProcedureCycle", false), ("UnknownProgram", false), ("BadCode", false), ("BadGraph", false), ("BadRotation", false), ("BadBook", false), ("TooLarge", false), ("BadSnapshot", false)]) (vVar 3)))) (tB' (mZ (m1 (xisD [("RoomError", false), ("BadText", false), ("BadLine", false), ("BadLibrary", false), ("ProcedureCycle", true), ("UnknownProgram", false), ("BadCode", false), ("BadGraph", false), ("BadRotation", false), ("BadBook", false), ("TooLarge", false), ("BadSnapshot", false)]) (vVar 3))))))) (reS (m1 negD (vE (mC (.int 1))))) nxS))
    (seqS (frW [3] (ifS (tOrB (tB' (mZ (m1 (xisD [("RoomError", false), ("BadText", false), ("BadLine", false), ("BadLibrary", false), ("ProcedureCycle", false), ("UnknownProgram", true), ("BadCode", false), ("BadGraph", false), ("BadRotation", false), ("BadBook", false), ("TooLarge", false), ("BadSnapshot", false)]) (vVar 3)))) (tOrB (tB' (mZ (m1 (xisD [("RoomError", false), ("BadText", false), ("BadLine", false), ("BadLibrary", false), ("ProcedureCycle", false), ("UnknownProgram", false), ("BadCode", true), ("BadGraph", false), ("BadRotation", false), ("BadBook", false), ("TooLarge", false), ("BadSnapshot", false)]) (vVar 3)))) (tOrB (tB' (mZ (m1 (xisD [("RoomError", false), ("BadText", false), ("BadLine", false), ("BadLibrary", false), ("ProcedureCycle", false), ("UnknownProgram", false), ("BadCode", false), ("BadGraph", false), ("BadRotation", false), ("BadBook", true), ("TooLarge", false), ("BadSnapshot", false)]) (vVar 3)))) (tB' (mZ (m1 (xisD [("RoomError", false), ("BadText", false), ("BadLine", false), ("BadLibrary", false), ("ProcedureCycle", false), ("UnknownProgram", false), ("BadCode", false), ("BadGraph", false), ("BadRotation", false), ("BadBook", false), ("TooLarge", true), ("BadSnapshot", false)]) (vVar 3))))))) (reS (m1 negD (vE (mC (.int 1))))) nxS))
    (seqS (frW [3] (ifS (tB' (mZ (m1 (xisD [("RoomError", false), ("BadText", false), ("BadLine", false), ("BadLibrary", false), ("ProcedureCycle", false), ("UnknownProgram", false), ("BadCode", false), ("BadGraph", false), ("BadRotation", false), ("BadBook", false), ("TooLarge", false), ("BadSnapshot", true)]) (vVar 3)))) (reS (m1 negD (vE (mC (.int 1))))) nxS))
    (frW [3] (reS (m2 addD (vE (mC (.int 1))) (vE (mN intD (aCons (vE (m1 (xisD [("RoomError", false), ("BadText", false), ("BadLine", false), ("BadLibrary", false), ("ProcedureCycle", false), ("UnknownProgram", false), ("BadCode", false), ("BadGraph", false), ("BadRotation", true), ("BadBook", false), ("TooLarge", false), ("BadSnapshot", false)]) (vVar 3))) aNil)))))))))))])
    (reS (mC (.int 0))))
def g__law_class_ba2e6 (ds : List D) : Out R := finO (m__law_class_ba2e6 (inS 4 ds))
/-- _law_fielded -/
def m__law_fielded_68063 : MS :=
    (seqS (asS 2 (mN lstD (aCons (mZ (mXf ["BadGraph"] "node" (vE (mN (xnewQ "BadGraph" ["node"] [0]) (aCons (mZ (mVar 0)) aNil))))) (aCons (mZ (mXf ["BadGraph"] "node" (vE (mN (xnewQ "BadGraph" ["node"] [0]) (aCons (mZ (mVar 1)) aNil))))) (aCons (mZ (mXf ["BadText", "BadRotation", "BadSnapshot"] "at" (vE (mN (xnewQ "BadRotation" ["at"] [0]) (aCons (mZ (mVar 1)) aNil))))) (aCons (mZ (mXf ["BadText", "BadRotation", "BadSnapshot"] "at" (vE (mN (xnewQ "BadRotation" ["at"] [0]) (aCons (mZ (mVar 0)) aNil))))) aNil))))))
    (frW [2] (reS (mAndV (mZ (mN allD (aCons (vE (mLc [3] (gN 3) (iV (mZ (mVar 2))) mYes (mZ (mN g__law_whole_cee86 (aCons (mZ (mVar 3)) aNil))))) aNil))) (m2 eqD (vVar 2) (vE (mN lstD (aCons (mZ (mVar 0)) (aCons (mZ (mVar 1)) (aCons (mZ (mVar 1)) (aCons (mZ (mVar 0)) aNil)))))))))))
def g__law_fielded_68063 (ds : List D) : Out R := finO (m__law_fielded_68063 (inS 4 ds))
/-- law -/
def m_law_bc23d : MS :=
    (seqS (asS 1 (mN g__law_many_0ff6a (aCons (mZ (mN g__law_digits_c35f8 (aCons (mZ (mN g__law_cell_baed3 (aCons (mZ (mVar 0)) (aCons (mZ (mC (.int 0))) aNil)))) (aCons (mZ (mN lstD (aCons (mZ (mC (.int 200))) (aCons (mZ (mC (.int 14))) (aCons (mZ (mC (.int 90))) (aCons (mZ (mC (.int 400))) (aCons (mZ (mC (.int 1600))) aNil))))))) aNil)))) aNil)))
    (seqS (frW [1] (asS 2 (mN g__law_table_8aae1 (aCons (mZ (mVar 0)) (aCons (mZ (mVar 1)) aNil)))))
    (seqS (frW [2] (asS 3 (mN g__law_back_8863e (aCons (mZ (mVar 2)) aNil))))
    (seqS (asS 4 (mN g__law_digits_c35f8 (aCons (mZ (mN g__law_cell_baed3 (aCons (mZ (mVar 0)) (aCons (mZ (mC (.int 4))) aNil)))) (aCons (mZ (mN lstD (aCons (mZ (mC (.int 6))) (aCons (mZ (mC (.int 8))) (aCons (mZ (mC (.int 9))) (aCons (mZ (mC (.int 9))) aNil)))))) aNil))))
    (seqS (asS 5 (m2 ixD (vVar 4) (vE (mC (.int 0)))))
    (seqS (frW [3] (asS 6 (mN g__law_rows_4ab23 (aCons (mZ (mVar 3)) (aCons (mZ (m2 addD (vE (mC (.int 2))) (vE (m2 ixD (vVar 4) (vE (mC (.int 1))))))) (aCons (mZ (mN g__law_cell_baed3 (aCons (mZ (mVar 0)) (aCons (mZ (mC (.int 5))) aNil)))) aNil))))))
    (seqS (asS 7 (mN listD (aCons (vVar 2) aNil)))
    (seqS (ifS (tB' (mZ (m2 eqD (vE (m2 ixD (vVar 4) (vE (mC (.int 2))))) (vE (mC (.int 8)))))) (seqS (asS 8 (m2 addD (vE (m2 addD (vVar 1) (vE (mC (.int 2))))) (vE (mN g__law_reach_b40ea (aCons (mZ (mN g__law_cell_baed3 (aCons (mZ (mVar 0)) (aCons (mZ (mC (.int 18))) aNil)))) aNil)))))
    (frW [1] (asS 7 (mN g__law_any_nexts_e3e0b (aCons (mZ (mN g__law_cell_baed3 (aCons (mZ (mVar 0)) (aCons (mZ (mC (.int 20))) aNil)))) (aCons (mZ (mVar 1)) (aCons (mZ (mVar 8)) (aCons (mZ (m2 modD (vE (mN intD (aCons (vE (mN g__law_reach_b40ea (aCons (mZ (mN g__law_cell_baed3 (aCons (mZ (mVar 0)) (aCons (mZ (mC (.int 19))) aNil)))) aNil))) aNil))) (vVar 8))) aNil)))))))) nxS)
    (seqS (foS [9, 10] (gN 9) (iR rng1 (aCons (vE (m2 ixD (vE (mN lstD (aCons (mZ (mC (.int 0))) (aCons (mZ (mC (.int 0))) (aCons (mZ (mC (.int 0))) (aCons (mZ (mC (.int 0))) (aCons (mZ (mC (.int 1))) (aCons (mZ (mC (.int 1))) (aCons (mZ (mC (.int 2))) (aCons (mZ (mC (.int 3))) (aCons (mZ (mC (.int 0))) aNil))))))))))) (vE (m2 ixD (vVar 4) (vE (mC (.int 2))))))) aNil)) (seqS (frW [1] (asS 10 (mN g__law_digits_c35f8 (aCons (mZ (mN g__law_cell_baed3 (aCons (mZ (mVar 0)) (aCons (mZ (m2 addD (vE (mC (.int 6))) (vVar 9))) aNil)))) (aCons (mZ (mN lstD (aCons (mZ (mVar 1)) (aCons (mZ (mC (.int 10))) aNil)))) aNil)))))
    (frW [1] (siS 7 (vE (m2 ixD (vVar 10) (vE (mC (.int 0))))) (mZ (mN g__law_harmed_next_bd52d (aCons (mZ (m2 ixD (vVar 10) (vE (mC (.int 1))))) (aCons (mZ (mVar 1)) (aCons (mZ (m2 ixD (vVar 10) (vE (mC (.int 0))))) (aCons (mZ (mN intD (aCons (vE (mN g__law_cell_baed3 (aCons (mZ (mVar 0)) (aCons (mZ (m2 addD (vE (mC (.int 9))) (vVar 9))) aNil)))) aNil))) aNil))))))))))
    (seqS (asS 11 (mN listD (aCons (vVar 6) aNil)))
    (seqS (ifS (tB' (mZ (m2 eqD (vE (m2 ixD (vVar 4) (vE (mC (.int 3))))) (vE (mC (.int 8)))))) (frW [3] (asS 11 (mN listD (aCons (vE (mN g__law_any_rows_12687 (aCons (mZ (mVar 3)) (aCons (mZ (mN g__law_cell_baed3 (aCons (mZ (mVar 0)) (aCons (mZ (mC (.int 21))) aNil)))) (aCons (mZ (mN g__law_cell_baed3 (aCons (mZ (mVar 0)) (aCons (mZ (mC (.int 22))) aNil)))) aNil))))) aNil)))) nxS)
    (seqS (foS [9, 10, 12, 13] (gN 9) (iR rng1 (aCons (vE (m2 ixD (vE (mN lstD (aCons (mZ (mC (.int 0))) (aCons (mZ (mC (.int 0))) (aCons (mZ (mC (.int 1))) (aCons (mZ (mC (.int 1))) (aCons (mZ (mC (.int 1))) (aCons (mZ (mC (.int 2))) (aCons (mZ (mC (.int 2))) (aCons (mZ (mC (.int 3))) (aCons (mZ (mC (.int 0))) aNil))))))))))) (vE (m2 ixD (vVar 4) (vE (mC (.int 3))))))) aNil)) (seqS (frW [1] (asS 10 (mN g__law_digits_c35f8 (aCons (mZ (mN g__law_cell_baed3 (aCons (mZ (mVar 0)) (aCons (mZ (m2 addD (vE (mC (.int 12))) (vVar 9))) aNil)))) (aCons (mZ (mN lstD (aCons (mZ (mVar 1)) (aCons (mZ (mC (.int 14))) (aCons (mZ (mC (.int 1600))) aNil))))) aNil)))))
    (seqS (asS 12 (m2 ixD (vVar 6) (vE (m2 ixD (vVar 10) (vE (mC (.int 0)))))))
    (seqS (asS 13 (m2 ixD (vVar 6) (vE (m2 modD (vE (m2 addD (vE (m2 ixD (vVar 10) (vE (mC (.int 0))))) (vE (mC (.int 1))))) (vVar 1)))))
    (frW [12, 13] (siS 11 (vE (m2 ixD (vVar 10) (vE (mC (.int 0))))) (mZ (mN g__law_harmed_row_beab3 (aCons (mZ (m2 ixD (vVar 10) (vE (mC (.int 1))))) (aCons (mZ (mVar 12)) (aCons (mZ (mVar 13)) (aCons (mZ (m2 modD (vE (m2 ixD (vVar 10) (vE (mC (.int 2))))) (vE (mN lenD (aCons (vVar 12) aNil))))) (aCons (mZ (mN intD (aCons (vE (mN g__law_cell_baed3 (aCons (mZ (mVar 0)) (aCons (mZ (m2 addD (vE (mC (.int 15))) (vVar 9))) aNil)))) aNil))) aNil)))))))))))))
    (seqS (asS 11 (mN tupleD (aCons (vVar 11) aNil)))
    (seqS (frW [5, 7, 11] (asS 14 (mN g__law_due_a3c36 (aCons (mZ (mVar 7)) (aCons (mZ (mVar 11)) (aCons (mZ (mVar 5)) aNil))))))
    (seqS (frW [5, 7, 11] (asS 15 (mN g__law_told_5a9d2 (aCons (mZ (mVar 7)) (aCons (mZ (mVar 11)) (aCons (mZ (mVar 5)) aNil))))))
    (seqS (frW [5, 7, 11] (ifS (tOrB (tB' (mZ (m2 neD (vVar 15) (vVar 14)))) (tOrB (tNotB (tB' (mZ (mN g__law_whole_cee86 (aCons (mZ (m2 ixD (vVar 15) (vE (mC (.int 1))))) aNil))))) (tB' (mZ (m2 neD (vE (mN g__law_class_ba2e6 (aCons (mZ (mVar 7)) (aCons (mZ (mVar 11)) (aCons (mZ (mVar 5)) aNil))))) (vE (m2 ixD (vVar 14) (vE (mC (.int 0)))))))))) (reS (mC (.bl false))) nxS))
    (seqS (frW [1, 2, 6] (ifS (tOrB (tB' (mZ (m2 neD (vE (mN g__law_told_5a9d2 (aCons (mZ (mVar 2)) (aCons (mZ (mVar 6)) (aCons (mZ (mC (.int 2))) aNil))))) (vE (mN lstD (aCons (mZ (mC (.int 0))) (aCons (mZ (mC (.int 0))) aNil))))))) (tOrB (tB' (mZ (m2 neD (vE (mN g__law_told_5a9d2 (aCons (mZ (mVar 2)) (aCons (mZ (mVar 6)) (aCons (mZ (mC (.int 0))) aNil))))) (vE (mN lstD (aCons (mZ (mC (.int 0))) (aCons (mZ (mC (.int 0))) aNil))))))) (tNotB (tB' (mZ (mN g__law_fielded_68063 (aCons (mZ (mVar 1)) (aCons (mZ (m2 ixD (vVar 14) (vE (mC (.int 1))))) aNil)))))))) (reS (mC (.bl false))) nxS))
    (frW [5, 7, 11] (reS (m2 eqD (vE (mN g__law_told_5a9d2 (aCons (mZ (mVar 7)) (aCons (mZ (mVar 11)) (aCons (mZ (mVar 5)) aNil))))) (vVar 14)))))))))))))))))))))
def g_law_bc23d (ds : List D) : Out R := finO (m_law_bc23d (inS 16 ds))
end Sh

namespace Sh
open PySem VM L2
/-- digits below their sizes -/
def InBox (r sizes : List Int) : Prop := ∀ (j : Nat) (x s : Int), r[j]? = some x → sizes[j]? = some s → 0 ≤ x ∧ x < s
theorem InBox.nil (sizes : List Int) : InBox [] sizes := fun j x s h => by simp at h
theorem InBox.snoc {r sizes : List Int} {x s : Int} (h : InBox r sizes) (hs : sizes[r.length]? = some s) (h0 : 0 ≤ x) (h1 : x < s) : InBox (r ++ [x]) sizes := fun j y t hy ht => by
  by_cases hj : j < r.length
  · rw [List.getElem?_append_left hj] at hy
    exact h j y t hy ht
  · by_cases hj2 : j = r.length
    · subst hj2
      rw [hs] at ht
      cases ht
      simp at hy
      subst hy
      exact ⟨h0, h1⟩
    · rw [List.getElem?_eq_none (by rw [List.length_append, List.length_singleton]; omega)] at hy
      cases hy
theorem digits_any (c : Int) (sizes : List Int) (hs : ∀ s ∈ sizes, 1 ≤ s) (hl : sizes.length ≤ 10000000) :
    ∃ r : List Int, g__law_digits_c35f8 [.int c, .lst (intsD sizes)] = .ok ⟨true, .lst (intsD r)⟩ ∧ r.length = sizes.length ∧ InBox r sizes := by
  suffices h : Gives (g__law_digits_c35f8 [.int c, .lst (intsD sizes)]) (fun z => ∃ r : List Int, z = ⟨true, .lst (intsD r)⟩ ∧ r.length = sizes.length ∧ InBox r sizes) by
    obtain ⟨z, e, r, rfl, h2, h3⟩ := h.ex
    exact ⟨r, e, h2, h3⟩
  unfold g__law_digits_c35f8 m__law_digits_c35f8
  refine gives_fin ?_
  refine wp_cut (fun S => S = [.fz (.int c), .fz (.lst (intsD sizes)), .own (.lst []), .no, .no, .no, .no, .no]) ?_ ?_
  · walk_at "vm"
  rintro _ rfl
  refine wp_cut (fun S => S = [.fz (.int c), .fz (.lst (intsD sizes)), .own (.lst []), .fz (.int c), .no, .no, .no, .no]) ?_ ?_
  · walk_at "vm"
  rintro _ rfl
  refine wp_cut (fun S => S = [.fz (.int c), .fz (.lst (intsD sizes)), .own (.lst []), .fz (.int c), .no, .no, .no, .no]) ?_ ?_
  · walk_at "vm"
    rw [p18]
    walk_at "vm"
    by_cases h : (1000000000000000000 : Int) ≤ c
    · rw [dT h]
      simp only [ite_t]
      refine wp_cut (fun S => S = [.fz (.int c), .fz (.lst (intsD sizes)), .own (.lst []), .fz (.int (c - 1000000000000000000)), .no, .no, .no, .no]) ?_ ?_
      · walk_at "vm"
        rw [p18]
        walk_at "vm"
      rintro _ rfl
      refine wp_cut (fun S => ∃ (r : List Int) (q : Int), r.length = sizes.length ∧ InBox r sizes ∧ S = [.fz (.int c), .fz (.lst (intsD sizes)), .own (.lst (intsD r)), .fz (.int q), .no, .no, .no, .no]) ?_ ?_
      · walk_at "vm"
        refine wp_for (fun i S => ∃ (r : List Int) (q : Int), r.length = i ∧ InBox r sizes ∧ S = [.fz (.int c), .fz (.lst (intsD sizes)), .own (.lst (intsD r)), .fz (.int q), .no, .no, .no, .no]) ⟨[], _, rfl, InBox.nil _, rfl⟩ ?_ (fun S h => ?_)
        · rintro i d S hd ⟨r, q, hr, hb, rfl⟩
          obtain ⟨s, rfl, hsi⟩ := map_int_get hd
          have hs1 := hs s (List.mem_of_getElem? hsi)
          have hil := (List.getElem?_eq_some_iff.mp hsi).1
          walk_at "vm"
          rw [mod_pos (by omega)]
          walk_at "vm"
          rw [if_pos (by rw [intsD, List.length_map]; omega)]
          walk_at "vm"
          rw [d_divP (by omega)]
          walk_at "vm"
          refine ⟨r ++ [q % s], q / s, by rw [List.length_append, List.length_singleton, hr], hb.snoc (s := s) (by rw [hr]; exact hsi) (Int.emod_nonneg _ (by omega)) (Int.emod_lt_of_pos _ (by omega)), ?_⟩
          simp [intsD]
        · obtain ⟨r, q, hr, hb, rfl⟩ := h
          exact ⟨r, q, by rw [hr, intsD, List.length_map], hb, rfl⟩
      rintro _ ⟨r, q, hr, hb, rfl⟩
      walk_at "vm"
      exact ⟨r, rfl, hr, hb⟩
    · rw [dF h]
      walk_at "vm"
  rintro _ rfl
  refine wp_cut (fun S => ∃ s : Int, 0 ≤ s ∧ s < 2147483647 ∧ S = [.fz (.int c), .fz (.lst (intsD sizes)), .own (.lst []), .fz (.int c), .no, .fz (.int s), .no, .no]) ?_ ?_
  · walk_at "vm"
    rw [mod_pos (by omega)]
    walk_at "vm"
    exact ⟨c % 2147483629, by omega, by omega, rfl⟩
  rintro _ ⟨s0, h0, h1, rfl⟩
  refine wp_cut (fun S => ∃ (r : List Int) (q : Int), r.length = sizes.length ∧ InBox r sizes ∧ S = [.fz (.int c), .fz (.lst (intsD sizes)), .own (.lst (intsD r)), .fz (.int c), .no, .fz (.int q), .no, .no]) ?_ ?_
  · walk_at "vm"
    have e1 : (intsD sizes).length = sizes.length := List.length_map ..
    rw [e1, if_pos (by omega)]
    walk_at "vm"
    refine wp_for (fun i S => ∃ (r : List Int) (q : Int), r.length = i ∧ 0 ≤ q ∧ q < 2147483647 ∧ InBox r sizes ∧ S = [.fz (.int c), .fz (.lst (intsD sizes)), .own (.lst (intsD r)), .fz (.int c), .no, .fz (.int q), .no, .no]) ⟨[], s0, rfl, h0, h1, InBox.nil _, rfl⟩ ?_ (fun S h => ?_)
    · rintro i d S hd ⟨r, q, hr, hq0, hq1, hb, rfl⟩
      obtain ⟨hi, rfl⟩ := rangeL_get hd
      have hil : i < sizes.length := by omega
      have hsi : sizes[i]? = some sizes[i] := List.getElem?_eq_getElem hil
      have hs1 := hs _ (List.getElem_mem hil)
      have hsD : atI (intsD sizes) (0 + (i : Int)) = some (.int sizes[i]) := by
        rw [intsD, atI_map, Int.zero_add]
        have := atI_nat (xs := sizes) (j := i) hsi
        rw [this]
        rfl
      walk_at "vm"
      rw [mul_small (by omega) (by omega), mul_small (by omega) (by omega)]
      walk_at "vm"
      rw [mod_pos (by omega)]
      walk_at "vm"
      generalize hw : (q * 48271 + 974711 * (0 + (i : Int)) + 12345) % 2147483647 = w
      have hw0 : 0 ≤ w ∧ w < 2147483647 := by omega
      rw [d_divP (by omega)]
      walk_at "vm"
      rw [mul_small (by omega) (by omega)]
      walk_at "vm"
      rw [mod_pos (by omega)]
      walk_at "vm"
      rw [d_divP (by omega), hsD]
      walk_at "vm"
      rw [mod_pos (by omega)]
      walk_at "vm"
      rw [if_pos (by rw [intsD, List.length_map]; omega)]
      walk_at "vm"
      refine ⟨r ++ [(w * (w / 65537 + 3)) % 2147483629 / 19 % sizes[i]], w, by rw [List.length_append, List.length_singleton, hr], hw0.1, hw0.2, hb.snoc (s := sizes[i]) (by rw [hr]; exact hsi) (Int.emod_nonneg _ (by omega)) (Int.emod_lt_of_pos _ (by omega)), ?_⟩
      simp [intsD]
    · obtain ⟨r, q, hr, _, _, hb, rfl⟩ := h
      exact ⟨r, q, by rw [hr, rangeL_len]; omega, hb, rfl⟩
  rintro _ ⟨r, q, hr, hb, rfl⟩
  walk_at "vm"
  exact ⟨r, rfl, hr, hb⟩
theorem digits_ok (c : Int) (sizes : List Int) (hs : ∀ s ∈ sizes, 1 ≤ s ∧ s ≤ 1000000000000) (hl : sizes.length ≤ 10000000) :
    ∃ r : List Int, g__law_digits_c35f8 [.int c, .lst (intsD sizes)] = .ok ⟨true, .lst (intsD r)⟩ ∧ r.length = sizes.length ∧ InBox r sizes := digits_any c sizes (fun s h => (hs s h).1) hl
end Sh
namespace Sh
open PySem VM L2
theorem dig_at {r sizes : List Int} (hl : r.length = sizes.length) (hb : InBox r sizes) (i : Int) (s : Int) (hi : 0 ≤ i) (hs : sizes[i.toNat]? = some s) : ∃ x, atI (intsD r) i = some (.int x) ∧ 0 ≤ x ∧ x < s := by
  have h1 := (List.getElem?_eq_some_iff.mp hs).1
  have h2 : i.toNat < r.length := by omega
  have h3 : r[i.toNat]? = some r[i.toNat] := List.getElem?_eq_getElem h2
  obtain ⟨b1, b2⟩ := hb i.toNat _ s h3 hs
  refine ⟨r[i.toNat], ?_, b1, b2⟩
  rw [intsD, atI_map]
  have := atI_nat (xs := r) (j := i.toNat) h3
  rw [Int.toNat_of_nonneg hi] at this
  rw [this]
  rfl
theorem cutL_len {α : Type} (xs : List α) (lo hi : Option Int) : (cutL xs lo hi).length ≤ xs.length := by
  unfold cutL
  rw [List.length_take, List.length_drop]
  omega
end Sh

namespace Sh
open PySem VM L2
theorem cellb_ok (ns : List Int) (k : Int) (h0 : 0 ≤ k) (h1 : k ≤ 1000000000) : ∃ z, g__law_cell_baed3 [.scr ns, .int k] = .ok ⟨false, .int z⟩ := by
  suffices h : Gives (g__law_cell_baed3 [.scr ns, .int k]) (fun r => ∃ z, r = ⟨false, .int z⟩) by
    obtain ⟨r, e, z, rfl⟩ := h.ex
    exact ⟨z, e⟩
  unfold g__law_cell_baed3 m__law_cell_baed3
  refine gives_fin ?_
  refine wp_cut (fun S => S = [.fz (.scr ns), .fz (.int k), .no, .no]) ?_ ?_
  · by_cases h : k < (ns.length : Int)
    · obtain ⟨x, hx, _⟩ := atI_in h0 h
      repeat (first | walk_at "vm" | rw [if_pos (by omega)] | rw [dT h] | rw [hx])
      exact ⟨x, rfl⟩
    · repeat (first | walk_at "vm" | rw [if_pos (by omega)] | rw [dF h])
  rintro _ rfl
  refine wp_cut (fun S => S = [.fz (.scr ns), .fz (.int k), .fz (.int 17), .no]) ?_ ?_
  · walk_at "vm"
  rintro _ rfl
  refine wp_cut (fun S => ∃ s : Int, 0 ≤ s ∧ s < 1000003 ∧ S = [.fz (.scr ns), .fz (.int k), .fz (.int s), .no]) ?_ ?_
  · walk_at "vm"
    refine wp_for (fun _ S => ∃ s : Int, 0 ≤ s ∧ s < 1000003 ∧ S = [.fz (.scr ns), .fz (.int k), .fz (.int s), .no]) ⟨17, by omega, by omega, rfl⟩ ?_ (fun S h => h)
    rintro i d S hd ⟨s, hs0, hs1, rfl⟩
    obtain ⟨x, rfl, _⟩ := map_int_get hd
    repeat (first | walk_at "vm" | rw [if_pos (by omega)] | rw [mul_small (by omega) (by decide)] | rw [mod_pos (by decide)])
    exact ⟨_, by omega, by omega, rfl⟩
  rintro _ ⟨s, hs0, hs1, rfl⟩
  walk_at "vm"
  rw [mul_small (by omega) (by omega)]
  walk_at "vm"
  rw [mul_small (Nat.le_trans (natAbs_mul_le (a := 2000000) (b := 2000000000) (by omega) (by omega)) (by decide)) (by decide)]
  repeat (first | walk_at "vm" | rw [if_pos (by omega)] | rw [mod_pos (by decide)])
  exact ⟨_, rfl⟩
/-- a choice of number -/
theorem many_ok (r : List Int) (hl : r.length = 5) (hb : InBox r [200, 14, 90, 400, 1600]) : ∃ n : Nat, 1 ≤ n ∧ n ≤ 1600 ∧ g__law_many_0ff6a [.lst (intsD r)] = .ok ⟨false, .int (n : Int)⟩ := by
  obtain ⟨r0, e0, p0, q0⟩ := dig_at (sizes := [200, 14, 90, 400, 1600]) (by rw [hl]; rfl) hb 0 200 (by decide) rfl
  obtain ⟨r1, e1, p1, q1⟩ := dig_at (sizes := [200, 14, 90, 400, 1600]) (by rw [hl]; rfl) hb 1 14 (by decide) rfl
  obtain ⟨r2, e2, p2, q2⟩ := dig_at (sizes := [200, 14, 90, 400, 1600]) (by rw [hl]; rfl) hb 2 90 (by decide) rfl
  obtain ⟨r3, e3, p3, q3⟩ := dig_at (sizes := [200, 14, 90, 400, 1600]) (by rw [hl]; rfl) hb 3 400 (by decide) rfl
  obtain ⟨r4, e4, p4, q4⟩ := dig_at (sizes := [200, 14, 90, 400, 1600]) (by rw [hl]; rfl) hb 4 1600 (by decide) rfl
  suffices h : ∃ z : Int, 1 ≤ z ∧ z ≤ 1600 ∧ g__law_many_0ff6a [.lst (intsD r)] = .ok ⟨false, .int z⟩ by
    obtain ⟨z, h1, h2, h3⟩ := h
    refine ⟨z.toNat, by omega, by omega, ?_⟩
    rw [Int.toNat_of_nonneg (by omega)]
    exact h3
  unfold g__law_many_0ff6a m__law_many_0ff6a
  by_cases a0 : r0 < 50
  · repeat (first | walk_at "vm" | rw [if_pos (by omega)] | rw [e0] | rw [dT a0] | rw [e1])
    exact ⟨_, by omega, by omega, rfl⟩
  · by_cases a1 : r0 < 175
    · repeat (first | walk_at "vm" | rw [if_pos (by omega)] | rw [e0] | rw [dF a0] | rw [dT a1] | rw [e2] | rw [mod_pos (by decide)])
      exact ⟨_, by omega, by omega, rfl⟩
    · by_cases a2 : r0 < 195
      · repeat (first | walk_at "vm" | rw [if_pos (by omega)] | rw [e0] | rw [dF a0] | rw [dF a1] | rw [dT a2] | rw [e2])
        exact ⟨_, by omega, by omega, rfl⟩
      · by_cases a3 : r0 < 199
        · repeat (first | walk_at "vm" | rw [if_pos (by omega)] | rw [e0] | rw [dF a0] | rw [dF a1] | rw [dF a2] | rw [dT a3] | rw [e3])
          exact ⟨_, by omega, by omega, rfl⟩
        · repeat (first | walk_at "vm" | rw [if_pos (by omega)] | rw [e0] | rw [dF a0] | rw [dF a1] | rw [dF a2] | rw [dF a3] | rw [e4])
          exact ⟨_, by omega, by omega, rfl⟩
/-! ### order: digits to a permutation -/
abbrev nD (k : Nat) : D := .int (k : Int)
abbrev nsD (ks : List Nat) : List D := ks.map nD
end Sh

namespace Sh
open PySem VM L2
theorem rangeL0 (n : Nat) : rangeL 0 n = nsD (List.range n) := by
  unfold rangeL nsD nD
  refine List.map_congr_left fun i _ => ?_
  simp
theorem ixN_ok {n : Nat} {k : Int} (h0 : 0 ≤ k) (h1 : k < n) : ixN n k = some k.toNat := by
  unfold ixN
  rw [if_pos h0, if_pos h1]
theorem ixN_nat {n k : Nat} (h : k < n) : ixN n (k : Int) = some k := by
  rw [ixN_ok (by omega) (by omega)]
  simp
theorem erase_perm {α : Type} : ∀ (l : List α) (k : Nat) (h : k < l.length), (l[k] :: l.eraseIdx k).Perm l
  | x :: l, 0, _ => .refl _
  | x :: l, k + 1, h => by
    have ih := erase_perm l k (by simpa using h)
    exact (List.Perm.swap _ _ _).trans (ih.cons x)
theorem map_erase {α β : Type} (f : α → β) : ∀ (l : List α) (k : Nat), (l.map f).eraseIdx k = (l.eraseIdx k).map f
  | [], _ => rfl
  | x :: l, 0 => rfl
  | x :: l, k + 1 => by
    show f x :: (l.map f).eraseIdx k = f x :: (l.eraseIdx k).map f
    rw [map_erase f l k]
theorem order_ok (ds : List Int) (hl : ds.length ≤ 100000) : ∃ o : List Nat, g__law_order_4fbf8 [.lst (intsD ds)] = .ok ⟨true, .lst (nsD o)⟩ ∧ o.Perm (List.range ds.length) := by
  suffices h : Gives (g__law_order_4fbf8 [.lst (intsD ds)]) (fun z => ∃ o : List Nat, z = ⟨true, .lst (nsD o)⟩ ∧ o.Perm (List.range ds.length)) by
    obtain ⟨z, e, o, rfl, h2⟩ := h.ex
    exact ⟨o, e, h2⟩
  unfold g__law_order_4fbf8 m__law_order_4fbf8
  refine gives_fin ?_
  have hil : (intsD ds).length = ds.length := by rw [intsD, List.length_map]
  refine wp_cut (fun S => S = [.fz (.lst (intsD ds)), .own (.lst (nsD (List.range ds.length))), .no, .no]) ?_ ?_
  · repeat (first | walk_at "vm" | rw [if_pos (by omega)])
    rw [hil]
    rw [show (ds.length : Int).toNat = ds.length by omega, rangeL0]

  rintro _ rfl
  refine wp_cut (fun S => S = [.fz (.lst (intsD ds)), .own (.lst (nsD (List.range ds.length))), .own (.lst []), .no]) ?_ ?_
  · repeat (first | walk_at "vm" | rw [if_pos (by omega)])
  rintro _ rfl
  refine wp_cut (fun S => ∃ o : List Nat, o.Perm (List.range ds.length) ∧ ∃ l, S = [.fz (.lst (intsD ds)), .own (.lst l), .own (.lst (nsD o)), .no]) ?_ ?_
  · repeat (first | walk_at "vm" | rw [if_pos (by omega)])
    refine wp_for (fun i S => ∃ o l : List Nat, (o ++ l).Perm (List.range ds.length) ∧ o.length = i ∧ S = [.fz (.lst (intsD ds)), .own (.lst (nsD l)), .own (.lst (nsD o)), .no]) ⟨[], _, by simp, rfl, rfl⟩ ?_ ?_
    · rintro i d S hd ⟨o, l, hp, ho, rfl⟩
      obtain ⟨x, rfl, hx⟩ := map_int_get hd
      have hi : i < ds.length := (List.getElem?_eq_some_iff.mp hx).1
      have hlen := hp.length_eq
      rw [List.length_append, List.length_range] at hlen
      have hl0 : 0 < l.length := by omega
      have hnl : (nsD l).length = l.length := List.length_map _
      have hol : (nsD o).length = o.length := List.length_map _
      have k0 : 0 ≤ x % (l.length : Int) := Int.emod_nonneg _ (by omega)
      have k1 : x % (l.length : Int) < l.length := Int.emod_lt_of_pos _ (by omega)
      repeat (first | walk_at "vm" | rw [if_pos (by omega)] | rw [hnl] | rw [mod_pos (by omega)])
      rw [ixN_ok k0 k1]
      generalize hk : (x % (l.length : Int)).toNat = k
      have hk2 : k < l.length := by omega
      unfold SOut.pp2
      have e1 : (nsD l)[k]? = some (nD l[k]) := by
        rw [List.getElem?_map, List.getElem?_eq_getElem hk2]
        rfl
      simp only [e1]
      rw [if_pos ⟨by decide, by omega, by omega, by omega⟩]
      repeat (first | walk_at "vm" | rw [if_pos (by omega)])
      refine ⟨o ++ [l[k]], l.eraseIdx k, ?_, by rw [List.length_append, List.length_singleton, ho], ?_⟩
      · rw [List.append_assoc]
        exact ((erase_perm l k hk2).append_left o).trans hp
      · rw [map_erase]
        simp [nsD]
    · rintro S ⟨o, l, hp, ho, rfl⟩
      rw [hil] at ho
      have hlen := hp.length_eq
      rw [List.length_append, List.length_range] at hlen
      have : l = [] := List.length_eq_zero_iff.mp (by omega)
      subst this
      rw [List.append_nil] at hp
      exact ⟨o, hp, _, rfl⟩
  rintro _ ⟨o, hp, l, rfl⟩
  repeat (first | walk_at "vm" | rw [if_pos (by omega)])
  exact ⟨o, rfl, hp⟩
end Sh

namespace Sh
open PySem VM L2
def oD : Option Nat → D
  | none => .non
  | some k => .int (k : Int)
theorem int_nat {z : Int} (h : 0 ≤ z) : D.int z = oD (some z.toNat) := by
  show _ = D.int (z.toNat : Int)
  rw [Int.toNat_of_nonneg h]
theorem next_ok (k ring hang digit : Int) (hk : 0 ≤ k) (hr : 0 ≤ ring) : ∃ o : Option Nat, g__law_next_cc2f4 [.int k, .int ring, .int hang, .int digit] = .ok ⟨false, oD o⟩ ∧ ∀ j, o = some j → (j : Int) ≤ k ∨ (j : Int) < ring := by
  have fin : ∀ z : Int, 0 ≤ z → (z ≤ k ∨ z < ring) → ∃ o : Option Nat, Out.ok (⟨false, .int z⟩ : R) = .ok ⟨false, oD o⟩ ∧ ∀ j, o = some j → (j : Int) ≤ k ∨ (j : Int) < ring := fun z h0 h1 => by
    refine ⟨some z.toNat, by rw [int_nat h0], fun j hj => ?_⟩
    cases hj
    rw [Int.toNat_of_nonneg h0]
    exact h1
  have fin0 : ∃ o : Option Nat, Out.ok (⟨false, .non⟩ : R) = .ok ⟨false, oD o⟩ ∧ ∀ j, o = some j → (j : Int) ≤ k ∨ (j : Int) < ring := ⟨none, rfl, fun j hj => nomatch hj⟩
  unfold g__law_next_cc2f4 m__law_next_cc2f4
  by_cases a0 : k < ring
  · repeat (first | walk_at "vm" | rw [if_pos (by omega)] | rw [dT a0] | rw [mod_pos (by omega)])
    exact fin _ (Int.emod_nonneg _ (by omega)) (.inr (Int.emod_lt_of_pos _ (by omega)))
  by_cases a1 : k = 0
  · repeat (first | walk_at "vm" | rw [if_pos (by omega)] | rw [dF a0] | rw [eqD_int] | rw [beq_iff_eq.mpr a1])
    exact fin0
  have b1 : (k == 0) = false := beq_eq_false_iff_ne.mpr a1
  have m6 : ∀ z : Int, modD (.int digit) (.int z) = if z = 0 then modD (.int digit) (.int z) else modD (.int digit) (.int z) := fun z => by split <;> rfl
  have key : (hang == 4) = true → ∃ o : Option Nat, finO (m__law_next_cc2f4 (inS 4 [.int k, .int ring, .int hang, .int digit])) = .ok ⟨false, oD o⟩ ∧ ∀ j, o = some j → (j : Int) ≤ k ∨ (j : Int) < ring := fun h4 => by
    have e4 : hang = 4 := eq_of_beq h4
    subst e4
    unfold m__law_next_cc2f4
    by_cases c0 : digit % 6 = 0
    · repeat (first | walk_at "vm" | rw [if_pos (by omega)] | rw [dF a0] | rw [eqD_int] | rw [b1] | rw [mod_pos (by decide)] | rw [beq_iff_eq.mpr c0] | rw [beq_self_eq_true])
      exact fin0
    · have d0 : (digit % 6 == 0) = false := beq_eq_false_iff_ne.mpr c0
      by_cases c1 : digit % 6 = 1
      · repeat (first | walk_at "vm" | rw [if_pos (by omega)] | rw [dF a0] | rw [eqD_int] | rw [b1] | rw [mod_pos (by decide)] | rw [d0] | rw [beq_iff_eq.mpr c1] | rw [beq_self_eq_true])
        exact fin k hk (.inl (Int.le_refl _))
      · have d1 : (digit % 6 == 1) = false := beq_eq_false_iff_ne.mpr c1
        have q0 : ((4 : Int) == 0) = false := rfl
        have q1 : ((4 : Int) == 1) = false := rfl
        have q2 : ((4 : Int) == 2) = false := rfl
        repeat (first | walk_at "vm" | rw [if_pos (by omega)] | rw [dF a0] | rw [eqD_int] | rw [b1] | rw [mod_pos (by decide)] | rw [d0] | rw [d1] | rw [beq_self_eq_true] | rw [q0] | rw [q1] | rw [q2] | rw [dF (show ¬ (4 : Int) < 4 by decide)])
        repeat (first | walk_at "vm" | rw [if_pos (by omega)] | rw [mod_pos (show 0 < k by omega)])
        exact fin _ (Int.emod_nonneg _ (by omega)) (.inl (by have := Int.emod_lt_of_pos digit (show 0 < k by omega); omega))
  cases h4 : (hang == 4) with
  | true =>
    have := key h4
    unfold m__law_next_cc2f4 at this
    exact this
  | false =>
    cases h0 : (hang == 0) with
    | true =>
      repeat (first | walk_at "vm" | rw [if_pos (by omega)] | rw [dF a0] | rw [eqD_int] | rw [b1] | rw [h4] | rw [h0])
      exact fin _ (by omega) (.inl (by omega))
    | false =>
      have one : 0 < max 1 ring ∧ (max 1 ring ≤ k ∨ max 1 ring ≤ ring) := by omega
      have hm : ∀ z : Int, z = (if ring > 1 then ring else 1) → ∃ o : Option Nat, Out.ok (⟨false, .int (digit % z)⟩ : R) = .ok ⟨false, oD o⟩ ∧ ∀ j, o = some j → (j : Int) ≤ k ∨ (j : Int) < ring := fun z hz => by
        have hz1 : 1 ≤ z := by rw [hz]; split <;> omega
        have l1 := Int.emod_lt_of_pos digit (show 0 < z by omega)
        refine fin _ (Int.emod_nonneg _ (by omega)) (.inl ?_)
        have : z ≤ k + 1 := by rw [hz]; split <;> omega
        omega
      cases h1 : (hang == 1) with
      | true =>
        repeat (first | walk_at "vm" | rw [if_pos (by omega)] | rw [dF a0] | rw [eqD_int] | rw [b1] | rw [h4] | rw [h0] | rw [h1])
        generalize hz : (if ring > 1 then ring else 1) = z
        have hz1 : 0 < z := by rw [← hz]; split <;> omega
        repeat (first | walk_at "vm" | rw [if_pos (by omega)] | rw [mod_pos hz1])
        exact hm z hz.symm
      | false =>
        cases hg : decide (4 < hang) && (k % 2 == 0) with
        | true =>
          rw [Bool.and_eq_true] at hg
          repeat (first | walk_at "vm" | rw [if_pos (by omega)] | rw [dF a0] | rw [eqD_int] | rw [b1] | rw [h4] | rw [h0] | rw [h1] | rw [hg.1] | rw [mod_pos (by decide)] | rw [hg.2])
          generalize hz : (if ring > 1 then ring else 1) = z
          have hz1 : 0 < z := by rw [← hz]; split <;> omega
          repeat (first | walk_at "vm" | rw [if_pos (by omega)] | rw [mod_pos hz1])
          exact hm z hz.symm
        | false =>
          have rest : ∃ o : Option Nat, finO (SOut.th (SOut.ite (.ok (decide (hang = 2))) [.fz (.int k), .fz (.int ring), .fz (.int hang), .fz (.int digit)] (reS (mN maxD (aCons (vE (mC (.int 0))) (aCons (vE (m2 subD (vE (m2 subD (vVar 0) (vE (mC (.int 1))))) (vE (m2 modD (vE (mN intD (aCons (vVar 3) aNil))) (vE (mC (.int 3))))))) aNil)))) nxS) (reS (m2 modD (vE (mN intD (aCons (vVar 3) aNil))) (vVar 0)))) = .ok ⟨false, oD o⟩ ∧ ∀ j, o = some j → (j : Int) ≤ k ∨ (j : Int) < ring := by
            by_cases h2 : hang = 2
            · repeat (first | walk_at "vm" | rw [if_pos (by omega)] | rw [dT h2] | rw [mod_pos (by decide)])
              generalize hz : (if k - 1 - digit % 3 > 0 then k - 1 - digit % 3 else 0) = z
              have l1 := Int.emod_nonneg digit (show (3 : Int) ≠ 0 by decide)
              exact fin z (by rw [← hz]; split <;> omega) (.inl (by rw [← hz]; split <;> omega))
            · repeat (first | walk_at "vm" | rw [if_pos (by omega)] | rw [dF h2] | rw [mod_pos (show 0 < k by omega)])
              exact fin _ (Int.emod_nonneg _ (by omega)) (.inl (by have := Int.emod_lt_of_pos digit (show 0 < k by omega); omega))
          have e2 : (hang == 2) = decide (hang = 2) := by
            by_cases h : hang = 2
            · rw [dT h]; exact beq_iff_eq.mpr h
            · rw [dF h]; exact beq_eq_false_iff_ne.mpr h
          cases hd : decide (4 < hang) with
          | true =>
            rw [hd, Bool.true_and] at hg
            repeat (first | walk_at "vm" | rw [if_pos (by omega)] | rw [dF a0] | rw [eqD_int] | rw [b1] | rw [h4] | rw [h0] | rw [h1] | rw [hd] | rw [mod_pos (by decide)] | rw [hg])
            rw [e2]
            exact rest
          | false =>
            repeat (first | walk_at "vm" | rw [if_pos (by omega)] | rw [dF a0] | rw [eqD_int] | rw [b1] | rw [h4] | rw [h0] | rw [h1] | rw [hd])
            rw [e2]
            exact rest
end Sh

namespace Sh
open PySem VM L2
theorem alike_ok (k n kind hub : Int) (hk : 0 ≤ k) (hkn : k < n) (hh : 0 ≤ hub) (hhn : hub < n) : ∃ o : Option Nat, g__law_alike_8c450 [.int k, .int n, .int kind, .int hub] = .ok ⟨false, oD o⟩ ∧ ∀ j, o = some j → (j : Int) < n := by
  have fin : ∀ z : Int, 0 ≤ z → z < n → ∃ o : Option Nat, Out.ok (⟨false, .int z⟩ : R) = .ok ⟨false, oD o⟩ ∧ ∀ j, o = some j → (j : Int) < n := fun z h0 h1 => by
    refine ⟨some z.toNat, by rw [int_nat h0], fun j hj => ?_⟩
    cases hj
    rw [Int.toNat_of_nonneg h0]
    exact h1
  have fin0 : ∃ o : Option Nat, Out.ok (⟨false, .non⟩ : R) = .ok ⟨false, oD o⟩ ∧ ∀ j, o = some j → (j : Int) < n := ⟨none, rfl, fun j hj => nomatch hj⟩
  unfold g__law_alike_8c450 m__law_alike_8c450
  cases h0 : (kind == 0) with
  | true =>
    repeat (first | walk_at "vm" | rw [if_pos (by omega)] | rw [eqD_int] | rw [h0])
    exact fin0
  | false =>
    have rest : ∃ o : Option Nat, finO (SOut.th (SOut.ite (.ok (kind == 1)) [.fz (.int k), .fz (.int n), .fz (.int kind), .fz (.int hub)] (rvS 0) nxS) (seqS (ifS (tB' (mZ (m2 eqD (vVar 2) (vE (mC (.int 4)))))) (reS (m2 modD (vE (m2 addD (vVar 0) (vE (mC (.int 1))))) (vVar 1))) nxS) (rvS 3))) = .ok ⟨false, oD o⟩ ∧ ∀ j, o = some j → (j : Int) < n := by
      cases h1 : (kind == 1) with
      | true =>
        repeat (first | walk_at "vm" | rw [if_pos (by omega)])
        exact fin k hk hkn
      | false =>
        cases h4 : (kind == 4) with
        | true =>
          repeat (first | walk_at "vm" | rw [if_pos (by omega)] | rw [eqD_int] | rw [h4] | rw [mod_pos (by omega)])
          exact fin _ (Int.emod_nonneg _ (by omega)) (Int.emod_lt_of_pos _ (by omega))
        | false =>
          repeat (first | walk_at "vm" | rw [if_pos (by omega)] | rw [eqD_int] | rw [h4])
          exact fin hub hh hhn
    cases h2 : (kind == 2) with
    | true =>
      cases h3 : (k == hub) with
      | true =>
        repeat (first | walk_at "vm" | rw [if_pos (by omega)] | rw [eqD_int] | rw [h0] | rw [h2] | rw [h3])
        exact fin0
      | false =>
        repeat (first | walk_at "vm" | rw [if_pos (by omega)] | rw [eqD_int] | rw [h0] | rw [h2] | rw [h3])
        exact rest
    | false =>
      repeat (first | walk_at "vm" | rw [if_pos (by omega)] | rw [eqD_int] | rw [h0] | rw [h2])
      exact rest
/-- a table of nexts -/
def TabOk (t : List (Option Nat)) (n : Nat) : Prop := t.length = n ∧ ∀ j, some j ∈ t → j < n
theorem oDs_of {ds : List D} {n : Nat} (h : ∀ d ∈ ds, ∃ o : Option Nat, d = oD o ∧ ∀ j, o = some j → j < n) : ∃ t : List (Option Nat), ds = t.map oD ∧ ∀ j, some j ∈ t → j < n := by
  induction ds with
  | nil => exact ⟨[], rfl, fun j h => nomatch h⟩
  | cons d ds ih =>
    obtain ⟨t, e, ht⟩ := ih fun x hx => h x (List.mem_cons_of_mem _ hx)
    obtain ⟨o, rfl, ho⟩ := h d List.mem_cons_self
    refine ⟨o :: t, by rw [List.map_cons, e], fun j hj => ?_⟩
    rcases List.mem_cons.mp hj with hj | hj
    · exact ho j hj.symm
    · exact ht j hj
theorem flat_one {α : Type} (x : α) : ∀ n : Nat, (List.replicate n [x]).flatten = List.replicate n x
  | 0 => rfl
  | n + 1 => by
    rw [List.replicate_succ, List.flatten_cons, flat_one x n]
    rfl
theorem mul_one_list {x : D} {n : Nat} (h : n ≤ 100000) : mulD (.lst [x]) (.int (n : Int)) = .ok ⟨true, .lst (List.replicate n x)⟩ := by
  show (if [x].length * ((n : Int)).toNat ≤ 16000000 ∧ ((n : Int)).toNat ≤ 1000000000 ∧ (-(n : Int)).toNat ≤ 1000000000 then owO (.lst (List.replicate ((n : Int)).toNat [x]).flatten) else .no) = _
  rw [if_pos ⟨by simp; omega, by omega, by omega⟩]
  rw [show ((n : Int)).toNat = n by omega, flat_one]
  rfl
theorem intsD_rep (n : Nat) (z : Int) : intsD (List.replicate n z) = List.replicate n (.int z) := by
  unfold intsD
  rw [List.map_replicate]
theorem atI_nsD {ks : List Nat} {k : Nat} (h : k < ks.length) : atI (nsD ks) (k : Int) = some (nD ks[k]) := by
  unfold atI
  rw [show (nsD ks).length = ks.length from List.length_map _, ixN_nat h]
  show (nsD ks)[k]? = _
  rw [List.getElem?_map, List.getElem?_eq_getElem h]
  rfl
theorem atI_oD {t : List (Option Nat)} {k : Nat} (h : k < t.length) : atI (t.map oD) (k : Int) = some (oD t[k]) := by
  unfold atI
  rw [List.length_map, ixN_nat h]
  show (t.map oD)[k]? = _
  rw [List.getElem?_map, List.getElem?_eq_getElem h]
  rfl
theorem isD_oD (neg : Bool) (o : Option Nat) : isD neg (oD o) .non = .ok ⟨false, .bl (xor neg o.isNone)⟩ := by
  cases o <;> rfl
theorem n_oN : isNon (oD none) = true := rfl
theorem n_oS {j : Nat} : isNon (oD (some j)) = false := rfl
theorem oD_s {j : Nat} : oD (some j) = .int (j : Int) := rfl
/-- the digits of a row of equal sizes -/
theorem dig_rep {r : List Int} {n : Nat} {m : Int} (hl : r.length = (List.replicate n m).length) (hb : InBox r (List.replicate n m)) (k : Int) (h0 : 0 ≤ k) (h1 : k < n) : ∃ x, atI (intsD r) k = some (.int x) ∧ 0 ≤ x ∧ x < m :=
  dig_at hl hb k m h0 (by rw [List.getElem?_replicate, if_pos (by omega)])
theorem table_ok (ns : List Int) (n : Nat) (h1 : 1 ≤ n) (h2 : n ≤ 1600) : ∃ t : List (Option Nat), g__law_table_8aae1 [.scr ns, .int (n : Int)] = .ok ⟨true, .lst (t.map oD)⟩ ∧ TabOk t n := by
  suffices h : Gives (g__law_table_8aae1 [.scr ns, .int (n : Int)]) (fun z => ∃ t : List (Option Nat), z = ⟨true, .lst (t.map oD)⟩ ∧ TabOk t n) by
    obtain ⟨z, e, o, rfl, h2⟩ := h.ex
    exact ⟨o, e, h2⟩
  obtain ⟨c1, hc1⟩ := cellb_ok ns 1 (by decide) (by decide)
  obtain ⟨c2, hc2⟩ := cellb_ok ns 2 (by decide) (by decide)
  obtain ⟨c3, hc3⟩ := cellb_ok ns 3 (by decide) (by decide)
  obtain ⟨r, hr, lr, br⟩ := digits_ok c1 [10, (n : Int) + 1, 7, 7, 4, 8, 4] (by simp; omega) (by simp)
  obtain ⟨q, hq, lq, bq⟩ := digits_ok c2 (List.replicate n ((n : Int) + 1)) (fun s hs => by rw [(List.mem_replicate.mp hs).2]; omega) (by rw [List.length_replicate]; omega)
  have lq2 : q.length = n := by rw [lq, List.length_replicate]
  rw [intsD_rep] at hq
  have hr' : g__law_digits_c35f8 [.int c1, .lst [.int 10, .int ((n : Int) + 1), .int 7, .int 7, .int 4, .int 8, .int 4]] = .ok ⟨true, .lst (intsD r)⟩ := hr
  obtain ⟨r0, e0, p0, q0⟩ := dig_at lr br 0 10 (by decide) rfl
  obtain ⟨r1, e1, p1, q1⟩ := dig_at lr br 1 _ (by decide) rfl
  obtain ⟨r2, e2, p2, q2⟩ := dig_at lr br 2 7 (by decide) rfl
  obtain ⟨r3, e3, p3, q3⟩ := dig_at lr br 3 7 (by decide) rfl
  obtain ⟨r4, e4, p4, q4⟩ := dig_at lr br 4 4 (by decide) rfl
  obtain ⟨r5, e5, p5, q5⟩ := dig_at lr br 5 8 (by decide) rfl
  obtain ⟨r6, e6, p6, q6⟩ := dig_at lr br 6 4 (by decide) rfl
  have liq : (intsD q).length = n := by rw [intsD, List.length_map, lq2]
  unfold g__law_table_8aae1 m__law_table_8aae1
  refine gives_fin ?_
  refine wp_cut (fun S => S = [.fz (.scr ns), .fz (.int (n : Int)), .own (.lst (intsD r)), .no, .no, .no, .no, .no, .no, .no, .no, .no, .no]) ?_ ?_
  · repeat (first | walk_at "vm" | rw [if_pos (by omega)] | rw [hc1] | rw [hr'])
  rintro _ rfl
  refine wp_cut (fun S => S = [.fz (.scr ns), .fz (.int (n : Int)), .own (.lst (intsD r)), .own (.lst (intsD q)), .no, .no, .no, .no, .no, .no, .no, .no, .no]) ?_ ?_
  · repeat (first | walk_at "vm" | rw [if_pos (by omega)] | rw [hc2] | rw [mul_one_list (by omega)] | rw [hq])
  rintro _ rfl
  refine wp_cut (fun S => ¬ r0 < 2 ∧ S = [.fz (.scr ns), .fz (.int (n : Int)), .own (.lst (intsD r)), .own (.lst (intsD q)), .no, .no, .no, .no, .no, .no, .no, .no, .no]) ?_ ?_
  · by_cases a0 : r0 < 2
    · repeat (first | walk_at "vm" | rw [if_pos (by omega)] | rw [e0] | rw [dT a0])
      refine wp_rt_lc (fun d => ∃ o : Option Nat, d = oD o ∧ ∀ j, o = some j → j < n) (by omega) ?_ ?_
      · intro d hd
        obtain ⟨i, hi⟩ := List.mem_iff_getElem?.mp hd
        obtain ⟨x, rfl, hx⟩ := map_int_get hi
        obtain ⟨b1, b2⟩ := bq i x ((n : Int) + 1) hx (by rw [List.getElem?_replicate, if_pos (by have := (List.getElem?_eq_some_iff.mp hx).1; omega)])
        by_cases hxn : x = n
        · repeat (first | walk_at "vm" | rw [if_pos (by omega)] | rw [eqD_int] | rw [beq_iff_eq.mpr hxn])
          rw [show atI [D.int x, D.non] 1 = some .non from rfl]
          repeat (first | walk_at "vm" | rw [if_pos (by omega)])
          exact ⟨none, rfl, fun j hj => nomatch hj⟩
        · repeat (first | walk_at "vm" | rw [if_pos (by omega)] | rw [eqD_int] | rw [beq_eq_false_iff_ne.mpr hxn])
          rw [show atI [D.int x, D.non] 0 = some (.int x) from rfl]
          repeat (first | walk_at "vm" | rw [if_pos (by omega)])
          exact ⟨some x.toNat, int_nat b1, fun j hj => by cases hj; omega⟩
      · intro ys hy hP
        obtain ⟨t, rfl, ht⟩ := oDs_of hP
        rw [List.length_map, liq] at hy
        exact ⟨t, rfl, hy, ht⟩
    · repeat (first | walk_at "vm" | rw [if_pos (by omega)] | rw [e0] | rw [dF a0])
      exact ⟨a0, by trivial⟩
  rintro _ ⟨a0, rfl⟩
  refine wp_cut (fun S => 3 ≤ r0 ∧ S = [.fz (.scr ns), .fz (.int (n : Int)), .own (.lst (intsD r)), .own (.lst (intsD q)), .no, .no, .no, .no, .no, .no, .no, .no, .no]) ?_ ?_
  · cases hb : (r0 == 2) with
    | true =>
      repeat (first | walk_at "vm" | rw [if_pos (by omega)] | rw [e0] | rw [eqD_int] | rw [hb])
      refine wp_rt_lc (fun d => ∃ o : Option Nat, d = oD o ∧ ∀ j, o = some j → j < n) (by rw [rangeL_len]; omega) ?_ ?_
      · intro d hd
        obtain ⟨i, hi⟩ := List.mem_iff_getElem?.mp hd
        obtain ⟨hi2, rfl⟩ := rangeL_get hi
        repeat (first | walk_at "vm" | rw [if_pos (by omega)] | rw [e2] | rw [e1] | rw [mod_pos (show (0 : Int) < 5 by decide)] | rw [mod_pos (show (0 : Int) < n by omega)])
        obtain ⟨o, ho, hb⟩ := alike_ok (0 + (i : Int)) n (r2 % 5) (r1 % n) (by omega) (by omega) (Int.emod_nonneg _ (by omega)) (Int.emod_lt_of_pos _ (by omega))
        repeat (first | walk_at "vm" | rw [if_pos (by omega)] | rw [ho])
        exact ⟨o, rfl, fun j hj => by have := hb j hj; omega⟩
      · intro ys hy hP
        obtain ⟨t, rfl, ht⟩ := oDs_of hP
        rw [List.length_map, rangeL_len] at hy
        exact ⟨t, rfl, by omega, ht⟩
    | false =>
      have := beq_eq_false_iff_ne.mp hb
      repeat (first | walk_at "vm" | rw [if_pos (by omega)] | rw [e0] | rw [eqD_int] | rw [hb])
      exact ⟨by omega, by trivial⟩
  rintro _ ⟨h3, rfl⟩
  -- the cut
  refine wp_cut (fun S => ∃ cut : Nat, cut ≤ n ∧ S = [.fz (.scr ns), .fz (.int (n : Int)), .own (.lst (intsD r)), .own (.lst (intsD q)), .no, .no, .fz (.int (cut : Int)), .no, .no, .no, .no, .no, .no]) ?_ ?_
  · repeat (first | walk_at "vm" | rw [if_pos (by omega)] | rw [e1] | rw [e0])
    generalize hm : (if (3 : Int) < r0 - 3 then (3 : Int) else r0 - 3) = m
    have hm2 : m = 0 ∨ m = 1 ∨ m = 2 ∨ m = 3 := by split at hm <;> omega
    have at4 : atI [D.int 0, D.int 0, D.int n, D.int r1] m = some (.int (if m = 2 then (n : Int) else if m = 3 then r1 else 0)) := by
      rcases hm2 with h | h | h | h <;> (subst h; rfl)
    repeat (first | walk_at "vm" | rw [if_pos (by omega)] | rw [at4])
    generalize hc : (if m = 2 then (n : Int) else if m = 3 then r1 else 0) = c
    have hc0 : 0 ≤ c ∧ c ≤ n := by
      rw [← hc]
      split
      · omega
      · split <;> omega
    refine ⟨c.toNat, by omega, ?_⟩
    rw [Int.toNat_of_nonneg hc0.1]
  rintro _ ⟨cut, hcut, rfl⟩
  refine wp_cut (fun S => ∃ one : Int, 0 ≤ one ∧ one ≤ cut ∧ S = [.fz (.scr ns), .fz (.int (n : Int)), .own (.lst (intsD r)), .own (.lst (intsD q)), .no, .no, .fz (.int (cut : Int)), .fz (.int one), .no, .no, .no, .no, .no]) ?_ ?_
  · repeat (first | walk_at "vm" | rw [if_pos (by omega)] | rw [e4])
    have at4 : atI [D.int 0, D.int 0, D.int 0, D.int 2] r4 = some (.int (if r4 = 3 then 2 else 0)) := by
      have : r4 = 0 ∨ r4 = 1 ∨ r4 = 2 ∨ r4 = 3 := by omega
      rcases this with h | h | h | h <;> (subst h; rfl)
    repeat (first | walk_at "vm" | rw [if_pos (by omega)] | rw [at4])
    refine ⟨_, ?_, ?_, rfl⟩
    · split <;> split <;> omega
    · split <;> split <;> omega
  rintro _ ⟨one, ho1, ho2, rfl⟩
  refine wp_cut (fun S => ∃ two : Int, 0 ≤ two ∧ two ≤ n - cut ∧ S = [.fz (.scr ns), .fz (.int (n : Int)), .own (.lst (intsD r)), .own (.lst (intsD q)), .no, .no, .fz (.int (cut : Int)), .fz (.int one), .fz (.int two), .no, .no, .no, .no]) ?_ ?_
  · repeat (first | walk_at "vm" | rw [if_pos (by omega)] | rw [e5])
    have at8 : ∃ z : Int, 0 ≤ z ∧ atI [D.int 1, D.int 1, D.int 2, D.int 2, D.int 3, D.int 4, D.int 5, D.int n] r5 = some (.int z) := by
      have : r5 = 0 ∨ r5 = 1 ∨ r5 = 2 ∨ r5 = 3 ∨ r5 = 4 ∨ r5 = 5 ∨ r5 = 6 ∨ r5 = 7 := by omega
      rcases this with h | h | h | h | h | h | h | h <;> subst h
      · exact ⟨1, by omega, rfl⟩
      · exact ⟨1, by omega, rfl⟩
      · exact ⟨2, by omega, rfl⟩
      · exact ⟨2, by omega, rfl⟩
      · exact ⟨3, by omega, rfl⟩
      · exact ⟨4, by omega, rfl⟩
      · exact ⟨5, by omega, rfl⟩
      · exact ⟨n, by omega, rfl⟩
    obtain ⟨z, hz, ez⟩ := at8
    repeat (first | walk_at "vm" | rw [if_pos (by omega)] | rw [ez])
    refine ⟨_, ?_, ?_, rfl⟩
    · split <;> omega
    · split <;> omega
  rintro _ ⟨two, ht1, ht2, rfl⟩
  -- the first part
  refine wp_cut (fun S => ∃ t : List (Option Nat), t.length = cut ∧ (∀ j, some j ∈ t → j < n) ∧ S = [.fz (.scr ns), .fz (.int (n : Int)), .own (.lst (intsD r)), .own (.lst (intsD q)), .no, .no, .fz (.int (cut : Int)), .fz (.int one), .fz (.int two), .own (.lst (t.map oD)), .no, .no, .no]) ?_ ?_
  · repeat (first | walk_at "vm" | rw [if_pos (by omega)])
    refine wp_st_lc (fun d => ∃ o : Option Nat, d = oD o ∧ ∀ j, o = some j → j < n) (by rw [rangeL_len]; omega) rfl ?_ ?_
    · intro d hd
      obtain ⟨i, hi⟩ := List.mem_iff_getElem?.mp hd
      obtain ⟨hi2, rfl⟩ := rangeL_get hi
      obtain ⟨x, ex, _, _⟩ := dig_rep lq bq (0 + (i : Int)) (by omega) (by omega)
      obtain ⟨o, ho, hb⟩ := next_ok (0 + (i : Int)) one r2 x (by omega) ho1
      repeat (first | walk_at "vm" | rw [if_pos (by omega)] | rw [e2] | rw [ex] | rw [ho])
      exact ⟨o, rfl, fun j hj => by have := hb j hj; omega⟩
    · intro ys hy hP
      obtain ⟨t, rfl, ht⟩ := oDs_of hP
      rw [List.length_map, rangeL_len] at hy
      exact ⟨t, by omega, ht, rfl⟩
  rintro _ ⟨t, hlt, htb, rfl⟩
  -- the second part
  refine wp_cut (fun S => ∃ t : List (Option Nat), TabOk t n ∧ S = [.fz (.scr ns), .fz (.int (n : Int)), .own (.lst (intsD r)), .own (.lst (intsD q)), .no, .no, .fz (.int (cut : Int)), .fz (.int one), .fz (.int two), .own (.lst (t.map oD)), .no, .no, .no]) ?_ ?_
  · repeat (first | walk_at "vm" | rw [if_pos (by omega)])
    refine wp_for (fun i S => ∃ t : List (Option Nat), t.length = cut + i ∧ (∀ j, some j ∈ t → j < n) ∧ S = [.fz (.scr ns), .fz (.int (n : Int)), .own (.lst (intsD r)), .own (.lst (intsD q)), .no, .no, .fz (.int (cut : Int)), .fz (.int one), .fz (.int two), .own (.lst (t.map oD)), .no, .no, .no]) ⟨t, hlt, htb, rfl⟩ ?_ ?_
    · rintro i d S hd ⟨t, hlt, htb, rfl⟩
      obtain ⟨hi2, rfl⟩ := rangeL_get hd
      obtain ⟨x, ex, _, _⟩ := dig_rep lq bq ((cut : Int) + (0 + (i : Int))) (by omega) (by omega)
      obtain ⟨o, ho, hb⟩ := next_ok (0 + (i : Int)) two r3 x (by omega) ht1
      cases o with
      | none =>
        repeat (first | walk_at "vm" | rw [if_pos (by omega)] | rw [e3] | rw [ex] | rw [ho] | rw [n_oN] | rw [List.length_map])
        refine ⟨t ++ [none], by rw [List.length_append, List.length_singleton]; omega, fun j hj => ?_, by simp [oD]⟩
        rcases List.mem_append.mp hj with h | h
        · exact htb j h
        · simp at h
      | some j0 =>
        have hj0 := hb j0 rfl
        repeat (first | walk_at "vm" | rw [if_pos (by omega)] | rw [e3] | rw [ex] | rw [ho] | rw [n_oS] | rw [oD_s] | rw [List.length_map])
        refine ⟨t ++ [some (cut + j0)], by rw [List.length_append, List.length_singleton]; omega, fun j hj => ?_, by simp [oD]⟩
        rcases List.mem_append.mp hj with h | h
        · exact htb j h
        · simp at h
          omega
    · rintro S ⟨t, hlt, htb, rfl⟩
      rw [rangeL_len] at hlt
      exact ⟨t, ⟨by omega, htb⟩, rfl⟩
  rintro _ ⟨t, ⟨hlt, htb⟩, rfl⟩
  refine wp_cut (fun S => S = [.fz (.scr ns), .fz (.int (n : Int)), .own (.lst (intsD r)), .own (.lst (intsD q)), .no, .no, .fz (.int (cut : Int)), .fz (.int one), .fz (.int two), .own (.lst (t.map oD)), .no, .no, .no]) ?_ ?_
  · cases hb : (r6 == 0) with
    | true =>
      repeat (first | walk_at "vm" | rw [if_pos (by omega)] | rw [e6] | rw [eqD_int] | rw [hb])
      exact ⟨t, rfl, hlt, htb⟩
    | false => repeat (first | walk_at "vm" | rw [if_pos (by omega)] | rw [e6] | rw [eqD_int] | rw [hb])
  rintro _ rfl
  -- the order
  have szs : ∃ zs : List Int, zs.length = n ∧ (∀ s ∈ zs, 1 ≤ s ∧ s ≤ 1000000000000) ∧ (rangeL 0 n).map (fun d => match d with | .int i => D.int ((n : Int) - i) | d => d) = intsD zs := by
    refine ⟨(List.range n).map fun i : Nat => (n : Int) - i, by simp, fun s hs => ?_, ?_⟩
    · obtain ⟨i, hi, rfl⟩ := List.mem_map.mp hs
      rw [List.mem_range] at hi
      omega
    · unfold rangeL intsD
      rw [List.map_map, List.map_map]
      refine List.map_congr_left fun i _ => ?_
      simp
  refine wp_cut (fun S => ∃ o : List Nat, o.Perm (List.range n) ∧ S = [.fz (.scr ns), .fz (.int (n : Int)), .own (.lst (intsD r)), .own (.lst (intsD q)), .no, .no, .fz (.int (cut : Int)), .fz (.int one), .fz (.int two), .own (.lst (t.map oD)), .no, .own (.lst (nsD o)), .no]) ?_ ?_
  · repeat (first | walk_at "vm" | rw [if_pos (by omega)] | rw [hc3])
    have hlc := lcL_some (tg := gN 5) (te := mZ (m2 subD (vVar 1) (vVar 5))) (S0 := [.fz (.scr ns), .fz (.int (n : Int)), .own (.lst (intsD r)), .own (.lst (intsD q)), .no, .no, .fz (.int (cut : Int)), .fz (.int one), .fz (.int two), .own (.lst (t.map oD)), .no, .no, .no]) (ds := rangeL 0 n) (fun d => ∃ s : Int, d = .int s ∧ 1 ≤ s ∧ s ≤ 1000000000000) (fun d hd => by
      obtain ⟨i, hi⟩ := List.mem_iff_getElem?.mp hd
      obtain ⟨hi2, rfl⟩ := rangeL_get hi
      repeat (first | walk_at "vm" | rw [if_pos (by omega)])
      exact ⟨_, rfl, by omega, by omega⟩)
    obtain ⟨ys, k1, k2, k3⟩ := hlc
    obtain ⟨zs, rfl, hz⟩ : ∃ zs : List Int, ys = intsD zs ∧ ∀ s ∈ zs, 1 ≤ s ∧ s ≤ 1000000000000 := by
      clear k1 k2
      induction ys with
      | nil => exact ⟨[], rfl, fun s h => nomatch h⟩
      | cons y ys ih =>
        obtain ⟨zs, e, h⟩ := ih fun z hz => k3 z (List.mem_cons_of_mem _ hz)
        obtain ⟨s, rfl, hs⟩ := k3 y List.mem_cons_self
        refine ⟨s :: zs, by rw [e]; rfl, fun x hx => ?_⟩
        rcases List.mem_cons.mp hx with rfl | hx
        · exact hs
        · exact h x hx
    have lz : zs.length = n := by
      rw [rangeL_len, intsD, List.length_map] at k2
      exact k2
    obtain ⟨g, hg, lg, _⟩ := digits_ok c3 zs hz (by omega)
    obtain ⟨o, ho, po⟩ := order_ok g (by omega)
    rw [show ((n : Int)).toNat = n by omega, k1]
    have liz : (intsD zs).length = n := by rw [intsD, List.length_map, lz]
    repeat (first | walk_at "vm" | rw [if_pos (by omega)] | rw [liz] | rw [hg] | rw [ho])
    rw [lg, lz] at po
    exact ⟨o, po, rfl⟩
  rintro _ ⟨o, po, rfl⟩
  have lo : o.length = n := by rw [po.length_eq, List.length_range]
  have bo : ∀ k (h : k < o.length), o[k] < n := fun k h => by
    have := po.mem_iff.mp (List.getElem_mem h)
    rwa [List.mem_range] at this
  refine wp_cut (fun S => S = [.fz (.scr ns), .fz (.int (n : Int)), .own (.lst (intsD r)), .own (.lst (intsD q)), .no, .no, .fz (.int (cut : Int)), .fz (.int one), .fz (.int two), .own (.lst (t.map oD)), .no, .own (.lst (nsD o)), .own (.lst ((List.replicate n none).map oD))]) ?_ ?_
  · repeat (first | walk_at "vm" | rw [if_pos (by omega)] | rw [mul_one_list (by omega)])
    rw [List.map_replicate]
    rfl
  rintro _ rfl
  refine wp_cut (fun S => ∃ m : List (Option Nat), TabOk m n ∧ S = [.fz (.scr ns), .fz (.int (n : Int)), .own (.lst (intsD r)), .own (.lst (intsD q)), .no, .no, .fz (.int (cut : Int)), .fz (.int one), .fz (.int two), .own (.lst (t.map oD)), .no, .own (.lst (nsD o)), .own (.lst (m.map oD))]) ?_ ?_
  · repeat (first | walk_at "vm" | rw [if_pos (by omega)])
    refine wp_for (fun i S => ∃ m : List (Option Nat), TabOk m n ∧ S = [.fz (.scr ns), .fz (.int (n : Int)), .own (.lst (intsD r)), .own (.lst (intsD q)), .no, .no, .fz (.int (cut : Int)), .fz (.int one), .fz (.int two), .own (.lst (t.map oD)), .no, .own (.lst (nsD o)), .own (.lst (m.map oD))]) ⟨List.replicate n none, ⟨by simp, fun j hj => by simp at hj⟩, rfl⟩ ?_ (fun S h => h)
    rintro i d S hd ⟨m, ⟨lm, bm⟩, rfl⟩
    obtain ⟨hi2, rfl⟩ := rangeL_get hd
    have hi : i < n := by omega
    have ei : (0 : Int) + (i : Int) = (i : Int) := by omega
    have et : atI (t.map oD) (i : Int) = some (oD t[i]) := atI_oD (by omega)
    have eo : atI (nsD o) (i : Int) = some (nD o[i]) := atI_nsD (by omega)
    rw [ei]
    cases ht : t[i] with
    | none =>
      repeat (first | walk_at "vm" | rw [if_pos (by omega)] | rw [et] | rw [ht] | rw [n_oN])
      exact ⟨m, ⟨lm, bm⟩, rfl⟩
    | some j =>
      have hj : j < n := htb j (ht ▸ List.getElem_mem _)
      have eoj : atI (nsD o) (j : Int) = some (nD o[j]) := atI_nsD (by omega)
      have hoi : o[i] < m.length := by rw [lm]; exact bo i (by omega)
      repeat (first | walk_at "vm" | rw [if_pos (by omega)] | rw [et] | rw [ht] | rw [n_oS] | rw [oD_s] | rw [eoj] | rw [eo] | rw [List.length_map] | rw [ixN_nat hoi])
      refine ⟨m.set o[i] (some o[j]), ⟨by simpa using lm, fun x hx => ?_⟩, by rw [List.map_set]; rfl⟩
      rcases List.mem_or_eq_of_mem_set hx with h | h
      · exact bm x h
      · cases h
        exact bo j (by omega)
  rintro _ ⟨m, hm, rfl⟩
  repeat (first | walk_at "vm" | rw [if_pos (by omega)])
  exact ⟨m, rfl, hm⟩
end Sh

namespace Sh
open PySem VM L2
abbrev lN (ks : List Nat) : D := .lst (nsD ks)
abbrev tN (ks : List Nat) : D := .tup (nsD ks)
theorem ofOut_ok {α : Type} {S : Ss} {a : α} {k : α → SOut} : ofOut S (.ok a) k = k a := rfl
theorem lcL_map {tg : D → Ss → Option Ss} {te : MV} {S0 : Ss} (f : D → D) : ∀ {ds : List D}, (∀ d ∈ ds, GivesD (Out.te (tg d S0) te) (fun x => x = f d)) → lcL tg mYes te S0 ds = .ok (ds.map f) := fun {ds} h => by
  obtain ⟨k1, _⟩ := lcL_gen (tg := tg) (te := te) (S0 := S0) (ds := ds) (fun _ => True) (fun d hd => by
    have z := h d hd
    cases hq : Out.te (tg d S0) te with
    | ok x => trivial
    | no =>
      rw [hq] at z
      exact z
    | exc c fs =>
      rw [hq] at z
      exact z)
  rw [k1]
  congr 1
  refine List.map_congr_left fun d hd => ?_
  have z := h d hd
  unfold lcV
  revert z
  cases tg d S0 with
  | none => exact fun z => z.elim
  | some S1 =>
    intro z
    have z : GivesD (te S1) (fun x => x = f d) := z
    simp only
    revert z
    cases te S1 with
    | no => exact fun z => z.elim
    | exc c fs => exact fun z => z.elim
    | ok x => exact fun z => z
/-- who of the first k leads to j -/
def bk (t : List (Option Nat)) (k j : Nat) : List Nat := (List.range k).filter fun i => decide (t[i]? = some (some j))
def backL (t : List (Option Nat)) : List (List Nat) := (List.range t.length).map (bk t t.length)
theorem bk_succ (t : List (Option Nat)) (k j : Nat) : bk t (k + 1) j = if t[k]? = some (some j) then bk t k j ++ [k] else bk t k j := by
  unfold bk
  rw [List.range_succ, List.filter_append]
  split
  · rename_i h
    rw [List.filter_cons_of_pos (by simpa using h)]
    rfl
  · rename_i h
    rw [List.filter_cons_of_neg (by simpa using h)]
    simp
theorem set_map_range {α : Type} (f g : Nat → α) (n a : Nat) (x : α) (ha : f a = x) (ho : ∀ j, j ≠ a → f j = g j) : ((List.range n).map g).set a x = (List.range n).map f := by
  refine List.ext_getElem? fun j => ?_
  by_cases hj : j = a
  · subst hj
    by_cases hn : j < n
    · rw [List.getElem?_set_self (by simpa using hn), List.getElem?_map, List.getElem?_range hn, ← ha]
      rfl
    · rw [List.getElem?_eq_none (by simpa using hn), List.getElem?_eq_none (by simpa using hn)]
  · rw [List.getElem?_set_ne (Ne.symm hj), List.getElem?_map, List.getElem?_map]
    cases h : (List.range n)[j]? with
    | none => rfl
    | some i =>
      have := (List.getElem?_eq_some_iff.mp h).2
      rw [List.getElem_range] at this
      subst this
      show some (g j) = some (f j)
      rw [ho j hj]
theorem get_map_range {α : Type} (f : Nat → α) {n a : Nat} (h : a < n) : ((List.range n).map f)[a]? = some (f a) := by
  rw [List.getElem?_map, List.getElem?_range h]
  rfl
theorem back_ok (t : List (Option Nat)) (n : Nat) (ht : TabOk t n) (hn : n ≤ 1600) : g__law_back_8863e [.lst (t.map oD)] = .ok ⟨false, .lst ((backL t).map lN)⟩ := by
  obtain ⟨lt, bt⟩ := ht
  suffices h : Gives (g__law_back_8863e [.lst (t.map oD)]) (fun z => z = ⟨false, .lst ((backL t).map lN)⟩) from h.eq
  have lm : (t.map oD).length = n := by rw [List.length_map, lt]
  unfold g__law_back_8863e m__law_back_8863e
  refine gives_fin ?_
  refine wp_cut (fun S => S = [.fz (.lst (t.map oD)), .row ((List.range n).map fun j => nsD (bk t 0 j)), .no, .no]) ?_ ?_
  · repeat (first | walk_at "vm" | rw [if_pos (by omega)])
    have e : ((t.map oD).map fun _ => ([] : List D)) = (List.range n).map fun j => nsD (bk t 0 j) := by
      rw [List.map_const', lm]
      refine List.ext_getElem? fun j => ?_
      rw [List.getElem?_replicate, List.getElem?_map]
      by_cases h : j < n
      · rw [if_pos h, List.getElem?_range h]
        rfl
      · rw [if_neg h, List.getElem?_eq_none (by simpa using h)]
        rfl
    rw [e, if_pos ⟨by omega, trivial⟩]
    repeat (first | walk_at "vm" | rw [if_pos (by omega)])
  rintro _ rfl
  refine wp_cut (fun S => S = [.fz (.lst (t.map oD)), .row ((List.range n).map fun j => nsD (bk t n j)), .no, .no]) ?_ ?_
  · repeat (first | walk_at "vm" | rw [if_pos (by omega)] | rw [lm])
    refine wp_for (fun i S => S = [.fz (.lst (t.map oD)), .row ((List.range n).map fun j => nsD (bk t i j)), .no, .no]) rfl ?_ ?_
    · rintro i d S hd rfl
      obtain ⟨hi2, rfl⟩ := rangeL_get hd
      have hi : i < n := by omega
      rw [show (0 : Int) + (i : Int) = (i : Int) by omega]
      have et : atI (t.map oD) (i : Int) = some (oD t[i]) := atI_oD (by omega)
      have eg : t[i]? = some t[i] := List.getElem?_eq_getElem (by omega)
      cases hti : t[i] with
      | none =>
        rw [hti] at et eg
        repeat (first | walk_at "vm" | rw [if_pos (by omega)] | rw [et] | rw [n_oN])
        have e : ∀ j, bk t (i + 1) j = bk t i j := fun j => by
          rw [bk_succ, eg]
          rfl
        simp only [e]
      | some a =>
        rw [hti] at et eg
        have ha : a < n := bt a (hti ▸ List.getElem_mem _)
        have hr : ((List.range n).map fun j => nsD (bk t i j)).length = n := by simp
        repeat (first | walk_at "vm" | rw [if_pos (by omega)] | rw [et] | rw [n_oS] | rw [oD_s] | rw [hr] | rw [ixN_nat ha])
        unfold SOut.ra2
        simp only [get_map_range (fun j => nsD (bk t i j)) ha]
        have hlb : (nsD (bk t i a)).length < 16000000 := by
          rw [List.length_map]
          have := List.length_filter_le (fun z => decide (t[z]? = some (some a))) (List.range i)
          rw [List.length_range] at this
          unfold bk
          omega
        repeat (first | walk_at "vm" | rw [if_pos (by omega)])
        rw [ofOut_ok, if_pos hlb]
        repeat (first | walk_at "vm" | rw [if_pos (by omega)])
        rw [set_map_range (fun j => nsD (bk t (i + 1) j)) (fun j => nsD (bk t i j)) n a _ ?_ ?_]
        · rw [bk_succ, if_pos eg]
          simp [nsD]
        · intro j hj
          rw [bk_succ, if_neg]
          rw [eg]
          intro h
          injection h with h
          injection h with h
          exact hj h.symm
    · rintro S rfl
      rw [rangeL_len]
      simp
  rintro _ rfl
  repeat (first | walk_at "vm" | rw [if_pos (by omega)])
  unfold backL
  rw [lt, List.map_map, List.map_map]
  rfl
theorem pred_ok (t : List (Option Nat)) (n : Nat) (ht : TabOk t n) (hn : n ≤ 1600) : g_predecessor_rows_c4a15 [.tup (t.map oD)] = .ok ⟨false, .tup ((backL t).map tN)⟩ := by
  obtain ⟨lt, bt⟩ := ht
  suffices h : Gives (g_predecessor_rows_c4a15 [.tup (t.map oD)]) (fun z => z = ⟨false, .tup ((backL t).map tN)⟩) from h.eq
  have lm : (t.map oD).length = n := by rw [List.length_map, lt]
  unfold g_predecessor_rows_c4a15 m_predecessor_rows_c4a15
  refine gives_fin ?_
  refine wp_cut (fun S => S = [.fz (.tup (t.map oD)), .row ((List.range n).map fun j => nsD (bk t 0 j)), .no, .no, .no]) ?_ ?_
  · repeat (first | walk_at "vm" | rw [if_pos (by omega)])
    have e : ((t.map oD).map fun _ => ([] : List D)) = (List.range n).map fun j => nsD (bk t 0 j) := by
      rw [List.map_const', lm]
      refine List.ext_getElem? fun j => ?_
      rw [List.getElem?_replicate, List.getElem?_map]
      by_cases h : j < n
      · rw [if_pos h, List.getElem?_range h]
        rfl
      · rw [if_neg h, List.getElem?_eq_none (by simpa using h)]
        rfl
    rw [e, if_pos ⟨by omega, trivial⟩]
    repeat (first | walk_at "vm" | rw [if_pos (by omega)])
  rintro _ rfl
  refine wp_cut (fun S => S = [.fz (.tup (t.map oD)), .row ((List.range n).map fun j => nsD (bk t n j)), .no, .no, .no]) ?_ ?_
  · repeat (first | walk_at "vm" | rw [if_pos (by omega)] | rw [lm])
    refine wp_for (fun i S => S = [.fz (.tup (t.map oD)), .row ((List.range n).map fun j => nsD (bk t i j)), .no, .no, .no]) rfl ?_ ?_
    · rintro i d S hd rfl
      obtain ⟨hi2, rfl⟩ := rangeL_get hd
      have hi : i < n := by omega
      rw [show (0 : Int) + (i : Int) = (i : Int) by omega]
      have et : atI (t.map oD) (i : Int) = some (oD t[i]) := atI_oD (by omega)
      have eg : t[i]? = some t[i] := List.getElem?_eq_getElem (by omega)
      cases hti : t[i] with
      | none =>
        rw [hti] at et eg
        repeat (first | walk_at "vm" | rw [if_pos (by omega)] | rw [et] | rw [n_oN])
        have e : ∀ j, bk t (i + 1) j = bk t i j := fun j => by
          rw [bk_succ, eg]
          rfl
        simp only [e]
      | some a =>
        rw [hti] at et eg
        have ha : a < n := bt a (hti ▸ List.getElem_mem _)
        have hr : ((List.range n).map fun j => nsD (bk t i j)).length = n := by simp
        repeat (first | walk_at "vm" | rw [if_pos (by omega)] | rw [et] | rw [n_oS] | rw [oD_s] | rw [hr] | rw [ixN_nat ha])
        unfold SOut.ra2
        simp only [get_map_range (fun j => nsD (bk t i j)) ha]
        have hlb : (nsD (bk t i a)).length < 16000000 := by
          rw [List.length_map]
          have := List.length_filter_le (fun z => decide (t[z]? = some (some a))) (List.range i)
          rw [List.length_range] at this
          unfold bk
          omega
        repeat (first | walk_at "vm" | rw [if_pos (by omega)])
        rw [ofOut_ok, if_pos hlb]
        repeat (first | walk_at "vm" | rw [if_pos (by omega)])
        rw [set_map_range (fun j => nsD (bk t (i + 1) j)) (fun j => nsD (bk t i j)) n a _ ?_ ?_]
        · rw [bk_succ, if_pos eg]
          simp [nsD]
        · intro j hj
          rw [bk_succ, if_neg]
          rw [eg]
          intro h
          injection h with h
          injection h with h
          exact hj h.symm
    · rintro S rfl
      rw [rangeL_len]
      simp
  rintro _ rfl
  repeat (first | walk_at "vm" | rw [if_pos (by omega)])
  rw [lcL_map (fun d => match d with | .lst xs => .tup xs | d => d)]
  · repeat (first | walk_at "vm" | rw [if_pos (by omega)] | rw [List.length_map] | rw [List.length_range])
    show _ = _
    unfold backL
    rw [lt, List.map_map, List.map_map, List.map_map]
    rfl
  · intro d hd
    obtain ⟨xs, _, rfl⟩ := List.mem_map.mp hd
    repeat (first | walk_at "vm" | rw [if_pos (by omega)])
end Sh

namespace Sh
open PySem VM L2
theorem flatAll_nsD : ∀ ks : List Nat, D.flatAll (nsD ks) = true
  | [] => by simp [nsD, D.flatAll]
  | k :: ks => by
    have := flatAll_nsD ks
    simp [nsD, nD, D.flatAll, D.flat] at this ⊢
    exact this
theorem depAll_nsD : ∀ ks : List Nat, D.depAll (nsD ks) = 0
  | [] => by simp [nsD, D.depAll]
  | k :: ks => by
    have := depAll_nsD ks
    simp [nsD, nD, D.depAll, D.dep] at this ⊢
    exact this
theorem eqvAll_nsD : ∀ a b : List Nat, D.eqvAll (nsD a) (nsD b) = decide (a = b)
  | [], [] => by simp [nsD, D.eqvAll]
  | [], _ :: _ => by simp [nsD, D.eqvAll]
  | _ :: _, [] => by simp [nsD, D.eqvAll]
  | x :: a, y :: b => by
    have := eqvAll_nsD a b
    show (D.eqv (nD x) (nD y) && D.eqvAll (nsD a) (nsD b)) = _
    rw [this]
    simp only [nD, D.eqv, List.cons.injEq]
    by_cases h : x = y
    · subst h
      by_cases h2 : a = b
      · simp [h2]
      · simp [h2]
    · have h' : ((x : Int) == (y : Int)) = false := beq_eq_false_iff_ne.mpr fun e => h (by omega)
      rw [h']
      simp [h]
theorem cmp_lN (a : List Nat) : (lN a).cmpOk = true := by
  unfold D.cmpOk
  have h1 := flatAll_nsD a
  have h2 := depAll_nsD a
  simp [lN, D.flat, D.dep, h1, h2]
theorem cmp_tN (a : List Nat) : (tN a).cmpOk = true := by
  unfold D.cmpOk
  have h1 := flatAll_nsD a
  have h2 := depAll_nsD a
  simp [tN, D.flat, D.dep, h1, h2]
theorem neD_lN (a b : List Nat) : neD (lN a) (lN b) = .ok ⟨false, .bl (!decide (a = b))⟩ := by
  unfold neD
  rw [cmp_lN, cmp_lN]
  simp [lN, D.eqv, eqvAll_nsD, fzO]
theorem neD_tN (a b : List Nat) : neD (tN a) (tN b) = .ok ⟨false, .bl (!decide (a = b))⟩ := by
  unfold neD
  rw [cmp_tN, cmp_tN]
  simp [tN, D.eqv, eqvAll_nsD, fzO]
theorem eqD_tN (a b : List Nat) : eqD (tN a) (tN b) = .ok ⟨false, .bl (decide (a = b))⟩ := by
  unfold eqD
  rw [cmp_tN, cmp_tN]
  simp [tN, D.eqv, eqvAll_nsD, fzO]
theorem nsD_ints (ks : List Nat) : nsD ks = (ks.map fun k : Nat => (k : Int)).map D.int := by
  rw [List.map_map]
  rfl
theorem intsOf_nsD (ks : List Nat) : intsOf (nsD ks) = some (ks.map fun k : Nat => (k : Int)) := by
  rw [nsD_ints, intsOf_map]
theorem sort_range {ks : List Nat} {m : Nat} (h : ks.Perm (List.range m)) : (sortI (ks.map fun k : Nat => (k : Int))).map D.int = nsD (List.range m) := by
  have e : sortI (ks.map fun k : Nat => (k : Int)) = (List.range m).map fun k : Nat => (k : Int) := by
    refine (sortI_eq ((h.map _).symm) ?_).symm
    refine List.pairwise_map.mpr ?_
    exact List.pairwise_lt_range.imp fun h => by omega
  rw [e, nsD_ints]
theorem atI_map' {α : Type} {f : α → D} {t : List α} {k : Nat} (h : k < t.length) : atI (t.map f) (k : Int) = some (f t[k]) := by
  unfold atI
  rw [List.length_map, ixN_nat h]
  show (t.map f)[k]? = _
  rw [List.getElem?_map, List.getElem?_eq_getElem h]
  rfl
/-- rows of fingers -/
def RowsP (rs bs : List (List Nat)) : Prop := rs.length = bs.length ∧ ∀ (j : Nat) (h : j < rs.length) (h' : j < bs.length), rs[j].Perm (List.range (bs[j].length + 1))
def plainL (bs : List (List Nat)) : List (List Nat) := bs.map fun b => List.range (b.length + 1)
theorem plain_p (bs : List (List Nat)) : RowsP (plainL bs) bs := ⟨by simp [plainL], fun j h h' => by simp [plainL]⟩
theorem plain_ok (bs : List (List Nat)) (h1 : bs.length ≤ 1600) (h2 : ∀ b ∈ bs, b.length ≤ 1600) : g_plain_rows_acf7e [.tup (bs.map tN)] = .ok ⟨false, .tup ((plainL bs).map tN)⟩ := by
  unfold g_plain_rows_acf7e m_plain_rows_acf7e
  repeat (first | walk_at "vm" | rw [if_pos (by omega)])
  rw [lcL_map (fun d => match d with | .tup xs => tN (List.range (xs.length + 1)) | d => d)]
  · repeat (first | walk_at "vm" | rw [if_pos (by omega)] | rw [List.length_map])
    unfold plainL
    rw [List.map_map, List.map_map]
    congr 3
    refine List.map_congr_left fun b _ => ?_
    simp [tN, nsD]
  · intro d hd
    obtain ⟨b, hb, rfl⟩ := List.mem_map.mp hd
    have := h2 b hb
    have e : ((nsD b).length : Int) + 1 = ((b.length + 1 : Nat) : Int) := by simp [nsD]
    repeat (first | walk_at "vm" | rw [if_pos (by omega)] | rw [e])
    rw [show ((b.length + 1 : Nat) : Int).toNat = b.length + 1 by omega, rangeL0]
    simp [nsD]
theorem check_ok (rs bs : List (List Nat)) (hp : RowsP rs bs) (h1 : bs.length ≤ 1600) (h2 : ∀ b ∈ bs, b.length ≤ 1600) : g_check_rows_8896c [.tup (rs.map tN), .tup (bs.map tN)] = .ok ⟨false, .non⟩ := by
  obtain ⟨hl, hp⟩ := hp
  suffices h : Gives (g_check_rows_8896c [.tup (rs.map tN), .tup (bs.map tN)]) (fun z => z = ⟨false, .non⟩) from h.eq
  unfold g_check_rows_8896c m_check_rows_8896c
  refine gives_fin ?_
  repeat (first | walk_at "vm" | rw [if_pos (by omega)] | rw [List.length_map])
  refine wp_for (fun i S => S = [.fz (.tup (rs.map tN)), .fz (.tup (bs.map tN)), .no]) rfl ?_ (fun S _ => trivial)
  rintro i d S hd rfl
  obtain ⟨hi2, rfl⟩ := rangeL_get hd
  have hi : i < rs.length := by omega
  have hib : i < bs.length := by omega
  have hbl := h2 bs[i] (List.getElem_mem _)
  have hpp := hp i hi hib
  rw [show (0 : Int) + (i : Int) = (i : Int) by omega]
  have er : atI (rs.map tN) (i : Int) = some (tN rs[i]) := atI_map' hi
  have eb : atI (bs.map tN) (i : Int) = some (tN bs[i]) := atI_map' hib
  have e : ((nsD bs[i]).length : Int) + 1 = ((bs[i].length + 1 : Nat) : Int) := by simp [nsD]
  have e2 : ((bs[i].length + 1 : Nat) : Int).toNat = bs[i].length + 1 := by omega
  have e3 := neD_lN (List.range (bs[i].length + 1)) (List.range (bs[i].length + 1))
  rw [decide_eq_true rfl] at e3
  repeat (first | walk_at "vm" | rw [if_pos (by omega)] | rw [er] | rw [eb] | rw [intsOf_nsD] | rw [sort_range hpp] | rw [e] | rw [e2] | rw [rangeL0] | rw [e3])
end Sh

namespace Sh
open PySem VM L2
theorem cut_ab {α : Type} (xs : List α) (a b : Nat) (h1 : a ≤ b) (h2 : b ≤ xs.length) : cutL xs (some (a : Int)) (some (b : Int)) = (xs.drop a).take (b - a) := by
  unfold cutL
  have e1 : HT.sIx xs.length 0 (some (a : Int)) = a := by
    rw [HT.sIx_nat]
    omega
  have e2 : HT.sIx xs.length xs.length (some (b : Int)) = b := by
    rw [HT.sIx_nat]
    omega
  rw [e1, e2]
theorem rev_perm (m : Nat) : ((List.range (m + 1)).map fun k => m - k).Perm (List.range (m + 1)) := by
  have e : ((List.range (m + 1)).map fun k => m - k) = (List.range (m + 1)).reverse := by
    refine List.ext_getElem (by simp) fun i h1 h2 => ?_
    rw [List.getElem_map, List.getElem_reverse, List.getElem_range, List.getElem_range, List.length_range]
    omega
  rw [e]
  exact List.reverse_perm _
def off (bs : List (List Nat)) (i : Nat) : Nat := ((bs.take i).map fun b => b.length + 1).sum
theorem off_succ {bs : List (List Nat)} {i : Nat} (h : i < bs.length) : off bs (i + 1) = off bs i + (bs[i].length + 1) := by
  unfold off
  rw [List.take_add_one, List.getElem?_eq_getElem h, List.map_append, List.sum_append]
  simp only [Option.toList_some, List.map_cons, List.map_nil, List.sum_cons, List.sum_nil, Nat.add_zero]
theorem off_le {bs : List (List Nat)} (h2 : ∀ b ∈ bs, b.length ≤ 1600) : ∀ i, i ≤ bs.length → off bs i ≤ 1601 * i
  | 0, _ => by simp [off]
  | i + 1, h => by
    have ih := off_le h2 i (by omega)
    rw [off_succ (by omega)]
    have := h2 bs[i] (List.getElem_mem _)
    omega
theorem off_mono {bs : List (List Nat)} {i : Nat} (h : i < bs.length) : off bs (i + 1) ≤ off bs bs.length := by
  have key : ∀ k, i + 1 + k ≤ bs.length → off bs (i + 1) ≤ off bs (i + 1 + k) := fun k => by
    induction k with
    | zero => exact fun _ => Nat.le_refl _
    | succ k ih =>
      intro hk
      have := ih (by omega)
      have e := off_succ (bs := bs) (i := i + 1 + k) (by omega)
      rw [show i + 1 + (k + 1) = (i + 1 + k) + 1 by omega]
      omega
  have := key (bs.length - (i + 1)) (by omega)
  rwa [show i + 1 + (bs.length - (i + 1)) = bs.length by omega] at this
theorem rows_ok (bs : List (List Nat)) (way cell : Int) (hw : 0 ≤ way) (h1 : bs.length ≤ 1600) (h2 : ∀ b ∈ bs, b.length ≤ 1600) : ∃ rs : List (List Nat), g__law_rows_4ab23 [.lst (bs.map lN), .int way, .int cell] = .ok ⟨false, .tup (rs.map tN)⟩ ∧ RowsP rs bs ∧ (way < 3 → rs = plainL bs) := by
  suffices h : Gives (g__law_rows_4ab23 [.lst (bs.map lN), .int way, .int cell]) (fun z => ∃ rs : List (List Nat), z = ⟨false, .tup (rs.map tN)⟩ ∧ RowsP rs bs ∧ (way < 3 → rs = plainL bs)) by
    obtain ⟨z, e, o, rfl, h2⟩ := h.ex
    exact ⟨o, e, h2⟩
  unfold g__law_rows_4ab23 m__law_rows_4ab23
  refine gives_fin ?_
  refine wp_cut (fun S => ¬ way < 3 ∧ S = [.fz (.lst (bs.map lN)), .fz (.int way), .fz (.int cell), .no, .no, .no, .no, .no, .no]) ?_ ?_
  · by_cases a0 : way < 3
    · repeat (first | walk_at "vm" | rw [if_pos (by omega)] | rw [dT a0])
      rw [lcL_map (fun d => match d with | .lst xs => tN (List.range (xs.length + 1)) | d => d)]
      · repeat (first | walk_at "vm" | rw [if_pos (by omega)] | rw [List.length_map])
        refine ⟨plainL bs, ?_, plain_p bs, fun _ => rfl⟩
        unfold plainL
        rw [List.map_map, List.map_map]
        congr 2
        refine List.map_congr_left fun b _ => ?_
        simp [tN, nsD]
      · intro d hd
        obtain ⟨b, hb, rfl⟩ := List.mem_map.mp hd
        have := h2 b hb
        have e : ((nsD b).length : Int) + 1 = ((b.length + 1 : Nat) : Int) := by simp [nsD]
        repeat (first | walk_at "vm" | rw [if_pos (by omega)] | rw [e])
        rw [show ((b.length + 1 : Nat) : Int).toNat = b.length + 1 by omega, rangeL0]
        simp [nsD]
    · repeat (first | walk_at "vm" | rw [if_pos (by omega)] | rw [dF a0])
      exact ⟨a0, by trivial⟩
  rintro _ ⟨a0, rfl⟩
  refine wp_cut (fun S => S = [.fz (.lst (bs.map lN)), .fz (.int way), .fz (.int cell), .no, .no, .no, .no, .no, .no]) ?_ ?_
  · cases a1 : (way == 3) with
    | true =>
      repeat (first | walk_at "vm" | rw [if_pos (by omega)] | rw [eqD_int] | rw [a1])
      rw [lcL_map (fun d => match d with | .lst xs => tN ((List.range (xs.length + 1)).map fun k => xs.length - k) | d => d)]
      · repeat (first | walk_at "vm" | rw [if_pos (by omega)] | rw [List.length_map])
        refine ⟨bs.map fun b => (List.range (b.length + 1)).map fun k => b.length - k, ?_, ⟨by simp, fun j h h' => ?_⟩, fun h => absurd h a0⟩
        · rw [List.map_map, List.map_map]
          congr 2
          refine List.map_congr_left fun b _ => ?_
          simp [tN, nsD]
        · rw [List.getElem_map]
          exact rev_perm _
      · intro d hd
        obtain ⟨b, hb, rfl⟩ := List.mem_map.mp hd
        have := h2 b hb
        have e : ((nsD b).length : Int) + 1 = ((b.length + 1 : Nat) : Int) := by simp [nsD]
        repeat (first | walk_at "vm" | rw [if_pos (by omega)] | rw [e])
        rw [show ((b.length + 1 : Nat) : Int).toNat = b.length + 1 by omega, rangeL0]
        rw [lcL_map (fun d => match d with | .int k => .int ((b.length : Int) - k) | d => d)]
        · repeat (first | walk_at "vm" | rw [if_pos (by omega)] | rw [List.length_map] | rw [List.length_range])
          show D.tup (List.map _ (List.map nD _)) = D.tup (List.map nD (List.map _ _))
          rw [List.map_map, List.map_map]
          congr 1
          refine List.map_congr_left fun k hk => ?_
          rw [List.mem_range] at hk
          show D.int ((b.length : Int) - (k : Int)) = D.int ((b.length - k : Nat) : Int)
          congr 1
          omega
        · intro d hd
          obtain ⟨k, hk, rfl⟩ := List.mem_map.mp hd
          repeat (first | walk_at "vm" | rw [if_pos (by omega)] | rw [List.length_map])
    | false => repeat (first | walk_at "vm" | rw [if_pos (by omega)] | rw [eqD_int] | rw [a1])
  rintro _ rfl
  refine wp_cut (fun S => S = [.fz (.lst (bs.map lN)), .fz (.int way), .fz (.int cell), .no, .no, .own (.lst []), .no, .no, .no]) ?_ ?_
  · repeat (first | walk_at "vm" | rw [if_pos (by omega)])
  rintro _ rfl
  have hoff := off_le h2 bs.length (Nat.le_refl _)
  refine wp_cut (fun S => ∃ zs : List Int, zs.length = off bs bs.length ∧ (∀ s ∈ zs, 1 ≤ s ∧ s ≤ 1000000000000) ∧ S = [.fz (.lst (bs.map lN)), .fz (.int way), .fz (.int cell), .no, .no, .own (.lst (intsD zs)), .no, .no, .no]) ?_ ?_
  · repeat (first | walk_at "vm" | rw [if_pos (by omega)])
    refine wp_for (fun i S => ∃ zs : List Int, zs.length = off bs i ∧ (∀ s ∈ zs, 1 ≤ s ∧ s ≤ 1000000000000) ∧ S = [.fz (.lst (bs.map lN)), .fz (.int way), .fz (.int cell), .no, .no, .own (.lst (intsD zs)), .no, .no, .no]) ⟨[], by simp [off], (fun s h => nomatch h), rfl⟩ ?_ ?_
    · rintro i d S hd ⟨zs, lz, hz, rfl⟩
      rw [List.getElem?_map] at hd
      have hi : i < bs.length := by
        rcases Nat.lt_or_ge i bs.length with h | h
        · exact h
        · rw [List.getElem?_eq_none h] at hd
          cases hd
      rw [List.getElem?_eq_getElem hi] at hd
      cases hd
      have hbl := h2 bs[i] (List.getElem_mem _)
      have hoi := off_mono hi
      have e : ((nsD bs[i]).length : Int) + 1 = ((bs[i].length + 1 : Nat) : Int) := by simp [nsD]
      repeat (first | walk_at "vm" | rw [if_pos (by omega)] | rw [e])
      rw [show ((bs[i].length + 1 : Nat) : Int).toNat = bs[i].length + 1 by omega]
      refine wp_for (fun k S => ∃ zs : List Int, zs.length = off bs i + k ∧ (∀ s ∈ zs, 1 ≤ s ∧ s ≤ 1000000000000) ∧ S = [.fz (.lst (bs.map lN)), .fz (.int way), .fz (.int cell), .fz (.lst (nsD bs[i])), .no, .own (.lst (intsD zs)), .no, .no, .no]) ⟨zs, lz, hz, rfl⟩ ?_ ?_
      · rintro k d S hd ⟨zs, lz, hz, rfl⟩
        obtain ⟨hk2, rfl⟩ := rangeL_get hd
        have liz : (intsD zs).length = zs.length := by rw [intsD, List.length_map]
        rw [off_succ hi] at hoi
        repeat (first | walk_at "vm" | rw [if_pos (by omega)] | rw [e] | rw [liz])
        refine ⟨zs ++ [((bs[i].length + 1 : Nat) : Int) - (0 + (k : Int))], by rw [List.length_append, List.length_singleton]; omega, fun s hs => ?_, by simp [intsD]⟩
        rcases List.mem_append.mp hs with h | h
        · exact hz s h
        · rw [List.mem_singleton.mp h]
          omega
      · rintro S ⟨zs, lz, hz, rfl⟩
        rw [rangeL_len] at lz
        refine ⟨zs, by rw [off_succ hi]; exact lz, hz, ?_⟩
        repeat (first | walk_at "vm" | rw [if_pos (by omega)])
    · rintro S ⟨zs, lz, hz, rfl⟩
      rw [List.length_map] at lz
      exact ⟨zs, lz, hz, rfl⟩
  rintro _ ⟨zs, lz, hz, rfl⟩
  obtain ⟨g, hg, lg, _⟩ := digits_ok cell zs hz (by omega)
  rw [lz] at lg
  refine wp_cut (fun S => S = [.fz (.lst (bs.map lN)), .fz (.int way), .fz (.int cell), .no, .no, .fz (.lst (intsD zs)), .own (.lst (intsD g)), .no, .no]) ?_ ?_
  · repeat (first | walk_at "vm" | rw [if_pos (by omega)] | rw [hg])
  rintro _ rfl
  refine wp_cut (fun S => S = [.fz (.lst (bs.map lN)), .fz (.int way), .fz (.int cell), .no, .no, .fz (.lst (intsD zs)), .own (.lst (intsD g)), .own (.lst []), .no]) ?_ ?_
  · repeat (first | walk_at "vm" | rw [if_pos (by omega)])
  rintro _ rfl
  refine wp_cut (fun S => S = [.fz (.lst (bs.map lN)), .fz (.int way), .fz (.int cell), .no, .no, .fz (.lst (intsD zs)), .own (.lst (intsD g)), .own (.lst []), .fz (.int 0)]) ?_ ?_
  · repeat (first | walk_at "vm" | rw [if_pos (by omega)])
  rintro _ rfl
  refine wp_cut (fun S => ∃ rs : List (List Nat), RowsP rs bs ∧ ∃ z, S = [.fz (.lst (bs.map lN)), .fz (.int way), .fz (.int cell), .no, .no, .fz (.lst (intsD zs)), .own (.lst (intsD g)), .own (.lst (rs.map tN)), z]) ?_ ?_
  · repeat (first | walk_at "vm" | rw [if_pos (by omega)])
    refine wp_for (fun i S => ∃ rs : List (List Nat), rs.length = i ∧ (∀ (j : Nat) (h : j < rs.length) (h' : j < bs.length), rs[j].Perm (List.range (bs[j].length + 1))) ∧ S = [.fz (.lst (bs.map lN)), .fz (.int way), .fz (.int cell), .no, .no, .fz (.lst (intsD zs)), .own (.lst (intsD g)), .own (.lst (rs.map tN)), .fz (.int (off bs i : Int))]) ⟨[], rfl, (fun j h h' => absurd h (Nat.not_lt_zero _)), rfl⟩ ?_ ?_
    · rintro i d S hd ⟨rs, lr, hr, rfl⟩
      rw [List.getElem?_map] at hd
      have hi : i < bs.length := by
        rcases Nat.lt_or_ge i bs.length with h | h
        · exact h
        · rw [List.getElem?_eq_none h] at hd
          cases hd
      rw [List.getElem?_eq_getElem hi] at hd
      cases hd
      have hbl := h2 bs[i] (List.getElem_mem _)
      have hoi := off_mono hi
      have eo := off_succ hi
      have e : (off bs i : Int) + ((nsD bs[i]).length : Int) + 1 = ((off bs (i + 1) : Nat) : Int) := by
        rw [eo]
        simp [nsD]
        omega
      have ec : cutL (intsD g) (some (off bs i : Int)) (some ((off bs (i + 1) : Nat) : Int)) = intsD ((g.drop (off bs i)).take (off bs (i + 1) - off bs i)) := by
        rw [cut_ab _ _ _ (by omega) (by rw [intsD, List.length_map]; omega)]
        unfold intsD
        rw [List.map_take, List.map_drop]
      have lsl : ((g.drop (off bs i)).take (off bs (i + 1) - off bs i)).length = bs[i].length + 1 := by
        rw [List.length_take, List.length_drop]
        omega
      obtain ⟨o, ho, po⟩ := order_ok ((g.drop (off bs i)).take (off bs (i + 1) - off bs i)) (by omega)
      rw [lsl] at po
      repeat (first | walk_at "vm" | rw [if_pos (by omega)] | rw [e] | rw [ec] | rw [ho] | rw [List.length_map])
      refine ⟨rs ++ [o], by rw [List.length_append, List.length_singleton, lr], fun j h h' => ?_, by simp⟩
      by_cases hj : j < rs.length
      · rw [List.getElem_append_left hj]
        exact hr j hj h'
      · have hji : j = i := by
          rw [List.length_append, List.length_singleton] at h
          omega
        subst hji
        rw [List.getElem_append_right (by omega)]
        simp only [lr, Nat.sub_self, List.getElem_cons_zero]
        exact po
    · rintro S ⟨rs, lr, hr, rfl⟩
      rw [List.length_map] at lr
      exact ⟨rs, ⟨lr, hr⟩, _, rfl⟩
  rintro _ ⟨rs, hr, z, rfl⟩
  repeat (first | walk_at "vm" | rw [if_pos (by omega)])
  exact ⟨rs, rfl, hr, fun h => absurd h a0⟩
end Sh

namespace Sh
open PySem VM L2
theorem pd0 (a : D) : putD "nexts" a [] = ([("nexts", a)] : List (Str × D)) := rfl
theorem pd1 (a b : D) : putD "rotation" b [("nexts", a)] = ([("nexts", a), ("rotation", b)] : List (Str × D)) := rfl
theorem pd2 (a b c : D) : putD "behind" c [("nexts", a), ("rotation", b)] = ([("nexts", a), ("rotation", b), ("behind", c)] : List (Str × D)) := rfl
abbrev gO (t : List (Option Nat)) (rs bs : List (List Nat)) : D := .obj "Graph" [("nexts", .tup (t.map oD)), ("rotation", .tup (rs.map tN)), ("behind", .tup (bs.map tN))]
theorem gf_n (a b c : D) : fldD ["Graph"] "nexts" (.obj "Graph" [("nexts", a), ("rotation", b), ("behind", c)]) = .ok ⟨false, a⟩ := rfl
theorem gf_r (a b c : D) : fldD ["Graph"] "rotation" (.obj "Graph" [("nexts", a), ("rotation", b), ("behind", c)]) = .ok ⟨false, b⟩ := rfl
theorem gf_b (a b c : D) : fldD ["Graph"] "behind" (.obj "Graph" [("nexts", a), ("rotation", b), ("behind", c)]) = .ok ⟨false, c⟩ := rfl
theorem backL_len (t : List (Option Nat)) : (backL t).length = t.length := by simp [backL]
theorem backL_get (t : List (Option Nat)) (j : Nat) (h : j < (backL t).length) : (backL t)[j] = bk t t.length j := by
  simp [backL]
theorem backL_le (t : List (Option Nat)) (h : t.length ≤ 1600) : ∀ b ∈ backL t, b.length ≤ 1600 := fun b hb => by
  obtain ⟨j, _, rfl⟩ := List.mem_map.mp hb
  have := List.length_filter_le (fun z => decide (t[z]? = some (some j))) (List.range t.length)
  rw [List.length_range] at this
  unfold bk
  omega
theorem nexts_ok (t : List (Option Nat)) (n : Nat) (ht : TabOk t n) (hn : n ≤ 1600) : g_check_nexts_a5738 [.tup (t.map oD)] = .ok ⟨false, .non⟩ := by
  obtain ⟨lt, bt⟩ := ht
  suffices h : Gives (g_check_nexts_a5738 [.tup (t.map oD)]) (fun z => z = ⟨false, .non⟩) from h.eq
  unfold g_check_nexts_a5738 m_check_nexts_a5738
  refine gives_fin ?_
  repeat (first | walk_at "vm" | rw [if_pos (by omega)] | rw [List.length_map])
  refine wp_for (fun i S => S = [.fz (.tup (t.map oD)), .no, .no]) rfl ?_ (fun S _ => trivial)
  rintro i d S hd rfl
  obtain ⟨hi2, rfl⟩ := rangeL_get hd
  have hi : i < t.length := by omega
  rw [show (0 : Int) + (i : Int) = (i : Int) by omega]
  have et : atI (t.map oD) (i : Int) = some (oD t[i]) := atI_oD hi
  cases hti : t[i] with
  | none =>
    rw [hti] at et
    repeat (first | walk_at "vm" | rw [if_pos (by omega)] | rw [et] | rw [n_oN])
  | some a =>
    rw [hti] at et
    have ha : a < n := bt a (hti ▸ List.getElem_mem _)
    repeat (first | walk_at "vm" | rw [if_pos (by omega)] | rw [et] | rw [n_oS] | rw [oD_s] | rw [List.length_map] | rw [dT (show (0 : Int) ≤ a by omega)] | rw [dT (show (a : Int) < t.length by omega)])
theorem init_ok' (t : List (Option Nat)) (n : Nat) (ht : TabOk t n) (hn : n ≤ 1600) (rot : D) (rs : List (List Nat)) (hr : rot = .non ∧ rs = plainL (backL t) ∨ rot = .tup (rs.map tN) ∧ RowsP rs (backL t)) :
    g_Graph__init___c7e29 [.tup (t.map oD), rot] = .ok [("nexts", .tup (t.map oD)), ("rotation", .tup (rs.map tN)), ("behind", .tup ((backL t).map tN))] := by
  have h1 := nexts_ok t n ht hn
  have h2 := pred_ok t n ht hn
  have hl : (backL t).length ≤ 1600 := by rw [backL_len, ht.1]; exact hn
  have hle := backL_le t (by rw [ht.1]; exact hn)
  have h3 := plain_ok (backL t) hl hle
  have hp : RowsP rs (backL t) := by
    rcases hr with ⟨_, rfl⟩ | ⟨_, h⟩
    · exact plain_p _
    · exact h
  have h4 := check_ok rs (backL t) hp hl hle
  unfold g_Graph__init___c7e29 m_Graph__init___c7e29 inI
  have fin : ∀ S : Ss, finI "Graph" (.nx (.own (.obj "Graph" [("nexts", .tup (t.map oD)), ("rotation", .tup (rs.map tN)), ("behind", .tup ((backL t).map tN))]) :: S)) = .ok [("nexts", .tup (t.map oD)), ("rotation", .tup (rs.map tN)), ("behind", .tup ((backL t).map tN))] := fun S => by
    unfold finI slot0
    simp
  rcases hr with ⟨rfl, rfl⟩ | ⟨rfl, _⟩
  · repeat (first | walk_at "vm" | rw [if_pos (by omega)] | rw [h1] | rw [h2] | rw [h3] | rw [h4] | rw [pd0] | rw [pd1] | rw [pd2] | rw [fin])
  · repeat (first | walk_at "vm" | rw [if_pos (by omega)] | rw [h1] | rw [h2] | rw [show isNon (.tup (rs.map tN)) = false from rfl] | rw [h4] | rw [pd0] | rw [pd1] | rw [pd2] | rw [fin])
end Sh

namespace Sh
open PySem VM L2
/-! pointers -/
theorem idx_lt {ks : List Nat} {a : Nat} (h : a ∈ ks) : ks.idxOf a < ks.length := List.idxOf_lt_length_of_mem h
theorem idx_get {ks : List Nat} {a : Nat} (h : a ∈ ks) : ks[ks.idxOf a]'(idx_lt h) = a := List.getElem_idxOf (idx_lt h)
theorem idx_at : ∀ {ks : List Nat} (_ : ks.Nodup) {k : Nat} (hk : k < ks.length), ks.idxOf ks[k] = k
  | x :: ks, nd, 0, _ => by simp [List.idxOf_cons]
  | x :: ks, nd, k + 1, hk => by
    rw [List.nodup_cons] at nd
    have hk2 : k < ks.length := by simpa using hk
    have ne : ¬ x = ks[k] := fun e => nd.1 (e ▸ List.getElem_mem hk2)
    rw [List.getElem_cons_succ, List.idxOf_cons, cond_eq_ite, if_neg (by simpa using ne), idx_at nd.2 hk2]
theorem find_nsD (a : Nat) : ∀ ks : List Nat, a ∈ ks → (nsD ks).findIdx? (fun z => D.eqv z (nD a)) = some (ks.idxOf a)
  | x :: ks, h => by
    show List.findIdx? _ (nD x :: nsD ks) = _
    rw [List.findIdx?_cons, List.idxOf_cons]
    have e : D.eqv (nD x) (nD a) = (x == a) := by
      simp only [nD, D.eqv]
      by_cases h : x = a
      · subst h
        simp
      · have h1 : ((x : Int) == (a : Int)) = false := beq_eq_false_iff_ne.mpr fun e => h (by omega)
        rw [h1, beq_eq_false_iff_ne.mpr h]
    rw [e]
    cases hx : (x == a) with
    | true => rfl
    | false =>
      have hm : a ∈ ks := by
        rcases List.mem_cons.mp h with h | h
        · rw [h] at hx
          simp at hx
        · exact h
      rw [find_nsD a ks hm]
      rfl
  | [], h => nomatch h
theorem cmp_nD (a : Nat) : (nD a).cmpOk = true := by simp [D.cmpOk, D.flat, D.dep]
theorem idx_l {ks : List Nat} {a : Nat} (h : a ∈ ks) : idxL (D.lst (nsD ks)).cmpOk (nsD ks) (.int (a : Int)) = .ok ⟨false, .int ((ks.idxOf a : Nat) : Int)⟩ := by
  unfold idxL
  rw [show (D.int (a : Int)).cmpOk = true from cmp_nD a, show (D.lst (nsD ks)).cmpOk = true from cmp_lN ks, find_nsD a ks h]
  rfl
theorem idx_t {ks : List Nat} {a : Nat} (h : a ∈ ks) : idxL (D.tup (nsD ks)).cmpOk (nsD ks) (.int (a : Int)) = .ok ⟨false, .int ((ks.idxOf a : Nat) : Int)⟩ := by
  unfold idxL
  rw [show (D.int (a : Int)).cmpOk = true from cmp_nD a, show (D.tup (nsD ks)).cmpOk = true from cmp_tN ks, find_nsD a ks h]
  rfl
/-- a graph's data -/
structure Gp (t : List (Option Nat)) (n : Nat) (bs rs : List (List Nat)) : Prop where
  tab : TabOk t n
  n1 : 1 ≤ n
  n2 : n ≤ 1600
  bs_ : bs = backL t
  rows : RowsP rs bs
section
variable {t : List (Option Nat)} {n : Nat} {bs rs : List (List Nat)}
theorem Gp.lb (G : Gp t n bs rs) : bs.length = n := by rw [G.bs_, backL_len, G.tab.1]
theorem Gp.lr (G : Gp t n bs rs) : rs.length = n := by rw [G.rows.1, G.lb]
theorem Gp.bget (G : Gp t n bs rs) (a : Nat) (h : a < bs.length) : bs[a] = bk t n a := by
  have e := G.bs_
  subst e
  rw [backL_get, G.tab.1]
theorem Gp.mem (G : Gp t n bs rs) {a c : Nat} (h : a < bs.length) : c ∈ bs[a] ↔ t[c]? = some (some a) := by
  rw [G.bget a h]
  unfold bk
  rw [List.mem_filter, List.mem_range, decide_eq_true_eq]
  refine ⟨fun z => z.2, fun z => ⟨?_, z⟩⟩
  have := (List.getElem?_eq_some_iff.mp z).1
  rw [G.tab.1] at this
  exact this
theorem Gp.nd (G : Gp t n bs rs) {a : Nat} (h : a < bs.length) : bs[a].Nodup := by
  rw [G.bget a h]
  exact List.Pairwise.filter _ List.nodup_range
theorem Gp.le (G : Gp t n bs rs) {a : Nat} (h : a < bs.length) : bs[a].length ≤ 1600 := by
  have e := G.bs_
  subst e
  exact backL_le t (by rw [G.tab.1]; exact G.n2) _ (List.getElem_mem _)
theorem Gp.rlen (G : Gp t n bs rs) {a : Nat} (h : a < bs.length) (h' : a < rs.length) : rs[a].length = bs[a].length + 1 := by
  rw [(G.rows.2 a h' h).length_eq, List.length_range]
theorem Gp.rnd (G : Gp t n bs rs) {a : Nat} (h : a < bs.length) (h' : a < rs.length) : rs[a].Nodup := (G.rows.2 a h' h).nodup_iff.mpr List.nodup_range
theorem Gp.rmem (G : Gp t n bs rs) {a f : Nat} (h : a < bs.length) (h' : a < rs.length) : f ∈ rs[a] ↔ f ≤ bs[a].length := by
  rw [(G.rows.2 a h' h).mem_iff, List.mem_range]
  omega
/-- a pointer -/
def Pt (bs : List (List Nat)) (p : Nat × Nat) : Prop := p.1 < bs.length ∧ ∀ h : p.1 < bs.length, p.2 ≤ bs[p.1].length
/-- the other end of a finger -/
def acr (t : List (Option Nat)) (bs : List (List Nat)) (p : Nat × Nat) : Nat × Nat :=
  if 0 < p.2 then ((bs[p.1]?.bind fun b => b[p.2 - 1]?).getD 0, 0) else match t[p.1]? with
    | some (some b) => (b, 1 + ((bs[b]?.getD []).idxOf p.1))
    | _ => p
theorem acr_pos {a f : Nat} (h0 : 0 < f) (h : a < bs.length) (hf : f - 1 < bs[a].length) : acr t bs (a, f) = (bs[a][f - 1], 0) := by
  unfold acr
  simp [h0, List.getElem?_eq_getElem h, List.getElem?_eq_getElem hf]
theorem acr_none {a : Nat} (e : t[a]? = some none) : acr t bs (a, 0) = (a, 0) := by
  unfold acr
  simp [e]
theorem acr_some {a b : Nat} (e : t[a]? = some (some b)) (h : b < bs.length) : acr t bs (a, 0) = (b, 1 + bs[b].idxOf a) := by
  unfold acr
  simp [e, List.getElem?_eq_getElem h]
theorem Gp.tb (G : Gp t n bs rs) {a b : Nat} (e : t[a]? = some (some b)) : b < bs.length := by
  rw [G.lb]
  exact G.tab.2 b (List.mem_of_getElem? e)
theorem Gp.cases (G : Gp t n bs rs) {p : Nat × Nat} (hp : Pt bs p) : Pt bs (acr t bs p) ∧ acr t bs (acr t bs p) = p := by
  obtain ⟨a, f⟩ := p
  obtain ⟨ha, hf⟩ := hp
  have hf := hf ha
  simp only at ha hf
  have hat : a < t.length := by rw [G.tab.1, ← G.lb]; exact ha
  by_cases h0 : 0 < f
  · have hfl : f - 1 < bs[a].length := by omega
    have hm : bs[a][f - 1] ∈ bs[a] := List.getElem_mem hfl
    have e := (G.mem ha).mp hm
    have hc : bs[a][f - 1] < bs.length := by
      rw [G.lb, ← G.tab.1]
      exact (List.getElem?_eq_some_iff.mp e).1
    rw [acr_pos h0 ha hfl]
    refine ⟨⟨hc, fun _ => Nat.zero_le _⟩, ?_⟩
    rw [acr_some e ha, idx_at (G.nd ha) hfl]
    congr 1
    omega
  · have : f = 0 := by omega
    subst this
    cases ht : t[a] with
    | none =>
      have e : t[a]? = some none := by rw [List.getElem?_eq_getElem hat, ht]
      rw [acr_none e, acr_none e]
      exact ⟨⟨ha, fun _ => Nat.zero_le _⟩, rfl⟩
    | some b =>
      have e : t[a]? = some (some b) := by rw [List.getElem?_eq_getElem hat, ht]
      have hb := G.tb e
      have hm : a ∈ bs[b] := (G.mem hb).mpr e
      have hl := idx_lt hm
      rw [acr_some e hb]
      refine ⟨⟨hb, fun _ => by simp only; omega⟩, ?_⟩
      rw [acr_pos (by omega) hb (by omega)]
      simp only [show 1 + List.idxOf a bs[b] - 1 = List.idxOf a bs[b] by omega]
      rw [idx_get hm]
end
end Sh

namespace Sh
open PySem VM L2
theorem whole_ok (i : Int) : g__law_whole_cee86 [.int i] = .ok ⟨false, .bl true⟩ := by
  unfold g__law_whole_cee86 m__law_whole_cee86
  repeat (first | walk_at "vm" | rw [if_pos (by omega)])
theorem blsOf_t {α : Type} : ∀ ds : List α, blsOf (ds.map fun _ => D.bl true) = some (ds.map fun _ => true)
  | [] => rfl
  | d :: ds => by
    show blsOf (D.bl true :: ds.map fun _ => D.bl true) = _
    unfold blsOf
    rw [blsOf_t ds]
    rfl
theorem allD_t {α : Type} (ds : List α) : allD [.lst (ds.map fun _ => D.bl true)] = .ok ⟨false, .bl true⟩ := by
  unfold allD
  simp only [blsOf_t]
  have : (ds.map fun _ => true).all id = true := by
    rw [List.all_eq_true]
    intro x hx
    obtain ⟨_, _, rfl⟩ := List.mem_map.mp hx
    rfl
  show fzO (.bl ((ds.map fun _ => true).all id)) = _
  rw [this]
  rfl
theorem numbers_ok (zs : List Int) (hl : zs.length ≤ 16000000) : g__law_numbers_7d612 [.tup (zs.map D.int)] = .ok ⟨false, .bl true⟩ := by
  unfold g__law_numbers_7d612 m__law_numbers_7d612
  repeat (first | walk_at "vm" | rw [if_pos (by omega)])
  rw [lcL_map (fun _ => .bl true)]
  · have e := allD_t (zs.map D.int)
    repeat (first | walk_at "vm" | rw [if_pos (by omega)] | rw [List.length_map] | rw [e])
  · intro d hd
    obtain ⟨z, _, rfl⟩ := List.mem_map.mp hd
    repeat (first | walk_at "vm" | rw [if_pos (by omega)] | rw [whole_ok])
theorem numbers_tN (ks : List Nat) (hl : ks.length ≤ 16000000) : g__law_numbers_7d612 [tN ks] = .ok ⟨false, .bl true⟩ := by
  have h := numbers_ok (ks.map fun k : Nat => (k : Int)) (by rw [List.length_map]; exact hl)
  rw [← nsD_ints] at h
  exact h
theorem ne_self (x : Int) : neD (.int x) (.int x) = .ok ⟨false, .bl false⟩ := by
  rw [neD_int]
  simp
theorem ne_oD (o : Option Nat) : neD (oD o) (oD o) = .ok ⟨false, .bl false⟩ := by
  cases o with
  | none => rfl
  | some k => exact ne_self _
end Sh

namespace Sh
open PySem VM L2
theorem ix0 (x y : D) : atI [x, y] 0 = some x := rfl
theorem ix1 (x y : D) : atI [x, y] 1 = some y := rfl
section
variable {t : List (Option Nat)} {n : Nat} {bs rs : List (List Nat)}
theorem fields_ok (G : Gp t n bs rs) : g__law_fields_24e42 [gO t rs bs, .lst (t.map oD), .tup (rs.map tN)] = .ok ⟨false, .bl true⟩ := by
  suffices h : Gives (g__law_fields_24e42 [gO t rs bs, .lst (t.map oD), .tup (rs.map tN)]) (fun z => z = ⟨false, .bl true⟩) from h.eq
  have lt := G.tab.1
  have lr := G.lr
  have hn2 := G.n2
  unfold g__law_fields_24e42 m__law_fields_24e42
  refine gives_fin ?_
  refine wp_cut (fun S => S = [.fz (gO t rs bs), .fz (.lst (t.map oD)), .fz (.tup (rs.map tN)), .no]) ?_ ?_
  · repeat (first | walk_at "vm" | rw [if_pos (by omega)] | rw [gf_n] | rw [ne_self])
  rintro _ rfl
  refine wp_cut (fun S => S = [.fz (gO t rs bs), .fz (.lst (t.map oD)), .fz (.tup (rs.map tN)), .no]) ?_ ?_
  · repeat (first | walk_at "vm" | rw [if_pos (by omega)] | rw [gf_r] | rw [ne_self])
  rintro _ rfl
  refine wp_cut (fun S => S = [.fz (gO t rs bs), .fz (.lst (t.map oD)), .fz (.tup (rs.map tN)), .no]) ?_ ?_
  · repeat (first | walk_at "vm" | rw [if_pos (by omega)] | rw [List.length_map])
    refine wp_for (fun i S => S = [.fz (gO t rs bs), .fz (.lst (t.map oD)), .fz (.tup (rs.map tN)), .no]) rfl ?_ ?_
    rotate_left
    · exact fun S h => h
    rintro i d S hd rfl
    obtain ⟨hi2, rfl⟩ := rangeL_get hd
    have hi : i < t.length := by omega
    have hir : i < rs.length := by omega
    have hib : i < bs.length := by rw [G.lb]; omega
    rw [show (0 : Int) + (i : Int) = (i : Int) by omega]
    have et : atI (t.map oD) (i : Int) = some (oD t[i]) := atI_oD hi
    have er : atI (rs.map tN) (i : Int) = some (tN rs[i]) := atI_map' hir
    have h1 := numbers_tN rs[i] (by rw [G.rlen hib hir]; have := G.le hib; omega)
    have h2 := neD_tN rs[i] rs[i]
    rw [decide_eq_true rfl] at h2
    cases hti : t[i] with
    | none =>
      rw [hti] at et
      repeat (first | walk_at "vm" | rw [if_pos (by omega)] | rw [gf_n] | rw [et] | rw [n_oN] | rw [ne_oD] | rw [gf_r] | rw [er] | rw [h1] | rw [h2])
    | some a =>
      rw [hti] at et
      have h3 := ne_oD (some a)
      rw [oD_s] at h3
      repeat (first | walk_at "vm" | rw [if_pos (by omega)] | rw [gf_n] | rw [et] | rw [n_oS] | rw [oD_s] | rw [whole_ok] | rw [h3] | rw [gf_r] | rw [er] | rw [h1] | rw [h2])
  rintro _ rfl
  repeat (first | walk_at "vm" | rw [if_pos (by omega)])
end
end Sh

namespace Sh
open PySem VM L2
/-! any nexts, any rows -/
def oI : Option Int → D
  | none => .non
  | some z => .int z
def tI (r : List Int) : D := .tup (r.map D.int)
theorem isD_oI (neg : Bool) (o : Option Int) : isD neg (oI o) .non = .ok ⟨false, .bl (xor neg o.isNone)⟩ := by cases o <;> rfl
theorem atI_oI {t : List (Option Int)} {k : Nat} (h : k < t.length) : atI (t.map oI) (k : Int) = some (oI t[k]) := atI_map' h
/-- no node's number -/
def badN (L : Nat) (o : Option Int) : Bool := match o with
  | none => false
  | some z => decide (z < 0) || decide ((L : Int) ≤ z)
/-- the first i below n of which p holds -/
def fst1 (p : Nat → Bool) (n : Nat) : Option Nat := (List.range n).find? p
theorem fst_some {p : Nat → Bool} {n i : Nat} (hi : i < n) (h : p i = true) (hb : ∀ j, j < i → p j = false) : fst1 p n = some i := by
  unfold fst1
  rw [List.find?_range_eq_some]
  exact ⟨h, List.mem_range.mpr hi, fun j hj => by rw [hb j hj]; rfl⟩
theorem fst_none {p : Nat → Bool} {n : Nat} (hb : ∀ j, j < n → p j = false) : fst1 p n = none := by
  unfold fst1
  rw [List.find?_eq_none]
  intro j hj
  rw [hb j (List.mem_range.mp hj)]
  exact Bool.false_ne_true
theorem fst_is {p : Nat → Bool} {n i : Nat} (h : fst1 p n = some i) : i < n ∧ p i = true ∧ ∀ j, j < i → p j = false := by
  unfold fst1 at h
  rw [List.find?_range_eq_some] at h
  obtain ⟨h1, h2, h3⟩ := h
  exact ⟨List.mem_range.mp h2, h1, fun j hj => by have := h3 j hj; simpa using this⟩
theorem fst_no {p : Nat → Bool} {n : Nat} (h : fst1 p n = none) : ∀ j, j < n → p j = false := fun j hj => by
  unfold fst1 at h
  rw [List.find?_eq_none] at h
  have := h j (List.mem_range.mpr hj)
  simpa using this
def fbN (c : List (Option Int)) : Option Nat := fst1 (fun k => badN c.length (c[k]?.getD none)) c.length
/-- node k's next is wrong: what is raised -/
def exN (k : Nat) : Out R := .exc "BadGraph" [("node", .int (k : Int))]
def exR (k : Nat) : Out R := .exc "BadRotation" [("at", .int (k : Int))]
theorem GivesX.at {o p : Out R} (h : GivesX o (fun z => p = .ok z) (fun c fs => p = .exc c fs)) : o = p := by
  cases o with
  | ok r => exact (show p = .ok r from h).symm
  | exc c fs => exact (show p = .exc c fs from h).symm
  | no => exact h.elim
theorem zr1 (f : Str) (d : D) : zipR [f] [d] = [(f, d)] := rfl
theorem nexts_spec (c : List (Option Int)) (hn : c.length ≤ 1600) : g_check_nexts_a5738 [.tup (c.map oI)] = match fbN c with
    | none => .ok ⟨false, .non⟩
    | some k => exN k := by
  refine GivesX.at ?_
  unfold g_check_nexts_a5738 m_check_nexts_a5738
  refine gives_finX ?_
  repeat (first | walk_at "vm" | rw [if_pos (by omega)] | rw [List.length_map])
  rw [Int.toNat_natCast]
  refine wp_for (fun i S => S = [.fz (.tup (c.map oI)), .no, .no] ∧ ∀ j, j < i → badN c.length (c[j]?.getD none) = false) ⟨rfl, fun j hj => absurd hj (Nat.not_lt_zero _)⟩ ?_ ?_
  rotate_left
  · rintro S ⟨rfl, h⟩
    rw [rangeL_len] at h
    show (match fbN c with
      | none => .ok ⟨false, .non⟩
      | some k => exN k) = Out.ok (⟨false, .non⟩ : R)
    unfold fbN
    rw [fst_none h]
  rintro i d S hd ⟨rfl, hb⟩
  obtain ⟨hi, rfl⟩ := rangeL_get hd
  rw [show (0 : Int) + (i : Int) = (i : Int) by omega]
  have et := atI_oI hi
  have eg : c[i]?.getD none = c[i] := by rw [List.getElem?_eq_getElem hi]; rfl
  have nxt : badN c.length c[i] = false → ∀ j, j < i + 1 → badN c.length (c[j]?.getD none) = false := fun h j hj => by
    rcases Nat.lt_succ_iff_lt_or_eq.mp hj with z | z
    · exact hb j z
    · rw [z, eg]
      exact h
  have ex : badN c.length c[i] = true → (match fbN c with
      | none => .ok ⟨false, .non⟩
      | some k => exN k) = exN i := fun h => by
    unfold fbN
    rw [fst_some hi (by rw [eg]; exact h) hb]
  cases hc : c[i] with
  | none =>
    rw [hc] at et
    repeat (first | walk_at "vm" | rw [if_pos (by omega)] | rw [et] | rw [isD_oI])
    exact ⟨rfl, nxt (by rw [hc]; rfl)⟩
  | some z =>
    rw [hc] at et
    have e0 : oI (some z) = .int z := rfl
    rw [e0] at et
    by_cases h0 : (0 : Int) ≤ z
    · by_cases h1 : z < (c.length : Int)
      · repeat (first | walk_at "vm" | rw [if_pos (by omega)] | rw [et] | rw [dT h0] | rw [List.length_map] | rw [dT h1])
        exact ⟨by trivial, nxt (by rw [hc]; show (decide (z < 0) || decide ((c.length : Int) ≤ z)) = false; rw [dF (show ¬ z < 0 by omega), dF (show ¬ (c.length : Int) ≤ z by omega)]; rfl)⟩
      · repeat (first | walk_at "vm" | rw [if_pos (by omega)] | rw [et] | rw [dT h0] | rw [List.length_map] | rw [dF h1] | rw [zr1])
        exact ex (by rw [hc]; show (decide (z < 0) || decide ((c.length : Int) ≤ z)) = true; rw [dT (show (c.length : Int) ≤ z by omega), Bool.or_true])
    · repeat (first | walk_at "vm" | rw [if_pos (by omega)] | rw [et] | rw [dF h0] | rw [zr1])
      exact ex (by rw [hc]; show (decide (z < 0) || decide ((c.length : Int) ≤ z)) = true; rw [dT (show z < 0 by omega), Bool.true_or])
theorem perm_of_sub {α : Type} [DecidableEq α] : ∀ {a b : List α}, a.Nodup → a ⊆ b → b.length ≤ a.length → a.Perm b
  | [], [], _, _, _ => List.Perm.refl _
  | [], _ :: _, _, _, h => absurd h (Nat.not_succ_le_zero _)
  | x :: a, b, nd, hs, hl => by
    have hx : x ∈ b := hs List.mem_cons_self
    have p := List.perm_cons_erase hx
    have nd' := List.nodup_cons.mp nd
    have l1 : (b.erase x).length = b.length - 1 := List.length_erase_of_mem hx
    rw [List.length_cons] at hl
    refine (List.Perm.cons x (perm_of_sub nd'.2 (fun y hy => ?_) (by omega))).trans p.symm
    exact (List.mem_erase_of_ne (fun e : y = x => nd'.1 (by rw [← e]; exact hy))).mpr (hs (List.mem_cons_of_mem _ hy))
/-- row r has not each of m numbers once -/
def badR (m : Nat) (r : List Int) : Bool := !(decide (r.length = m) && (List.range m).all fun t => r.contains (t : Int))
theorem sort_eq {r : List Int} {m : Nat} (h : badR m r = false) : (sortI r).map D.int = nsD (List.range m) := by
  unfold badR at h
  rw [Bool.not_eq_false', Bool.and_eq_true] at h
  obtain ⟨h1, h2⟩ := h
  have h1 := of_decide_eq_true h1
  have p : ((List.range m).map fun k : Nat => (k : Int)).Perm r := by
    have nd : ((List.range m).map fun k : Nat => (k : Int)).Nodup := (List.pairwise_map.mpr (List.nodup_range.imp fun h e => h (by omega)))
    have hs : ((List.range m).map fun k : Nat => (k : Int)) ⊆ r := fun x hx => by
      obtain ⟨t, ht, rfl⟩ := List.mem_map.mp hx
      have := List.all_eq_true.mp h2 t ht
      simpa using this
    exact perm_of_sub nd hs (by rw [List.length_map, List.length_range, h1]; exact Nat.le_refl _)
  have e : sortI r = (List.range m).map fun k : Nat => (k : Int) := (sortI_eq p (List.pairwise_map.mpr (List.pairwise_lt_range.imp fun h => by omega))).symm
  rw [e, nsD_ints]
theorem sort_ne {r : List Int} {m : Nat} (h : badR m r = true) : (sortI r).map D.int ≠ nsD (List.range m) := fun e => by
  rw [nsD_ints] at e
  have inj : ∀ {a b : List Int}, a.map D.int = b.map D.int → a = b := fun {a b} h => by
    have := congrArg (List.map fun d : D => match d with | .int z => z | _ => (0 : Int)) h
    simpa [List.map_map, Function.comp_def] using this
  have e1 := inj e
  have p : r.Perm ((List.range m).map fun k : Nat => (k : Int)) := by
    rw [← e1]
    exact (sortI_perm r).symm
  unfold badR at h
  rw [Bool.not_eq_true', Bool.and_eq_false_iff] at h
  rcases h with h | h
  · exact absurd (by rw [p.length_eq, List.length_map, List.length_range]) (of_decide_eq_false h)
  · rw [List.all_eq_false] at h
    obtain ⟨t, ht, h⟩ := h
    exact h (by
      have : (t : Int) ∈ r := p.mem_iff.mpr (List.mem_map.mpr ⟨t, ht, rfl⟩)
      simpa using this)
theorem flatAll_int : ∀ r : List Int, D.flatAll (r.map D.int) = true
  | [] => by simp [D.flatAll]
  | z :: r => by
    rw [List.map_cons, D.flatAll, flatAll_int r]
    simp [D.flat]
theorem depAll_int : ∀ r : List Int, D.depAll (r.map D.int) = 0
  | [] => by simp [D.depAll]
  | z :: r => by
    rw [List.map_cons, D.depAll, depAll_int r]
    simp [D.dep]
theorem eqvAll_int : ∀ a b : List Int, D.eqvAll (a.map D.int) (b.map D.int) = decide (a = b)
  | [], [] => by simp [D.eqvAll]
  | [], _ :: _ => by simp [D.eqvAll]
  | _ :: _, [] => by simp [D.eqvAll]
  | x :: a, y :: b => by
    rw [List.map_cons, List.map_cons, D.eqvAll, eqvAll_int a b, D.eqv]
    by_cases h : x = y
    · subst h
      simp
    · rw [show (x == y) = false from beq_false_of_ne h, Bool.false_and]
      simp [h]
theorem cmp_lI (a : List Int) : (D.lst (a.map D.int)).cmpOk = true := by
  unfold D.cmpOk
  rw [D.flat, D.dep, flatAll_int, depAll_int]
  rfl
theorem cmp_tI (a : List Int) : (tI a).cmpOk = true := by
  unfold tI D.cmpOk
  rw [D.flat, D.dep, flatAll_int, depAll_int]
  rfl
theorem neD_lI (a b : List Int) : neD (.lst (a.map D.int)) (.lst (b.map D.int)) = .ok ⟨false, .bl (!decide (a = b))⟩ := by
  unfold neD
  simp only [cmp_lI, Bool.and_self, if_true]
  rw [D.eqv, eqvAll_int]
  rfl
theorem intsOf_int : ∀ r : List Int, intsOf (r.map D.int) = some r := intsOf_map
/-- the first row that is wrong -/
def fbR (bs : List (List Nat)) (h : List (List Int)) : Option Nat := fst1 (fun k => badR ((bs[k]?.getD []).length + 1) (h[k]?.getD [])) bs.length
theorem rows_spec (h : List (List Int)) (bs : List (List Nat)) (hl : h.length = bs.length) (h1 : bs.length ≤ 1600) (h2 : ∀ b ∈ bs, b.length ≤ 1600) : g_check_rows_8896c [.tup (h.map tI), .tup (bs.map tN)] = match fbR bs h with
    | none => .ok ⟨false, .non⟩
    | some k => exR k := by
  refine GivesX.at ?_
  unfold g_check_rows_8896c m_check_rows_8896c
  refine gives_finX ?_
  repeat (first | walk_at "vm" | rw [if_pos (by omega)] | rw [List.length_map])
  rw [Int.toNat_natCast]
  refine wp_for (fun i S => S = [.fz (.tup (h.map tI)), .fz (.tup (bs.map tN)), .no] ∧ ∀ j, j < i → badR ((bs[j]?.getD []).length + 1) (h[j]?.getD []) = false) ⟨rfl, fun j hj => absurd hj (Nat.not_lt_zero _)⟩ ?_ ?_
  rotate_left
  · rintro S ⟨rfl, hb⟩
    rw [rangeL_len, hl] at hb
    show (match fbR bs h with
      | none => .ok ⟨false, .non⟩
      | some k => exR k) = Out.ok (⟨false, .non⟩ : R)
    unfold fbR
    rw [fst_none hb]
  rintro i d S hd ⟨rfl, hb⟩
  obtain ⟨hi, rfl⟩ := rangeL_get hd
  have hib : i < bs.length := by omega
  have hbl := h2 bs[i] (List.getElem_mem _)
  rw [show (0 : Int) + (i : Int) = (i : Int) by omega]
  have er : atI (h.map tI) (i : Int) = some (tI h[i]) := atI_map' hi
  have eb : atI (bs.map tN) (i : Int) = some (tN bs[i]) := atI_map' hib
  have eg : h[i]?.getD [] = h[i] := by rw [List.getElem?_eq_getElem hi]; rfl
  have eg2 : bs[i]?.getD [] = bs[i] := by rw [List.getElem?_eq_getElem hib]; rfl
  have e : ((nsD bs[i]).length : Int) + 1 = ((bs[i].length + 1 : Nat) : Int) := by simp [nsD]
  have e2 : ((bs[i].length + 1 : Nat) : Int).toNat = bs[i].length + 1 := by omega
  have et : tI h[i] = .tup (h[i].map D.int) := rfl
  rw [et] at er
  have ei := intsOf_int h[i]
  have e3 := neD_lI (sortI h[i]) ((List.range (bs[i].length + 1)).map fun k : Nat => (k : Int))
  rw [← nsD_ints] at e3
  cases hbad : badR (bs[i].length + 1) h[i] with
  | false =>
    have hs := sort_eq hbad
    rw [hs] at e3
    rw [hs.symm] at e3
    have e4 : sortI h[i] = (List.range (bs[i].length + 1)).map fun k : Nat => (k : Int) := by
      rw [nsD_ints] at hs
      have := congrArg (List.map fun d : D => match d with | .int z => z | _ => (0 : Int)) hs
      simpa [List.map_map, Function.comp_def] using this
    rw [decide_eq_true e4, hs] at e3
    repeat (first | walk_at "vm" | rw [if_pos (by omega)] | rw [er] | rw [ei] | rw [hs] | rw [eb] | rw [e] | rw [e2] | rw [rangeL0] | rw [e3])
    refine ⟨by trivial, fun j hj => ?_⟩
    rcases Nat.lt_succ_iff_lt_or_eq.mp hj with z | z
    · exact hb j z
    · rw [z, eg, eg2]
      exact hbad
  | true =>
    have hs := sort_ne hbad
    have e4 : sortI h[i] ≠ (List.range (bs[i].length + 1)).map fun k : Nat => (k : Int) := fun z => hs (by rw [z, nsD_ints])
    rw [decide_eq_false e4] at e3
    repeat (first | walk_at "vm" | rw [if_pos (by omega)] | rw [er] | rw [ei] | rw [eb] | rw [e] | rw [e2] | rw [rangeL0] | rw [e3] | rw [zr1])
    show (match fbR bs h with
      | none => .ok ⟨false, .non⟩
      | some k => exR k) = exR i
    unfold fbR
    rw [fst_some hib (by rw [eg, eg2]; exact hbad) hb]
end Sh

namespace Sh
open PySem VM L2
theorem oI_of (o : Option Nat) : oI (o.map fun k : Nat => (k : Int)) = oD o := by cases o <;> rfl
def toN (o : Option Int) : Option Nat := o.map Int.toNat
theorem good_tab {c : List (Option Int)} (h : fbN c = none) : TabOk (c.map toN) c.length ∧ c.map oI = (c.map toN).map oD := by
  have hb := fst_no h
  have key : ∀ (k : Nat) (hk : k < c.length), oI c[k] = oD (toN c[k]) ∧ ∀ j, toN c[k] = some j → j < c.length := fun k hk => by
    have e := hb k hk
    simp only [List.getElem?_eq_getElem hk, Option.getD_some] at e
    cases hc : c[k] with
    | none => exact ⟨rfl, fun j hj => by cases hj⟩
    | some z =>
      rw [hc] at e
      have e2 : (decide (z < 0) || decide ((c.length : Int) ≤ z)) = false := e
      rw [Bool.or_eq_false_iff] at e2
      have h1 := of_decide_eq_false e2.1
      have h2 := of_decide_eq_false e2.2
      refine ⟨?_, fun j hj => ?_⟩
      · show D.int z = D.int ((z.toNat : Nat) : Int)
        rw [Int.toNat_of_nonneg (by omega)]
      · cases hj
        omega
  refine ⟨⟨by rw [List.length_map], fun j hj => ?_⟩, ?_⟩
  · obtain ⟨o, ho, e⟩ := List.mem_map.mp hj
    obtain ⟨k, hk, rfl⟩ := List.getElem_of_mem ho
    exact (key k hk).2 j e
  · rw [List.map_map]
    refine List.map_congr_left fun o ho => ?_
    obtain ⟨k, hk, rfl⟩ := List.getElem_of_mem ho
    exact (key k hk).1
/-- what is due -/
def dueP (c : List (Option Int)) (h : List (List Int)) (way : Int) : Nat × Nat := match fbN c with
  | some k => (1, k)
  | none => if 1 < way then (match fbR (backL (c.map toN)) h with
    | some k => (2, k)
    | none => (0, 0)) else (0, 0)
abbrev pD (p : Nat × Nat) : D := .lst [.int (p.1 : Int), .int (p.2 : Int)]
def good_row {r : List Int} {m : Nat} (h : badR m r = false) : ∃ ks : List Nat, r = ks.map (fun k : Nat => (k : Int)) ∧ ks.Perm (List.range m) := by
  unfold badR at h
  rw [Bool.not_eq_false', Bool.and_eq_true] at h
  obtain ⟨h1, h2⟩ := h
  have h1 := of_decide_eq_true h1
  have p : ((List.range m).map fun k : Nat => (k : Int)).Perm r := by
    have nd : ((List.range m).map fun k : Nat => (k : Int)).Nodup := (List.pairwise_map.mpr (List.nodup_range.imp fun h e => h (by omega)))
    have hs : ((List.range m).map fun k : Nat => (k : Int)) ⊆ r := fun x hx => by
      obtain ⟨t, ht, rfl⟩ := List.mem_map.mp hx
      have := List.all_eq_true.mp h2 t ht
      simpa using this
    exact perm_of_sub nd hs (by rw [List.length_map, List.length_range, h1]; exact Nat.le_refl _)
  refine ⟨r.map Int.toNat, ?_, ?_⟩
  · rw [List.map_map]
    conv => lhs; rw [← List.map_id r]
    refine List.map_congr_left fun z hz => ?_
    obtain ⟨t, _, rfl⟩ := List.mem_map.mp (p.mem_iff.mpr hz)
    simp
  · have q := (p.map Int.toNat).symm
    rw [List.map_map] at q
    have e : ((Int.toNat ∘ fun k : Nat => (k : Int)) : Nat → Nat) = id := by
      funext k
      simp
    rw [e, List.map_id] at q
    exact q
theorem good_rows {bs : List (List Nat)} {h : List (List Int)} (hl : h.length = bs.length) (e : fbR bs h = none) : ∃ rs : List (List Nat), h.map tI = rs.map tN ∧ RowsP rs bs := by
  have hb := fst_no e
  have key : ∀ (k : Nat) (hk : k < h.length) (hk2 : k < bs.length), h[k] = (h[k].map Int.toNat).map (fun k : Nat => (k : Int)) ∧ (h[k].map Int.toNat).Perm (List.range (bs[k].length + 1)) := fun k hk hk2 => by
    have e := hb k hk2
    simp only [List.getElem?_eq_getElem hk, List.getElem?_eq_getElem hk2, Option.getD_some] at e
    obtain ⟨ks, e1, e2⟩ := good_row e
    have e3 : h[k].map Int.toNat = ks := by
      rw [e1, List.map_map]
      have e : ((Int.toNat ∘ fun k : Nat => (k : Int)) : Nat → Nat) = id := by
        funext k
        simp
      rw [e, List.map_id]
    rw [e3]
    exact ⟨e1, e2⟩
  refine ⟨h.map fun r => r.map Int.toNat, ?_, by rw [List.length_map, hl], fun j h1 h2 => ?_⟩
  · rw [List.map_map]
    refine List.map_congr_left fun r hr => ?_
    obtain ⟨k, hk, rfl⟩ := List.getElem_of_mem hr
    have e := (key k hk (by omega)).1
    show D.tup (h[k].map D.int) = D.tup (nsD (h[k].map Int.toNat))
    rw [nsD_ints, ← e]
  · simp only [List.getElem_map]
    exact (key j (by simpa using h1) h2).2
theorem row_missing {r : List Int} {m : Nat} : (decide (0 < ((List.range m).filter fun t : Nat => !r.contains (t : Int)).length) || !decide (r.length = m)) = badR m r := by
  unfold badR
  have e : decide (0 < ((List.range m).filter fun t : Nat => !r.contains (t : Int)).length) = !((List.range m).all fun t : Nat => r.contains (t : Int)) := by
    cases ha : (List.range m).all fun t : Nat => r.contains (t : Int) with
    | true =>
      rw [List.all_eq_true] at ha
      have : (List.range m).filter (fun t : Nat => !r.contains (t : Int)) = [] := by
        rw [List.filter_eq_nil_iff]
        intro t ht
        rw [ha t ht]
        simp
      rw [this]
      rfl
    | false =>
      rw [List.all_eq_false] at ha
      obtain ⟨t, ht, h⟩ := ha
      have : t ∈ (List.range m).filter (fun t : Nat => !r.contains (t : Int)) := List.mem_filter.mpr ⟨ht, by simpa using h⟩
      exact decide_eq_true (List.length_pos_of_mem this)
  rw [e]
  cases (List.range m).all fun t : Nat => r.contains (t : Int) <;> cases decide (r.length = m) <;> rfl
theorem init_badN {c : List (Option Int)} {rot : D} {k : Nat} (hn : c.length ≤ 1600) (h : fbN c = some k) : g_Graph__init___c7e29 [.tup (c.map oI), rot] = .exc "BadGraph" [("node", .int (k : Int))] := by
  have h1 := nexts_spec c hn
  rw [h] at h1
  have h1 : g_check_nexts_a5738 [.tup (c.map oI)] = exN k := h1
  unfold exN at h1
  unfold g_Graph__init___c7e29 m_Graph__init___c7e29 inI
  repeat (first | walk_at "vm" | rw [if_pos (by omega)] | rw [h1])
  rfl
theorem init_badR {t : List (Option Nat)} {n : Nat} {h : List (List Int)} {k : Nat} (ht : TabOk t n) (hn : n ≤ 1600) (hl : h.length = n) (e : fbR (backL t) h = some k) : g_Graph__init___c7e29 [.tup (t.map oD), .tup (h.map tI)] = .exc "BadRotation" [("at", .int (k : Int))] := by
  have h1 := nexts_ok t n ht hn
  have h2 := pred_ok t n ht hn
  have hl2 : (backL t).length ≤ 1600 := by rw [backL_len, ht.1]; exact hn
  have hle := backL_le t (by rw [ht.1]; exact hn)
  have h4 := rows_spec h (backL t) (by rw [backL_len, ht.1]; exact hl) hl2 hle
  rw [e] at h4
  have h4 : g_check_rows_8896c [.tup (h.map tI), .tup ((backL t).map tN)] = exR k := h4
  unfold exR at h4
  unfold g_Graph__init___c7e29 m_Graph__init___c7e29 inI
  repeat (first | walk_at "vm" | rw [if_pos (by omega)] | rw [h1] | rw [h2] | rw [show isNon (.tup (h.map tI)) = false from rfl] | rw [h4])
  rfl
end Sh

namespace Sh
open PySem VM L2
theorem bF {x y : Int} (h : x ≠ y) : (x == y) = false := beq_false_of_ne h
theorem bT {x y : Int} (h : x = y) : (x == y) = true := beq_iff_eq.mpr h
theorem graph_badN {c : List (Option Int)} {rot : D} {way : Int} {k : Nat} (hn : c.length ≤ 1600) (h : fbN c = some k) : g__law_graph_699c0 [.lst (c.map oI), rot, .int way] = exN k := by
  have h1 := fun r => init_badN (rot := r) hn h
  unfold g__law_graph_699c0 m__law_graph_699c0
  have e1 : newD "Graph" g_Graph__init___c7e29 [.non] [.tup (c.map oI)] = exN k := by
    show (g_Graph__init___c7e29 [.tup (c.map oI), .non]).bind _ = _
    rw [h1]
    rfl
  have e2 : ∀ r, newQ "Graph" 2 g_Graph__init___c7e29 [0, 1] [.non] [.tup (c.map oI), r] = exN k := fun r => by
    show (g_Graph__init___c7e29 [.tup (c.map oI), r]).bind _ = _
    rw [h1]
    rfl
  unfold exN at e1 e2 ⊢
  by_cases w0 : way = 0
  · subst w0
    repeat (first | walk_at "vm" | rw [if_pos (by omega)] | rw [eqD_int] | rw [bT (rfl : (0 : Int) = 0)] | rw [h1] | rw [e1])
  · by_cases w1 : way = 1
    · subst w1
      repeat (first | walk_at "vm" | rw [if_pos (by omega)] | rw [eqD_int] | rw [bF (show (1 : Int) ≠ 0 by decide)] | rw [bT (rfl : (1 : Int) = 1)] | rw [e2])
    · repeat (first | walk_at "vm" | rw [if_pos (by omega)] | rw [eqD_int] | rw [bF w0] | rw [bF w1] | rw [e2])
theorem graph_badR {c : List (Option Int)} {h : List (List Int)} {way : Int} {k : Nat} (hn : c.length ≤ 1600) (hl : h.length = c.length) (e : fbN c = none) (hw : 1 < way) (er : fbR (backL (c.map toN)) h = some k) : g__law_graph_699c0 [.lst (c.map oI), .tup (h.map tI), .int way] = exR k := by
  obtain ⟨ht, e0⟩ := good_tab e
  have h1 := init_badR ht hn hl er
  unfold g__law_graph_699c0 m__law_graph_699c0
  rw [e0]
  have e2 : newQ "Graph" 2 g_Graph__init___c7e29 [0, 1] [.non] [.tup ((c.map toN).map oD), .tup (h.map tI)] = exR k := by
    show (g_Graph__init___c7e29 [.tup ((c.map toN).map oD), .tup (h.map tI)]).bind _ = _
    rw [h1]
    rfl
  unfold exR at e2 ⊢
  repeat (first | walk_at "vm" | rw [if_pos (by omega)] | rw [eqD_int] | rw [bF (show way ≠ 0 by omega)] | rw [bF (show way ≠ 1 by omega)] | rw [e2])
theorem graph_good {t : List (Option Nat)} {n : Nat} {rs : List (List Nat)} {rot : D} {way : Int} (ht : TabOk t n) (hn : n ≤ 1600) (hr : way < 2 ∧ 0 ≤ way ∧ rs = plainL (backL t) ∨ 1 < way ∧ rot = .tup (rs.map tN) ∧ RowsP rs (backL t)) : g__law_graph_699c0 [.lst (t.map oD), rot, .int way] = .ok ⟨true, gO t rs (backL t)⟩ := by
  unfold g__law_graph_699c0 m__law_graph_699c0
  rcases hr with ⟨hw, hw0, hr⟩ | ⟨hw, hr, hp⟩
  · have h1 := init_ok' t n ht hn .non rs (Or.inl ⟨rfl, hr⟩)
    have e1 : newD "Graph" g_Graph__init___c7e29 [.non] [.tup (t.map oD)] = .ok ⟨true, gO t rs (backL t)⟩ := by
      show (g_Graph__init___c7e29 [.tup (t.map oD), .non]).bind _ = _
      rw [h1]
      rfl
    have e2 : newQ "Graph" 2 g_Graph__init___c7e29 [0, 1] [.non] [.tup (t.map oD), .non] = .ok ⟨true, gO t rs (backL t)⟩ := by
      show (g_Graph__init___c7e29 [.tup (t.map oD), .non]).bind _ = _
      rw [h1]
      rfl
    by_cases w0 : way = 0
    · subst w0
      repeat (first | walk_at "vm" | rw [if_pos (by omega)] | rw [eqD_int] | rw [bT (rfl : (0 : Int) = 0)] | rw [h1] | rw [e1])
    · have w1 : way = 1 := by omega
      subst w1
      repeat (first | walk_at "vm" | rw [if_pos (by omega)] | rw [eqD_int] | rw [bF (show (1 : Int) ≠ 0 by decide)] | rw [bT (rfl : (1 : Int) = 1)] | rw [e2])
  · have h1 := init_ok' t n ht hn rot rs (Or.inr ⟨hr, hp⟩)
    have e2 : newQ "Graph" 2 g_Graph__init___c7e29 [0, 1] [.non] [.tup (t.map oD), rot] = .ok ⟨true, gO t rs (backL t)⟩ := by
      show (g_Graph__init___c7e29 [.tup (t.map oD), rot]).bind _ = _
      rw [h1]
      rfl
    repeat (first | walk_at "vm" | rw [if_pos (by omega)] | rw [eqD_int] | rw [bF (show way ≠ 0 by omega)] | rw [bF (show way ≠ 1 by omega)] | rw [e2])
end Sh

namespace Sh
open PySem VM L2
theorem xl_n (d : D) : xlk ["BadGraph"] "node" (.xob "BadGraph" [("node", d)]) = .ok ⟨false, d⟩ := rfl
theorem xl_a (d : D) : xlk ["BadText", "BadRotation", "BadSnapshot"] "at" (.xob "BadRotation" [("at", d)]) = .ok ⟨false, d⟩ := rfl
theorem dueP_N {c : List (Option Int)} {h : List (List Int)} {way : Int} {k : Nat} (e : fbN c = some k) : dueP c h way = (1, k) := by
  unfold dueP
  rw [e]
theorem dueP_R {c : List (Option Int)} {h : List (List Int)} {way : Int} {k : Nat} (e : fbN c = none) (hw : 1 < way) (er : fbR (backL (c.map toN)) h = some k) : dueP c h way = (2, k) := by
  unfold dueP
  simp only [e, er, if_pos hw]
theorem dueP_0 {c : List (Option Int)} {h : List (List Int)} {way : Int} (e : fbN c = none) (er : ¬ 1 < way ∨ fbR (backL (c.map toN)) h = none) : dueP c h way = (0, 0) := by
  unfold dueP
  by_cases hw : 1 < way
  · have er : fbR (backL (c.map toN)) h = none := by
      rcases er with er | er
      · exact absurd hw er
      · exact er
    simp only [e, er, if_pos hw]
  · simp only [e, if_neg hw]
section
variable {c : List (Option Int)} {h : List (List Int)} {way : Int}
theorem told_good {t : List (Option Nat)} {n : Nat} {rs : List (List Nat)} {rot : D} (ht : TabOk t n) (hn1 : 1 ≤ n) (hn : n ≤ 1600) (hr : way < 2 ∧ 0 ≤ way ∧ rs = plainL (backL t) ∨ 1 < way ∧ rot = .tup (rs.map tN) ∧ RowsP rs (backL t)) : g__law_told_5a9d2 [.lst (t.map oD), rot, .int way] = .ok ⟨false, pD (0, 0)⟩ := by
  have h1 := graph_good ht hn hr
  have hp : RowsP rs (backL t) := by
    rcases hr with ⟨_, _, rfl⟩ | ⟨_, _, h⟩
    · exact plain_p _
    · exact h
  have h2 := fields_ok (t := t) (n := n) (bs := backL t) (rs := rs) ⟨ht, hn1, hn, rfl, hp⟩
  have h3 := back_ok t n ht hn
  obtain ⟨rs', e1, e2, e3⟩ := rows_ok (backL t) 0 0 (by omega) (by rw [backL_len, ht.1]; exact hn) (backL_le t (by rw [ht.1]; exact hn))
  have e3 := e3 (by omega)
  subst e3
  unfold g__law_told_5a9d2 m__law_told_5a9d2
  rcases hr with ⟨hw, _, rfl⟩ | ⟨hw, rfl, _⟩
  · repeat (first | walk_at "vm" | rw [if_pos (by omega)] | rw [h1] | rw [dT hw] | rw [h3] | rw [e1] | rw [h2] | rw [ix1])
    rfl
  · repeat (first | walk_at "vm" | rw [if_pos (by omega)] | rw [h1] | rw [dF (show ¬ way < 2 by omega)] | rw [h2] | rw [ix1])
    rfl
theorem told_spec (h1 : 1 ≤ c.length) (hn : c.length ≤ 1600) (hl : h.length = c.length) (hw : 0 ≤ way) : ∃ b, g__law_told_5a9d2 [.lst (c.map oI), .tup (h.map tI), .int way] = .ok ⟨b, pD (dueP c h way)⟩ := by
  cases e : fbN c with
  | some k =>
    refine ⟨true, ?_⟩
    rw [dueP_N e]
    have g := graph_badN (rot := .tup (h.map tI)) (way := way) hn e
    unfold exN at g
    unfold g__law_told_5a9d2 m__law_told_5a9d2
    repeat (first | walk_at "vm" | rw [if_pos (by omega)] | rw [g])
    rw [hd_yes (by rfl)]
    repeat (first | walk_at "vm" | rw [if_pos (by omega)] | rw [xl_n])
    rfl
  | none =>
    obtain ⟨ht, e0⟩ := good_tab e
    by_cases w2 : 1 < way
    · cases er : fbR (backL (c.map toN)) h with
      | some k =>
        refine ⟨true, ?_⟩
        rw [dueP_R e w2 er]
        have g := graph_badR hn hl e w2 er
        unfold exR at g
        unfold g__law_told_5a9d2 m__law_told_5a9d2
        repeat (first | walk_at "vm" | rw [if_pos (by omega)] | rw [g])
        rw [hd_no (by rfl), hd_yes (by rfl)]
        repeat (first | walk_at "vm" | rw [if_pos (by omega)] | rw [xl_a])
        rfl
      | none =>
        obtain ⟨rs, e1, e2⟩ := good_rows (by rw [backL_len, List.length_map, hl]) er
        refine ⟨false, ?_⟩
        rw [dueP_0 e (Or.inr er), e0, e1]
        exact told_good ht h1 hn (Or.inr ⟨w2, rfl, e2⟩)
    · refine ⟨false, ?_⟩
      rw [dueP_0 e (Or.inl w2), e0]
      exact told_good ht h1 hn (Or.inl ⟨by omega, hw, rfl⟩)
theorem class_spec (h1 : 1 ≤ c.length) (hn : c.length ≤ 1600) (hl : h.length = c.length) (hw : 0 ≤ way) : ∃ b, g__law_class_ba2e6 [.lst (c.map oI), .tup (h.map tI), .int way] = .ok ⟨b, .int ((dueP c h way).1 : Int)⟩ := by
  cases e : fbN c with
  | some k =>
    refine ⟨false, ?_⟩
    rw [dueP_N e]
    have g := graph_badN (rot := .tup (h.map tI)) (way := way) hn e
    unfold exN at g
    unfold g__law_class_ba2e6 m__law_class_ba2e6
    repeat (first | walk_at "vm" | rw [if_pos (by omega)] | rw [g])
    rw [hd_yes (by rfl)]
    repeat (first | walk_at "vm" | rw [xis_at (b := true) (by rfl)] | rw [xis_at (b := false) (by rfl)])
    rfl
  | none =>
    obtain ⟨ht, e0⟩ := good_tab e
    by_cases w2 : 1 < way
    · cases er : fbR (backL (c.map toN)) h with
      | some k =>
        refine ⟨false, ?_⟩
        rw [dueP_R e w2 er]
        have g := graph_badR hn hl e w2 er
        unfold exR at g
        unfold g__law_class_ba2e6 m__law_class_ba2e6
        repeat (first | walk_at "vm" | rw [if_pos (by omega)] | rw [g])
        rw [hd_yes (by rfl)]
        repeat (first | walk_at "vm" | rw [xis_at (b := true) (by rfl)] | rw [xis_at (b := false) (by rfl)])
        rfl
      | none =>
        obtain ⟨rs, e1, e2⟩ := good_rows (by rw [backL_len, List.length_map, hl]) er
        have g := graph_good (rot := .tup (rs.map tN)) (way := way) ht hn (Or.inr ⟨w2, rfl, e2⟩)
        refine ⟨false, ?_⟩
        rw [dueP_0 e (Or.inr er), e0, e1]
        unfold g__law_class_ba2e6 m__law_class_ba2e6
        repeat (first | walk_at "vm" | rw [if_pos (by omega)] | rw [g])
        rfl
    · have g := graph_good (rot := .tup (h.map tI)) (way := way) ht hn (Or.inl ⟨by omega, hw, rfl⟩)
      refine ⟨false, ?_⟩
      rw [dueP_0 e (Or.inl w2), e0]
      unfold g__law_class_ba2e6 m__law_class_ba2e6
      repeat (first | walk_at "vm" | rw [if_pos (by omega)] | rw [g])
      rfl
theorem fielded_ok (n k : Int) : ∃ b, g__law_fielded_68063 [.int n, .int k] = .ok ⟨b, .bl true⟩ := by
  refine ⟨false, ?_⟩
  have q1 : ∀ d, xnewQ "BadGraph" ["node"] [0] [d] = .ok ⟨false, .xob "BadGraph" [("node", d)]⟩ := fun d => rfl
  have q2 : ∀ d, xnewQ "BadRotation" ["at"] [0] [d] = .ok ⟨false, .xob "BadRotation" [("at", d)]⟩ := fun d => rfl
  have e := neD_lI [n, k, k, n] [n, k, k, n]
  have al : allD [.lst [.bl true, .bl true, .bl true, .bl true]] = .ok ⟨false, .bl true⟩ := allD_t [n, k, k, n]
  have e2 : eqD (.lst [.int n, .int k, .int k, .int n]) (.lst [.int n, .int k, .int k, .int n]) = .ok ⟨false, .bl true⟩ := by
    have e := cmp_lI [n, k, k, n]
    have e3 := eqvAll_int [n, k, k, n] [n, k, k, n]
    unfold eqD
    simp only [List.map_cons, List.map_nil] at e e3
    simp only [e, Bool.and_self, if_true, D.eqv, e3, decide_true]
    rfl
  unfold g__law_fielded_68063 m__law_fielded_68063
  repeat (first | walk_at "vm" | rw [if_pos (by omega)] | rw [q1] | rw [q2] | rw [xl_n] | rw [xl_a])
  rw [lcL_map (fun _ => .bl true)]
  · repeat (first | walk_at "vm" | rw [if_pos (by omega)] | rw [al] | rw [e2])
    done
  · intro d hd
    simp only [List.mem_cons, List.not_mem_nil, or_false] at hd
    rcases hd with rfl | rfl | rfl | rfl <;> (repeat (first | walk_at "vm" | rw [if_pos (by omega)] | rw [whole_ok]))
end
end Sh

namespace Sh
open PySem VM L2
theorem in_int (neg : Bool) (z : Int) (r : List Int) : inD neg (.int z) (.tup (r.map D.int)) = .ok ⟨false, .bl (xor neg (r.contains z))⟩ := by
  have h := cmp_tI r
  unfold tI at h
  have e : anyEq (.int z) (r.map D.int) = r.contains z := by
    clear h
    unfold anyEq
    induction r with
    | nil => rfl
    | cons x r ih =>
      rw [List.map_cons, List.any_cons, ih, List.contains_cons]
      simp only [D.eqv]
      rw [show (z == x) = (x == z) from Bool.beq_comm]
  unfold inD
  have hz : (D.int z).cmpOk = true := by simp [D.cmpOk, D.flat, D.dep]
  simp only [h, hz, Bool.and_self, if_true, e]
  rfl
section
variable {c : List (Option Int)} {h : List (List Int)} {way : Int}
theorem due_spec (hn : c.length ≤ 1600) (hl : h.length = c.length) : g__law_due_a3c36 [.lst (c.map oI), .tup (h.map tI), .int way] = .ok ⟨true, pD (dueP c h way)⟩ := by
  suffices hh : Gives (g__law_due_a3c36 [.lst (c.map oI), .tup (h.map tI), .int way]) (fun z => z = ⟨true, pD (dueP c h way)⟩) from hh.eq
  unfold g__law_due_a3c36 m__law_due_a3c36
  refine gives_fin ?_
  refine wp_cut (fun S => S = [.fz (.lst (c.map oI)), .fz (.tup (h.map tI)), .fz (.int way), .no, .no, .no, .no] ∧ fbN c = none) ?_ ?_
  · repeat (first | walk_at "vm" | rw [if_pos (by omega)] | rw [List.length_map])
    rw [Int.toNat_natCast]
    refine wp_for (fun i S => S = [.fz (.lst (c.map oI)), .fz (.tup (h.map tI)), .fz (.int way), .no, .no, .no, .no] ∧ ∀ j, j < i → badN c.length (c[j]?.getD none) = false) ⟨rfl, fun j hj => absurd hj (Nat.not_lt_zero _)⟩ ?_ ?_
    rotate_left
    · rintro S ⟨rfl, hb⟩
      rw [rangeL_len] at hb
      exact ⟨rfl, fst_none hb⟩
    rintro i d S hd ⟨rfl, hb⟩
    obtain ⟨hi, rfl⟩ := rangeL_get hd
    rw [show (0 : Int) + (i : Int) = (i : Int) by omega]
    have et := atI_oI hi
    have eg : c[i]?.getD none = c[i] := by rw [List.getElem?_eq_getElem hi]; rfl
    have nxt : badN c.length c[i] = false → ∀ j, j < i + 1 → badN c.length (c[j]?.getD none) = false := fun h j hj => by
      rcases Nat.lt_succ_iff_lt_or_eq.mp hj with z | z
      · exact hb j z
      · rw [z, eg]
        exact h
    have ex : badN c.length c[i] = true → (⟨true, .lst [.int 1, .int (i : Int)]⟩ : R) = ⟨true, pD (dueP c h way)⟩ := fun hb2 => by
      have e : fbN c = some i := fst_some hi (by rw [eg]; exact hb2) hb
      rw [dueP_N e]
      rfl
    cases hc : c[i] with
    | none =>
      rw [hc] at et
      repeat (first | walk_at "vm" | rw [if_pos (by omega)] | rw [et] | rw [isD_oI])
      exact ⟨by trivial, nxt (by rw [hc]; rfl)⟩
    | some z =>
      rw [hc] at et
      have e0 : oI (some z) = .int z := rfl
      rw [e0] at et
      by_cases h0 : z < 0
      · repeat (first | walk_at "vm" | rw [if_pos (by omega)] | rw [et] | rw [dT h0])
        exact ex (by rw [hc]; show (decide (z < 0) || decide ((c.length : Int) ≤ z)) = true; rw [dT h0, Bool.true_or])
      · by_cases h1 : (c.length : Int) ≤ z
        · repeat (first | walk_at "vm" | rw [if_pos (by omega)] | rw [et] | rw [dF h0] | rw [List.length_map] | rw [dT h1])
          exact ex (by rw [hc]; show (decide (z < 0) || decide ((c.length : Int) ≤ z)) = true; rw [dT h1, Bool.or_true])
        · repeat (first | walk_at "vm" | rw [if_pos (by omega)] | rw [et] | rw [dF h0] | rw [List.length_map] | rw [dF h1])
          exact ⟨by trivial, nxt (by rw [hc]; show (decide (z < 0) || decide ((c.length : Int) ≤ z)) = false; rw [dF h0, dF h1]; rfl)⟩
  rintro _ ⟨rfl, hN⟩
  obtain ⟨ht, e0⟩ := good_tab hN
  have h3 := back_ok (c.map toN) c.length ht hn
  have lt : (c.map toN).length = c.length := ht.1
  refine wp_cut (fun S => S = [.fz (.lst (c.map oI)), .fz (.tup (h.map tI)), .fz (.int way), .no, .fz (.lst ((backL (c.map toN)).map lN)), .no, .no]) ?_ ?_
  · rw [← e0] at h3
    repeat (first | walk_at "vm" | rw [if_pos (by omega)] | rw [h3])
  rintro _ rfl
  have hle := backL_le (c.map toN) (by rw [lt]; exact hn)
  have lb : (backL (c.map toN)).length = c.length := by rw [backL_len, lt]
  generalize hbs : backL (c.map toN) = bs at *
  refine wp_cut (fun S => S = [.fz (.lst (c.map oI)), .fz (.tup (h.map tI)), .fz (.int way), .no, .fz (.lst (bs.map lN)), .no, .no] ∧ (¬ 1 < way ∨ fbR bs h = none)) ?_ ?_
  · repeat (first | walk_at "vm" | rw [if_pos (by omega)] | rw [List.length_map])
    rw [Int.toNat_natCast]
    refine wp_for (fun i S => S = [.fz (.lst (c.map oI)), .fz (.tup (h.map tI)), .fz (.int way), .no, .fz (.lst (bs.map lN)), .no, .no] ∧ (1 < way → ∀ j, j < i → badR ((bs[j]?.getD []).length + 1) (h[j]?.getD []) = false)) ⟨rfl, fun _ j hj => absurd hj (Nat.not_lt_zero _)⟩ ?_ ?_
    rotate_left
    · rintro S ⟨rfl, hb⟩
      rw [rangeL_len] at hb
      refine ⟨rfl, ?_⟩
      by_cases hw : 1 < way
      · exact Or.inr (fst_none (by rw [lb]; exact hb hw))
      · exact Or.inl hw
    rintro i d S hd ⟨rfl, hb⟩
    obtain ⟨hi, rfl⟩ := rangeL_get hd
    rw [show (0 : Int) + (i : Int) = (i : Int) by omega]
    have hi : i < c.length := hi
    have hib : i < bs.length := by omega
    have hih : i < h.length := by omega
    have hbl := hle bs[i] (List.getElem_mem _)
    have er : atI (h.map tI) (i : Int) = some (.tup (h[i].map D.int)) := atI_map' hih
    have eb : atI (bs.map lN) (i : Int) = some (lN bs[i]) := atI_map' hib
    have eg : h[i]?.getD [] = h[i] := by rw [List.getElem?_eq_getElem hih]; rfl
    have eg2 : bs[i]?.getD [] = bs[i] := by rw [List.getElem?_eq_getElem hib]; rfl
    have e : ((nsD bs[i]).length : Int) + 1 = ((bs[i].length + 1 : Nat) : Int) := by simp [nsD]
    have e2 : ((bs[i].length + 1 : Nat) : Int).toNat = bs[i].length + 1 := by omega
    have eI : ((h[i].map D.int).length : Int) = (h[i].length : Int) := by rw [List.length_map]
    repeat (first | walk_at "vm" | rw [if_pos (by omega)] | rw [eb] | rw [e] | rw [e2] | rw [rangeL0])
    rw [lcL_filter (fun d => match d with | .int z => !h[i].contains z | _ => false) (fun d => d)]
    rotate_left
    · intro d hd
      obtain ⟨t, _, rfl⟩ := List.mem_map.mp hd
      refine ⟨_, rfl, ?_, fun _ => ?_⟩
      · repeat (first | walk_at "vm" | rw [if_pos (by omega)] | rw [er] | rw [in_int])
      · repeat (first | walk_at "vm" | rw [if_pos (by omega)] | rw [er])
    have ef : ((nsD (List.range (bs[i].length + 1))).filter (fun d => match d with | .int z => !h[i].contains z | _ => false)).map (fun d => d) = nsD ((List.range (bs[i].length + 1)).filter fun t : Nat => !h[i].contains (t : Int)) := by
      rw [List.map_id']
      unfold nsD
      rw [List.filter_map]
      rfl
    rw [ef]
    have rm := row_missing (r := h[i]) (m := bs[i].length + 1)
    generalize hmiss : (List.range (bs[i].length + 1)).filter (fun t : Nat => !h[i].contains (t : Int)) = ms at rm
    have hml : ms.length ≤ 1601 := by
      rw [← hmiss]
      exact Nat.le_trans (List.length_filter_le _ _) (by rw [List.length_range]; omega)
    have eM : ((nsD ms).length : Int) = (ms.length : Int) := by simp [nsD]
    have hml2 : (nsD ms).length ≤ 1601 := by simpa [nsD] using hml
    by_cases hw : 1 < way
    · have stop : badR (bs[i].length + 1) h[i] = true → (⟨true, .lst [.int 2, .int (i : Int)]⟩ : R) = ⟨true, pD (dueP c h way)⟩ := fun hb2 => by
        have e : fbR bs h = some i := fst_some hib (by rw [eg, eg2]; exact hb2) (hb hw)
        rw [← hbs] at e
        rw [dueP_R hN hw e]
        rfl
      by_cases hm : 0 < ms.length
      · repeat (first | walk_at "vm" | rw [if_pos (by omega)] | rw [eM] | rw [dT hw] | rw [dT (show (0 : Int) < (ms.length : Int) by omega)])
        exact stop (by rw [← rm, dT hm, Bool.true_or])
      · rw [dF hm, Bool.false_or] at rm
        have e5 : decide ((h[i].length : Int) = ((bs[i].length + 1 : Nat) : Int)) = decide (h[i].length = bs[i].length + 1) := decide_eq_decide.mpr (by omega)
        by_cases hlen : h[i].length = bs[i].length + 1
        · have e6 : neD (.int (h[i].length : Int)) (.int ((bs[i].length + 1 : Nat) : Int)) = .ok ⟨false, .bl false⟩ := by rw [hlen]; exact ne_self _
          repeat (first | walk_at "vm" | rw [if_pos (by omega)] | rw [eM] | rw [dT hw] | rw [dF (show ¬ (0 : Int) < (ms.length : Int) by omega)] | rw [er] | rw [eI] | rw [eb] | rw [e] | rw [e6])
          refine ⟨by trivial, fun _ j hj => ?_⟩
          rcases Nat.lt_succ_iff_lt_or_eq.mp hj with z | z
          · exact hb hw j z
          · rw [z, eg, eg2, ← rm, dT hlen]
            rfl
        · have e6 : neD (.int (h[i].length : Int)) (.int ((bs[i].length + 1 : Nat) : Int)) = .ok ⟨false, .bl true⟩ := by
            rw [neD_int]
            rw [bF (show ((h[i].length : Nat) : Int) ≠ ((bs[i].length + 1 : Nat) : Int) by omega)]
            rfl
          repeat (first | walk_at "vm" | rw [if_pos (by omega)] | rw [eM] | rw [dT hw] | rw [dF (show ¬ (0 : Int) < (ms.length : Int) by omega)] | rw [er] | rw [eI] | rw [eb] | rw [e] | rw [e6])
          exact stop (by rw [← rm, dF hlen]; rfl)
    · repeat (first | walk_at "vm" | rw [if_pos (by omega)] | rw [dF hw])
      exact ⟨by trivial, fun hw2 => absurd hw2 hw⟩
  rintro _ ⟨rfl, hR⟩
  rw [← hbs] at hR
  have e := dueP_0 (c := c) (h := h) (way := way) hN hR
  rw [e]
  repeat (first | walk_at "vm" | rw [if_pos (by omega)])
  rfl
end
end Sh

namespace Sh
open PySem VM L2
theorem a30 (a b c : D) : atI [a, b, c] 0 = some a := rfl
theorem a31 (a b c : D) : atI [a, b, c] 1 = some b := rfl
theorem a32 (a b c : D) : atI [a, b, c] 2 = some c := rfl
theorem a60 (a b c d e f : D) : atI [a, b, c, d, e, f] 0 = some a := rfl
theorem a61 (a b c d e f : D) : atI [a, b, c, d, e, f] 1 = some b := rfl
theorem a62 (a b c d e f : D) : atI [a, b, c, d, e, f] 2 = some c := rfl
theorem a63 (a b c d e f : D) : atI [a, b, c, d, e, f] 3 = some d := rfl
theorem a64 (a b c d e f : D) : atI [a, b, c, d, e, f] 4 = some e := rfl
theorem a65 (a b c d e f : D) : atI [a, b, c, d, e, f] 5 = some f := rfl
theorem hnext_ok (kind n site wild : Int) (h0 : 0 ≤ kind) (h1 : kind < 10) : ∃ o : Option Int, g__law_harmed_next_bd52d [.int kind, .int n, .int site, .int wild] = .ok ⟨false, oI o⟩ := by
  suffices h : Gives (g__law_harmed_next_bd52d [.int kind, .int n, .int site, .int wild]) (fun z => ∃ o : Option Int, z = ⟨false, oI o⟩) by
    obtain ⟨z, e, o, rfl⟩ := h.ex
    exact ⟨o, e⟩
  unfold g__law_harmed_next_bd52d m__law_harmed_next_bd52d
  refine gives_fin ?_
  rcases (show kind = 0 ∨ kind = 1 ∨ kind = 2 ∨ kind = 3 ∨ kind = 4 ∨ kind = 5 ∨ kind = 6 ∨ kind = 7 ∨ kind = 8 ∨ kind = 9 by omega) with rfl | rfl | rfl | rfl | rfl | rfl | rfl | rfl | rfl | rfl
  all_goals repeat (first | walk_at "vm" | rw [if_pos (by omega)] | rw [eqD_int] | rw [a30] | rw [a31] | rw [a32] | simp only [Int.reduceBEq, Int.reduceSub])
  all_goals first | exact ⟨some _, rfl⟩ | exact ⟨none, rfl⟩
def AllI (ds : List D) : Prop := ∃ r : List Int, ds = r.map D.int
theorem AllI.app {a b : List D} (h : AllI a) (g : AllI b) : AllI (a ++ b) := by
  obtain ⟨r, rfl⟩ := h
  obtain ⟨s, rfl⟩ := g
  exact ⟨r ++ s, by rw [List.map_append]⟩
theorem AllI.cut {a : List D} (h : AllI a) (lo hi : Option Int) : AllI (cutL a lo hi) := by
  obtain ⟨r, rfl⟩ := h
  refine ⟨cutL r lo hi, ?_⟩
  unfold cutL
  rw [List.length_map, List.map_take, List.map_drop]
theorem AllI.one (z : Int) : AllI [.int z] := ⟨[z], rfl⟩
theorem AllI.nil : AllI [] := ⟨[], rfl⟩
theorem AllI.rev {a : List D} (h : AllI a) : AllI a.reverse := by
  obtain ⟨r, rfl⟩ := h
  exact ⟨r.reverse, by rw [List.map_reverse]⟩
theorem AllI.fin {a : List D} (h : AllI a) : ∃ r : List Int, (⟨false, .tup a⟩ : R) = ⟨false, tI r⟩ := by
  obtain ⟨r, rfl⟩ := h
  exact ⟨r, rfl⟩
theorem hrow_ok (kind : Int) (row other : List Int) (at' : Int) (wild : Int) (h0 : 0 ≤ kind) (h1 : kind < 14) (a0 : 0 ≤ at') (a1 : at' < row.length) (hr : row.length ≤ 1700) :
    ∃ r : List Int, g__law_harmed_row_beab3 [.int kind, tI row, tI other, .int at', .int wild] = .ok ⟨false, tI r⟩ := by
  suffices h : Gives (g__law_harmed_row_beab3 [.int kind, tI row, tI other, .int at', .int wild]) (fun z => ∃ r : List Int, z = ⟨false, tI r⟩) by
    obtain ⟨z, e, o, rfl⟩ := h.ex
    exact ⟨o, e⟩
  unfold g__law_harmed_row_beab3 m__law_harmed_row_beab3 tI
  refine gives_fin ?_
  have R : AllI (row.map D.int) := ⟨row, rfl⟩
  have O : AllI (other.map D.int) := ⟨other, rfl⟩
  have len : (row.map D.int).length = row.length := List.length_map ..
  obtain ⟨k, rfl⟩ : ∃ k : Nat, at' = (k : Int) := ⟨at'.toNat, by omega⟩
  have e1 : atI (row.map D.int) (k : Int) = some (.int (row[k]'(by omega))) := atI_map' (by omega)
  generalize hx : row[k]'(by omega) = x at e1
  have hm : 0 ≤ ((k : Int) + 1) % (row.length : Int) ∧ ((k : Int) + 1) % (row.length : Int) < row.length := ⟨Int.emod_nonneg _ (by omega), Int.emod_lt_of_pos _ (by omega)⟩
  obtain ⟨y, e2⟩ : ∃ y, atI (row.map D.int) (((k : Int) + 1) % (row.length : Int)) = some (.int y) := by
    obtain ⟨j, hj⟩ : ∃ j : Nat, ((k : Int) + 1) % (row.length : Int) = (j : Int) := ⟨(((k : Int) + 1) % (row.length : Int)).toNat, by omega⟩
    rw [hj] at hm ⊢
    exact ⟨_, atI_map' (show j < row.length by omega)⟩
  have c1 : ∀ lo hi, (cutL (row.map D.int) lo hi).length ≤ row.length := fun lo hi => by
    have := cutL_le (row.map D.int) lo hi
    omega
  have c2 := c1 none (some (k : Int))
  have c3 := c1 (some ((k : Int) + 1)) none
  have c4 := c1 (some (k : Int)) none
  rcases (show kind = 0 ∨ kind = 1 ∨ kind = 2 ∨ kind = 3 ∨ kind = 4 ∨ kind = 5 ∨ kind = 6 ∨ kind = 7 ∨ kind = 8 ∨ kind = 9 ∨ kind = 10 ∨ kind = 11 ∨ kind = 12 ∨ kind = 13 by omega) with rfl | rfl | rfl | rfl | rfl | rfl | rfl | rfl | rfl | rfl | rfl | rfl | rfl | rfl
  all_goals repeat (first | walk_at "vm" | rw [if_pos (by omega)] | rw [eqD_int] | rw [e1] | rw [len] | rw [mod_pos (show (0 : Int) < row.length by omega)] | rw [e2] | rw [a60] | rw [a61] | rw [a62] | rw [a63] | rw [a64] | rw [a65] | rw [List.length_append] | simp only [Int.reduceBEq, Int.reduceSub, Int.reduceNeg, Option.map_some, Option.map_none])
  all_goals try (refine AllI.fin ?_; repeat (first | exact R | exact O | exact AllI.nil | exact AllI.one _ | exact AllI.cut R _ _ | exact R.rev | apply AllI.app))
  rw [lcL_map (fun d => match d with | .int z => .int (z + 1) | d => d)]
  · repeat (first | walk_at "vm" | rw [if_pos (by omega)] | rw [List.length_map] | rw [len])
    refine AllI.fin ⟨row.map fun z => z + 1, ?_⟩
    rw [List.map_map, List.map_map]
    rfl
  · intro d hd
    obtain ⟨z, _, rfl⟩ := List.mem_map.mp hd
    repeat (first | walk_at "vm" | rw [if_pos (by omega)])
    done
end Sh

namespace Sh
open PySem VM L2
theorem reach_ok (z : Int) : ∃ m : Int, 0 ≤ m ∧ g__law_reach_b40ea [.int z] = .ok ⟨false, .int m⟩ := by
  suffices h : Gives (g__law_reach_b40ea [.int z]) (fun r => ∃ m : Int, 0 ≤ m ∧ r = ⟨false, .int m⟩) by
    obtain ⟨z, e, o, h1, rfl⟩ := h.ex
    exact ⟨o, h1, e⟩
  unfold g__law_reach_b40ea m__law_reach_b40ea
  refine gives_fin ?_
  have p : powD (.int 10) (.int 18) = .ok ⟨false, .int 1000000000000000000⟩ := by rfl
  by_cases h : (1000000000000000000 : Int) ≤ z
  · repeat (first | walk_at "vm" | rw [if_pos (by omega)] | rw [p] | rw [dT h])
    exact ⟨_, by omega, rfl⟩
  · repeat (first | walk_at "vm" | rw [if_pos (by omega)] | rw [p] | rw [dF h] | rw [mod_pos (show (0 : Int) < 4 by decide)])
    exact ⟨_, Int.emod_nonneg _ (by decide), rfl⟩
theorem oIs_of {ds : List D} (h : ∀ d ∈ ds, ∃ o : Option Int, d = oI o) : ∃ t : List (Option Int), ds = t.map oI := by
  induction ds with
  | nil => exact ⟨[], rfl⟩
  | cons d ds ih =>
    obtain ⟨t, e⟩ := ih fun x hx => h x (List.mem_cons_of_mem _ hx)
    obtain ⟨o, rfl⟩ := h d List.mem_cons_self
    exact ⟨o :: t, by rw [List.map_cons, e]⟩
theorem anyn_ok (cell : Int) (n : Nat) (size shift : Int) (hn : n ≤ 1600) (hs : 0 ≤ size) : ∃ t : List (Option Int), t.length = n ∧ g__law_any_nexts_e3e0b [.int cell, .int (n : Int), .int size, .int shift] = .ok ⟨true, .lst (t.map oI)⟩ := by
  suffices h : Gives (g__law_any_nexts_e3e0b [.int cell, .int (n : Int), .int size, .int shift]) (fun z => ∃ t : List (Option Int), t.length = n ∧ z = ⟨true, .lst (t.map oI)⟩) by
    obtain ⟨z, e, o, h1, rfl⟩ := h.ex
    exact ⟨o, h1, e⟩
  obtain ⟨q, hq, lq, bq⟩ := digits_any cell (List.replicate n (size + 1)) (fun s hs => by rw [(List.mem_replicate.mp hs).2]; omega) (by rw [List.length_replicate]; omega)
  have lq2 : q.length = n := by rw [lq, List.length_replicate]
  rw [intsD_rep] at hq
  have liq : (intsD q).length = n := by rw [intsD, List.length_map, lq2]
  unfold g__law_any_nexts_e3e0b m__law_any_nexts_e3e0b
  refine gives_fin ?_
  repeat (first | walk_at "vm" | rw [if_pos (by omega)] | rw [mul_one_list (show n ≤ 100000 by omega)] | rw [hq])
  refine wp_rt_lc (fun d => ∃ o : Option Int, d = oI o) (by omega) ?_ ?_
  · intro d hd
    obtain ⟨i, hi⟩ := List.mem_iff_getElem?.mp hd
    obtain ⟨x, rfl, hx⟩ := map_int_get hi
    cases hxn : (x == size) with
    | true =>
      repeat (first | walk_at "vm" | rw [if_pos (by omega)] | rw [eqD_int] | rw [hxn] | rw [ix1])
      exact ⟨none, rfl⟩
    | false =>
      repeat (first | walk_at "vm" | rw [if_pos (by omega)] | rw [eqD_int] | rw [hxn] | rw [ix0])
      exact ⟨some _, rfl⟩
  · intro ys hy hP
    obtain ⟨t, rfl⟩ := oIs_of hP
    rw [List.length_map, liq] at hy
    exact ⟨t, hy, rfl⟩
theorem lsum_le {ds sizes : List Int} (hb : InBox ds sizes) (hl : ds.length = sizes.length) (B : Nat) (hs : ∀ s ∈ sizes, s ≤ B) : ∀ x ∈ ds, 0 ≤ x ∧ x < B := fun x hx => by
  obtain ⟨i, hi, rfl⟩ := List.getElem_of_mem hx
  have hi2 : i < sizes.length := by omega
  have := hb i ds[i] sizes[i] (List.getElem?_eq_getElem hi) (List.getElem?_eq_getElem hi2)
  have h2 := hs sizes[i] (List.getElem_mem _)
  omega
theorem anyr_ok (bs : List (List Nat)) (c1 c2 : Int) (h1 : bs.length ≤ 1600) (h2 : ∀ b ∈ bs, b.length ≤ 1600) : ∃ h : List (List Int), h.length = bs.length ∧ g__law_any_rows_12687 [.lst (bs.map lN), .int c1, .int c2] = .ok ⟨false, .tup (h.map tI)⟩ := by
  suffices h : Gives (g__law_any_rows_12687 [.lst (bs.map lN), .int c1, .int c2]) (fun z => ∃ h : List (List Int), h.length = bs.length ∧ z = ⟨false, .tup (h.map tI)⟩) by
    obtain ⟨z, e, o, h1, rfl⟩ := h.ex
    exact ⟨o, h1, e⟩
  obtain ⟨ds, hd, ld, bd⟩ := digits_any c1 (bs.map fun b => (b.length : Int) + 4) (fun s hs => by obtain ⟨b, _, rfl⟩ := List.mem_map.mp hs; omega) (by rw [List.length_map]; omega)
  have ld2 : ds.length = bs.length := by rw [ld, List.length_map]
  have hds := lsum_le bd ld 1604 (fun s hs => by obtain ⟨b, hb, rfl⟩ := List.mem_map.mp hs; have := h2 b hb; omega)
  unfold g__law_any_rows_12687 m__law_any_rows_12687
  refine gives_fin ?_
  refine wp_cut (fun S => S = [.fz (.lst (bs.map lN)), .fz (.int c1), .fz (.int c2), .own (.lst (intsD ds)), .no, .no, .no, .no, .no, .no, .no, .no, .no]) ?_ ?_
  · repeat (first | walk_at "vm" | rw [if_pos (by omega)])
    rw [lcL_map (fun d => match d with | .lst xs => .int ((xs.length : Int) + 4) | d => d)]
    · have e : (bs.map lN).map (fun d => match d with | .lst xs => D.int ((xs.length : Int) + 4) | d => d) = intsD (bs.map fun b => (b.length : Int) + 4) := by
        unfold intsD
        rw [List.map_map, List.map_map]
        refine List.map_congr_left fun b _ => ?_
        simp [nsD]
      rw [e]
      have e2 : (intsD (bs.map fun b => (b.length : Int) + 4)).length = bs.length := by simp [intsD]
      repeat (first | walk_at "vm" | rw [if_pos (by omega)] | rw [e2] | rw [hd])
    · intro d hd
      obtain ⟨b, hb, rfl⟩ := List.mem_map.mp hd
      repeat (first | walk_at "vm" | rw [if_pos (by omega)])
  rintro _ rfl
  refine wp_cut (fun S => S = [.fz (.lst (bs.map lN)), .fz (.int c1), .fz (.int c2), .own (.lst (intsD ds)), .no, .own (.lst []), .no, .no, .no, .no, .no, .no, .no]) ?_ ?_
  · repeat (first | walk_at "vm" | rw [if_pos (by omega)])
  rintro _ rfl
  refine wp_cut (fun S => ∃ zs : List Int, zs.length ≤ 1604 * bs.length ∧ (∀ s ∈ zs, 1 ≤ s) ∧ S = [.fz (.lst (bs.map lN)), .fz (.int c1), .fz (.int c2), .own (.lst (intsD ds)), .no, .own (.lst (intsD zs)), .no, .no, .no, .no, .no, .no, .no]) ?_ ?_
  · repeat (first | walk_at "vm" | rw [if_pos (by omega)] | rw [List.length_map])
    rw [Int.toNat_natCast]
    refine wp_for (fun i S => ∃ zs : List Int, zs.length ≤ 1604 * i ∧ (∀ s ∈ zs, 1 ≤ s) ∧ S = [.fz (.lst (bs.map lN)), .fz (.int c1), .fz (.int c2), .own (.lst (intsD ds)), .no, .own (.lst (intsD zs)), .no, .no, .no, .no, .no, .no, .no]) ⟨[], by simp, (fun s h => nomatch h), rfl⟩ ?_ ?_
    · rintro i d S hd ⟨zs, lz, hz, rfl⟩
      obtain ⟨hi, rfl⟩ := rangeL_get hd
      rw [show (0 : Int) + (i : Int) = (i : Int) by omega]
      have hi : i < bs.length := hi
      have hid : i < ds.length := by omega
      have hbl := h2 bs[i] (List.getElem_mem _)
      have hx := hds ds[i] (List.getElem_mem _)
      have e1 : atI (intsD ds) (i : Int) = some (.int ds[i]) := atI_map' hid
      have e2 : atI (bs.map lN) (i : Int) = some (lN bs[i]) := atI_map' hi
      repeat (first | walk_at "vm" | rw [if_pos (by omega)] | rw [e1])
      refine wp_for (fun k S => ∃ zs : List Int, zs.length ≤ 1604 * i + k ∧ (∀ s ∈ zs, 1 ≤ s) ∧ S = [.fz (.lst (bs.map lN)), .fz (.int c1), .fz (.int c2), .own (.lst (intsD ds)), .no, .own (.lst (intsD zs)), .fz (.int (i : Int)), .no, .no, .no, .no, .no, .no]) ⟨zs, lz, hz, rfl⟩ ?_ ?_
      · rintro k d S hd ⟨zs, lz, hz, rfl⟩
        obtain ⟨hk2, rfl⟩ := rangeL_get hd
        have liz : (intsD zs).length = zs.length := by rw [intsD, List.length_map]
        repeat (first | walk_at "vm" | rw [if_pos (by omega)] | rw [e2] | rw [liz])
        refine ⟨zs ++ [((nsD bs[i]).length : Int) + 3], by rw [List.length_append, List.length_singleton]; omega, fun s hs => ?_, by simp [intsD]⟩
        rcases List.mem_append.mp hs with h | h
        · exact hz s h
        · rw [List.mem_singleton.mp h]
          omega
      · rintro S ⟨zs, lz, hz, rfl⟩
        rw [rangeL_len] at lz
        refine ⟨zs, by omega, hz, ?_⟩
        repeat (first | walk_at "vm" | rw [if_pos (by omega)])
        done
    · rintro S ⟨zs, lz, hz, rfl⟩
      rw [rangeL_len] at lz
      exact ⟨zs, lz, hz, rfl⟩
  rintro _ ⟨zs, lz, hz, rfl⟩
  obtain ⟨g, hg, lg, _⟩ := digits_any c2 zs hz (by omega)
  refine wp_cut (fun S => S = [.fz (.lst (bs.map lN)), .fz (.int c1), .fz (.int c2), .own (.lst (intsD ds)), .no, .fz (.lst (intsD zs)), .no, .no, .own (.lst (intsD g)), .no, .no, .no, .no]) ?_ ?_
  · repeat (first | walk_at "vm" | rw [if_pos (by omega)] | rw [hg])
  rintro _ rfl
  refine wp_cut (fun S => S = [.fz (.lst (bs.map lN)), .fz (.int c1), .fz (.int c2), .own (.lst (intsD ds)), .no, .fz (.lst (intsD zs)), .no, .no, .own (.lst (intsD g)), .own (.lst []), .no, .no, .no]) ?_ ?_
  · repeat (first | walk_at "vm" | rw [if_pos (by omega)])
  rintro _ rfl
  refine wp_cut (fun S => S = [.fz (.lst (bs.map lN)), .fz (.int c1), .fz (.int c2), .own (.lst (intsD ds)), .no, .fz (.lst (intsD zs)), .no, .no, .own (.lst (intsD g)), .own (.lst []), .fz (.int 0), .no, .no]) ?_ ?_
  · repeat (first | walk_at "vm" | rw [if_pos (by omega)])
  rintro _ rfl
  refine wp_cut (fun S => ∃ h : List (List Int), h.length = bs.length ∧ ∃ z, S = [.fz (.lst (bs.map lN)), .fz (.int c1), .fz (.int c2), .fz (.lst (intsD ds)), .no, .fz (.lst (intsD zs)), .no, .no, .own (.lst (intsD g)), .own (.lst (h.map tI)), z, .no, .no]) ?_ ?_
  · repeat (first | walk_at "vm" | rw [if_pos (by omega)])
    refine wp_for (fun i S => ∃ h : List (List Int), h.length = i ∧ ∃ z : Int, S = [.fz (.lst (bs.map lN)), .fz (.int c1), .fz (.int c2), .fz (.lst (intsD ds)), .no, .fz (.lst (intsD zs)), .no, .no, .own (.lst (intsD g)), .own (.lst (h.map tI)), .fz (.int z), .no, .no]) ⟨[], rfl, 0, rfl⟩ ?_ ?_
    · rintro i d S hd ⟨h, lh, z, rfl⟩
      obtain ⟨x, rfl, hx⟩ := map_int_get hd
      have hid : i < ds.length := (List.getElem?_eq_some_iff.mp hx).1
      have cl := cutL_le (intsD g) (some z) (some (z + x))
      have lig : (intsD g).length = g.length := by rw [intsD, List.length_map]
      obtain ⟨r, hr⟩ := AllI.cut (a := intsD g) ⟨g, rfl⟩ (some z) (some (z + x))
      rw [hr] at cl
      repeat (first | walk_at "vm" | rw [if_pos (by omega)] | rw [hr])
      rw [lcL_map (fun d => match d with | .int z => .int (z - 1) | d => d)]
      · have lr : (List.map (fun d => match d with | .int z => D.int (z - 1) | d => d) (r.map D.int)).length = (r.map D.int).length := List.length_map ..
        repeat (first | walk_at "vm" | rw [if_pos (by omega)] | rw [lr] | rw [List.length_map])
        refine ⟨h ++ [r.map fun z => z - 1], by rw [List.length_append, List.length_singleton, lh], z + x, ?_⟩
        simp [tI]
      · intro d hd
        obtain ⟨z, _, rfl⟩ := List.mem_map.mp hd
        repeat (first | walk_at "vm" | rw [if_pos (by omega)])
        done
    · rintro S ⟨h, lh, z, rfl⟩
      have : (intsD ds).length = bs.length := by rw [intsD, List.length_map, ld2]
      exact ⟨h, by omega, _, rfl⟩
  rintro _ ⟨h, lh, z, rfl⟩
  repeat (first | walk_at "vm" | rw [if_pos (by omega)])
  exact ⟨h, lh, rfl⟩
end Sh

namespace Sh
open PySem VM L2
theorem ne_pD (p : Nat × Nat) : neD (pD p) (pD p) = .ok ⟨false, .bl false⟩ := by
  have h := neD_lI [(p.1 : Int), (p.2 : Int)] [(p.1 : Int), (p.2 : Int)]
  rw [decide_eq_true rfl] at h
  exact h
theorem eq_pD (p : Nat × Nat) : eqD (pD p) (pD p) = .ok ⟨false, .bl true⟩ := by
  have e := cmp_lI [(p.1 : Int), (p.2 : Int)]
  have e3 := eqvAll_int [(p.1 : Int), (p.2 : Int)] [(p.1 : Int), (p.2 : Int)]
  unfold eqD pD
  simp only [List.map_cons, List.map_nil] at e e3
  simp only [e, Bool.and_self, if_true, D.eqv, e3, decide_true]
  rfl
theorem pick_at {zs : List Int} {i : Int} {B : Int} (h0 : 0 ≤ i) (h1 : i < zs.length) (hB : ∀ z ∈ zs, 0 ≤ z ∧ z < B) : ∃ v, atI (intsD zs) i = some (.int v) ∧ 0 ≤ v ∧ v < B := by
  obtain ⟨k, rfl⟩ : ∃ k : Nat, i = (k : Int) := ⟨i.toNat, by omega⟩
  exact ⟨_, atI_map' (show k < zs.length by omega), hB _ (List.getElem_mem _)⟩
theorem tI_tN (ks : List Nat) : tN ks = tI (ks.map fun k : Nat => (k : Int)) := by
  show D.tup (nsD ks) = D.tup _
  rw [nsD_ints]
theorem setI {α : Type} {f : α → D} {c : List α} {k : Nat} {x : α} : (c.map f).set k (f x) = (c.set k x).map f := (List.map_set ..).symm
theorem law23 (ns : List Int) : g_law_bc23d [.scr ns] = .ok ⟨false, .bl true⟩ := by
  suffices h : Gives (g_law_bc23d [.scr ns]) (fun z => z = ⟨false, .bl true⟩) from h.eq
  unfold g_law_bc23d m_law_bc23d
  refine gives_fin ?_
  obtain ⟨c0, hc0⟩ := cellb_ok ns 0 (by decide) (by decide)
  obtain ⟨c4, hc4⟩ := cellb_ok ns 4 (by decide) (by decide)
  obtain ⟨c5, hc5⟩ := cellb_ok ns 5 (by decide) (by decide)
  obtain ⟨c18, hc18⟩ := cellb_ok ns 18 (by decide) (by decide)
  obtain ⟨c19, hc19⟩ := cellb_ok ns 19 (by decide) (by decide)
  obtain ⟨c20, hc20⟩ := cellb_ok ns 20 (by decide) (by decide)
  obtain ⟨c21, hc21⟩ := cellb_ok ns 21 (by decide) (by decide)
  obtain ⟨c22, hc22⟩ := cellb_ok ns 22 (by decide) (by decide)
  obtain ⟨r, hr, lr, br⟩ := digits_ok c0 [200, 14, 90, 400, 1600] (by simp) (by simp)
  have hr' : g__law_digits_c35f8 [.int c0, .lst [.int 200, .int 14, .int 90, .int 400, .int 1600]] = .ok ⟨true, .lst (intsD r)⟩ := hr
  obtain ⟨n, hn1, hn2, hmany⟩ := many_ok r lr br
  obtain ⟨t, htab, ht⟩ := table_ok ns n hn1 hn2
  have hback := back_ok t n ht hn2
  have lt := ht.1
  have lb : (backL t).length = n := by rw [backL_len, lt]
  have ble := backL_le t (by rw [lt]; exact hn2)
  obtain ⟨q, hq, lq, bq⟩ := digits_ok c4 [6, 8, 9, 9] (by simp) (by simp)
  have hq' : g__law_digits_c35f8 [.int c4, .lst [.int 6, .int 8, .int 9, .int 9]] = .ok ⟨true, .lst (intsD q)⟩ := hq
  obtain ⟨q0, e0, p0, s0⟩ := dig_at lq bq 0 6 (by decide) rfl
  obtain ⟨q1, e1, p1, s1⟩ := dig_at lq bq 1 8 (by decide) rfl
  obtain ⟨q2, e2, p2, s2⟩ := dig_at lq bq 2 9 (by decide) rfl
  obtain ⟨q3, e3, p3, s3⟩ := dig_at lq bq 3 9 (by decide) rfl
  obtain ⟨rs, hrs, hp, _⟩ := rows_ok (backL t) (2 + q1) c5 (by omega) (by rw [lb]; exact hn2) ble
  have lrs : rs.length = n := by rw [hp.1, lb]
  refine wp_cut (fun S => S = [.fz (.scr ns), .fz (.int (n : Int)), .no, .no, .no, .no, .no, .no, .no, .no, .no, .no, .no, .no, .no, .no]) ?_ ?_
  · repeat (first | walk_at "vm" | rw [if_pos (by omega)] | rw [hc0] | rw [hr'] | rw [hmany])
    done
  rintro _ rfl
  refine wp_cut (fun S => S = [.fz (.scr ns), .fz (.int (n : Int)), .own (.lst (t.map oD)), .no, .no, .no, .no, .no, .no, .no, .no, .no, .no, .no, .no, .no]) ?_ ?_
  · repeat (first | walk_at "vm" | rw [if_pos (by omega)] | rw [htab])
    done
  rintro _ rfl
  refine wp_cut (fun S => S = [.fz (.scr ns), .fz (.int (n : Int)), .fz (.lst (t.map oD)), .fz (.lst ((backL t).map lN)), .no, .no, .no, .no, .no, .no, .no, .no, .no, .no, .no, .no]) ?_ ?_
  · repeat (first | walk_at "vm" | rw [if_pos (by omega)] | rw [hback])
    done
  rintro _ rfl
  refine wp_cut (fun S => S = [.fz (.scr ns), .fz (.int (n : Int)), .fz (.lst (t.map oD)), .fz (.lst ((backL t).map lN)), .own (.lst (intsD q)), .no, .no, .no, .no, .no, .no, .no, .no, .no, .no, .no]) ?_ ?_
  · repeat (first | walk_at "vm" | rw [if_pos (by omega)] | rw [hc4] | rw [hq'])
    done
  rintro _ rfl
  refine wp_cut (fun S => S = [.fz (.scr ns), .fz (.int (n : Int)), .fz (.lst (t.map oD)), .fz (.lst ((backL t).map lN)), .own (.lst (intsD q)), .fz (.int q0), .no, .no, .no, .no, .no, .no, .no, .no, .no, .no]) ?_ ?_
  · repeat (first | walk_at "vm" | rw [if_pos (by omega)] | rw [e0])
    done
  rintro _ rfl
  refine wp_cut (fun S => S = [.fz (.scr ns), .fz (.int (n : Int)), .fz (.lst (t.map oD)), .fz (.lst ((backL t).map lN)), .own (.lst (intsD q)), .fz (.int q0), .fz (.tup (rs.map tN)), .no, .no, .no, .no, .no, .no, .no, .no, .no]) ?_ ?_
  · repeat (first | walk_at "vm" | rw [if_pos (by omega)] | rw [e1] | rw [hc5] | rw [hrs])
    done
  rintro _ rfl
  refine wp_cut (fun S => S = [.fz (.scr ns), .fz (.int (n : Int)), .fz (.lst (t.map oD)), .fz (.lst ((backL t).map lN)), .own (.lst (intsD q)), .fz (.int q0), .fz (.tup (rs.map tN)), .own (.lst (t.map oD)), .no, .no, .no, .no, .no, .no, .no, .no]) ?_ ?_
  · repeat (first | walk_at "vm" | rw [if_pos (by omega)])
    done
  rintro _ rfl
  refine wp_cut (fun S => ∃ (c : List (Option Int)) (z8 : Sl), c.length = n ∧ (∀ l, noRow (z8 :: l) = noRow l) ∧ S = [.fz (.scr ns), .fz (.int (n : Int)), .fz (.lst (t.map oD)), .fz (.lst ((backL t).map lN)), .own (.lst (intsD q)), .fz (.int q0), .fz (.tup (rs.map tN)), .own (.lst (c.map oI)), z8, .no, .no, .no, .no, .no, .no, .no]) ?_ ?_
  · cases h8 : (q2 == 8) with
    | true =>
      obtain ⟨m1, hm1, hre1⟩ := reach_ok c18
      obtain ⟨m2, hm2, hre2⟩ := reach_ok c19
      obtain ⟨c, lc, hc⟩ := anyn_ok c20 n ((n : Int) + 2 + m1) (m2 % ((n : Int) + 2 + m1)) hn2 (by omega)
      repeat (first | walk_at "vm" | rw [if_pos (by omega)] | rw [e2] | rw [eqD_int] | rw [h8] | rw [hc18] | rw [hre1] | rw [hc20] | rw [hc19] | rw [hre2] | rw [mod_pos (show (0 : Int) < (n : Int) + 2 + m1 by omega)] | rw [hc])
      exact ⟨c, .fz (.int ((n : Int) + 2 + m1)), lc, fun _ => rfl, rfl⟩
    | false =>
      repeat (first | walk_at "vm" | rw [if_pos (by omega)] | rw [e2] | rw [eqD_int] | rw [h8])
      refine ⟨t.map fun o => o.map fun k : Nat => (k : Int), .no, by rw [List.length_map]; exact lt, fun _ => rfl, ?_⟩
      rw [List.map_map]
      have e : t.map (oI ∘ fun o => o.map fun k : Nat => (k : Int)) = t.map oD := List.map_congr_left fun o _ => oI_of o
      rw [e]
  rintro _ ⟨c, z8, lc, nz, rfl⟩
  refine wp_cut (fun S => ∃ (c : List (Option Int)), c.length = n ∧ S = [.fz (.scr ns), .fz (.int (n : Int)), .fz (.lst (t.map oD)), .fz (.lst ((backL t).map lN)), .own (.lst (intsD q)), .fz (.int q0), .fz (.tup (rs.map tN)), .own (.lst (c.map oI)), z8, .no, .no, .no, .no, .no, .no, .no]) ?_ ?_
  · obtain ⟨v, ev, v0, v1⟩ := pick_at (zs := [0, 0, 0, 0, 1, 1, 2, 3, 0]) (i := q2) (B := 4) p2 s2 (by simp)
    have ev' : atI [D.int 0, .int 0, .int 0, .int 0, .int 1, .int 1, .int 2, .int 3, .int 0] q2 = some (.int v) := ev
    repeat (first | walk_at "vm" | rw [if_pos (by omega)] | simp only [nz] | rw [e2] | rw [ev'])
    refine wp_for (fun i S => ∃ (c : List (Option Int)), c.length = n ∧ S = [.fz (.scr ns), .fz (.int (n : Int)), .fz (.lst (t.map oD)), .fz (.lst ((backL t).map lN)), .own (.lst (intsD q)), .fz (.int q0), .fz (.tup (rs.map tN)), .own (.lst (c.map oI)), z8, .no, .no, .no, .no, .no, .no, .no]) ⟨c, lc, rfl⟩ ?_ ?_
    rotate_left
    · rintro S ⟨c, lc, rfl⟩
      exact ⟨c, lc, rfl⟩
    rintro i d S hd ⟨c, lc, rfl⟩
    obtain ⟨hi, rfl⟩ := rangeL_get hd
    have hi4 : i < 4 := by omega
    obtain ⟨ca, hca⟩ := cellb_ok ns (6 + (0 + (i : Int))) (by omega) (by omega)
    obtain ⟨cb, hcb⟩ := cellb_ok ns (9 + (0 + (i : Int))) (by omega) (by omega)
    obtain ⟨u, hu, lu, bu⟩ := digits_ok ca [(n : Int), 10] (by simp; omega) (by simp)
    have hu' : g__law_digits_c35f8 [.int ca, .lst [.int (n : Int), .int 10]] = .ok ⟨true, .lst (intsD u)⟩ := hu
    obtain ⟨u0, f0, g0, j0⟩ := dig_at lu bu 0 (n : Int) (by decide) rfl
    obtain ⟨u1, f1, g1, j1⟩ := dig_at lu bu 1 10 (by decide) rfl
    obtain ⟨o, ho⟩ := hnext_ok u1 (n : Int) u0 cb g1 j1
    obtain ⟨x, rfl⟩ : ∃ x : Nat, u0 = (x : Int) := ⟨u0.toNat, by omega⟩
    have hx : ixN (c.map oI).length (x : Int) = some x := ixN_nat (by rw [List.length_map]; omega)
    repeat (first | walk_at "vm" | rw [if_pos (by omega)] | simp only [nz] | rw [hca] | rw [hu'] | rw [f0] | rw [f1] | rw [hcb] | rw [ho] | rw [hx])
    refine ⟨c.set x o, by rw [List.length_set]; exact lc, ?_⟩
    rw [setI]
  rintro _ ⟨c, lc, rfl⟩
  refine wp_cut (fun S => S = [.fz (.scr ns), .fz (.int (n : Int)), .fz (.lst (t.map oD)), .fz (.lst ((backL t).map lN)), .own (.lst (intsD q)), .fz (.int q0), .fz (.tup (rs.map tN)), .own (.lst (c.map oI)), z8, .no, .no, .own (.lst (rs.map tN)), .no, .no, .no, .no]) ?_ ?_
  · repeat (first | walk_at "vm" | rw [if_pos (by omega)] | simp only [nz])
    done
  rintro _ rfl
  refine wp_cut (fun S => ∃ h : List (List Int), h.length = n ∧ S = [.fz (.scr ns), .fz (.int (n : Int)), .fz (.lst (t.map oD)), .fz (.lst ((backL t).map lN)), .own (.lst (intsD q)), .fz (.int q0), .fz (.tup (rs.map tN)), .own (.lst (c.map oI)), z8, .no, .no, .own (.lst (h.map tI)), .no, .no, .no, .no]) ?_ ?_
  · cases h8 : (q3 == 8) with
    | true =>
      obtain ⟨h, lh, hh⟩ := anyr_ok (backL t) c21 c22 (by rw [lb]; exact hn2) ble
      repeat (first | walk_at "vm" | rw [if_pos (by omega)] | simp only [nz] | rw [e3] | rw [eqD_int] | rw [h8] | rw [hc21] | rw [hc22] | rw [hh])
      exact ⟨h, by rw [lh, lb], rfl⟩
    | false =>
      repeat (first | walk_at "vm" | rw [if_pos (by omega)] | simp only [nz] | rw [e3] | rw [eqD_int] | rw [h8])
      refine ⟨rs.map fun ks => ks.map fun k : Nat => (k : Int), by rw [List.length_map]; exact lrs, ?_⟩
      rw [List.map_map]
      have e : rs.map (tI ∘ fun ks => ks.map fun k : Nat => (k : Int)) = rs.map tN := List.map_congr_left fun ks _ => (tI_tN ks).symm
      rw [e]
  rintro _ ⟨h, lh, rfl⟩
  refine wp_cut (fun S => ∃ h : List (List Int), h.length = n ∧ S = [.fz (.scr ns), .fz (.int (n : Int)), .fz (.lst (t.map oD)), .fz (.lst ((backL t).map lN)), .own (.lst (intsD q)), .fz (.int q0), .fz (.tup (rs.map tN)), .own (.lst (c.map oI)), z8, .no, .no, .own (.lst (h.map tI)), .no, .no, .no, .no]) ?_ ?_
  · obtain ⟨v, ev, v0, v1⟩ := pick_at (zs := [0, 0, 1, 1, 1, 2, 2, 3, 0]) (i := q3) (B := 4) p3 s3 (by simp)
    have ev' : atI [D.int 0, .int 0, .int 1, .int 1, .int 1, .int 2, .int 2, .int 3, .int 0] q3 = some (.int v) := ev
    repeat (first | walk_at "vm" | rw [if_pos (by omega)] | simp only [nz] | rw [e3] | rw [ev'])
    refine wp_for (fun i S => ∃ h : List (List Int), h.length = n ∧ S = [.fz (.scr ns), .fz (.int (n : Int)), .fz (.lst (t.map oD)), .fz (.lst ((backL t).map lN)), .own (.lst (intsD q)), .fz (.int q0), .fz (.tup (rs.map tN)), .own (.lst (c.map oI)), z8, .no, .no, .own (.lst (h.map tI)), .no, .no, .no, .no]) ⟨h, lh, rfl⟩ ?_ ?_
    rotate_left
    · rintro S ⟨h, lh, rfl⟩
      exact ⟨h, lh, rfl⟩
    rintro i d S hd ⟨h, lh, rfl⟩
    obtain ⟨hi, rfl⟩ := rangeL_get hd
    have hi4 : i < 4 := by omega
    obtain ⟨ca, hca⟩ := cellb_ok ns (12 + (0 + (i : Int))) (by omega) (by omega)
    obtain ⟨cb, hcb⟩ := cellb_ok ns (15 + (0 + (i : Int))) (by omega) (by omega)
    obtain ⟨u, hu, lu, bu⟩ := digits_ok ca [(n : Int), 14, 1600] (by simp; omega) (by simp)
    have hu' : g__law_digits_c35f8 [.int ca, .lst [.int (n : Int), .int 14, .int 1600]] = .ok ⟨true, .lst (intsD u)⟩ := hu
    obtain ⟨u0, f0, g0, j0⟩ := dig_at lu bu 0 (n : Int) (by decide) rfl
    obtain ⟨u1, f1, g1, j1⟩ := dig_at lu bu 1 14 (by decide) rfl
    obtain ⟨u2, f2, g2, j2⟩ := dig_at lu bu 2 1600 (by decide) rfl
    obtain ⟨x, rfl⟩ : ∃ x : Nat, u0 = (x : Int) := ⟨u0.toNat, by omega⟩
    have hxr : x < rs.length := by omega
    obtain ⟨y, hy⟩ : ∃ y : Nat, ((x : Int) + 1) % (n : Int) = (y : Int) := ⟨(((x : Int) + 1) % (n : Int)).toNat, by have := Int.emod_nonneg ((x : Int) + 1) (show (n : Int) ≠ 0 by omega); omega⟩
    have hyr : y < rs.length := by have := Int.emod_lt_of_pos ((x : Int) + 1) (show (0 : Int) < (n : Int) by omega); omega
    have r1 : atI (rs.map tN) (x : Int) = some (tN rs[x]) := atI_map' hxr
    have r2 : atI (rs.map tN) (y : Int) = some (tN rs[y]) := atI_map' hyr
    have hxb : x < (backL t).length := by omega
    have hrl : rs[x].length = (backL t)[x].length + 1 := by rw [(hp.2 x hxr hxb).length_eq, List.length_range]
    have hbl := ble (backL t)[x] (List.getElem_mem _)
    have enl : ((nsD rs[x]).length : Int) = (rs[x].length : Int) := by simp [nsD]
    have hm0 := Int.emod_nonneg u2 (show (rs[x].length : Int) ≠ 0 by omega)
    have hm1 := Int.emod_lt_of_pos u2 (show (0 : Int) < (rs[x].length : Int) by omega)
    obtain ⟨w, hw⟩ := hrow_ok u1 (rs[x].map fun k : Nat => (k : Int)) (rs[y].map fun k : Nat => (k : Int)) (u2 % (rs[x].length : Int)) cb g1 j1 hm0 (by rw [List.length_map]; exact hm1) (by rw [List.length_map]; omega)
    rw [← tI_tN, ← tI_tN] at hw
    have hx : ixN (h.map tI).length (x : Int) = some x := ixN_nat (by rw [List.length_map]; omega)
    repeat (first | walk_at "vm" | rw [if_pos (by omega)] | simp only [nz] | rw [hca] | rw [hu'] | rw [f0] | rw [f1] | rw [f2] | rw [r1] | rw [mod_pos (show (0 : Int) < (n : Int) by omega)] | rw [hy] | rw [r2] | rw [enl] | rw [mod_pos (show (0 : Int) < (rs[x].length : Int) by omega)] | rw [hcb] | rw [hw] | rw [hx])
    refine ⟨h.set x w, by rw [List.length_set]; exact lh, ?_⟩
    rw [setI]
  rintro _ ⟨h, lh, rfl⟩
  refine wp_cut (fun S => S = [.fz (.scr ns), .fz (.int (n : Int)), .fz (.lst (t.map oD)), .fz (.lst ((backL t).map lN)), .own (.lst (intsD q)), .fz (.int q0), .fz (.tup (rs.map tN)), .own (.lst (c.map oI)), z8, .no, .no, .fz (.tup (h.map tI)), .no, .no, .no, .no]) ?_ ?_
  · repeat (first | walk_at "vm" | rw [if_pos (by omega)] | simp only [nz] | rw [List.length_map])
    done
  rintro _ rfl
  have hdue := due_spec (c := c) (h := h) (way := q0) (by omega) (by omega)
  obtain ⟨bt, htold⟩ := told_spec (c := c) (h := h) (way := q0) (by omega) (by omega) (by omega) p0
  obtain ⟨bc, hclass⟩ := class_spec (c := c) (h := h) (way := q0) (by omega) (by omega) (by omega) p0
  generalize dueP c h q0 = p at hdue htold hclass
  have t2 : g__law_told_5a9d2 [.lst (t.map oD), .tup (rs.map tN), .int 2] = .ok ⟨false, .lst [.int 0, .int 0]⟩ := told_good (way := 2) (rot := .tup (rs.map tN)) ht hn1 hn2 (Or.inr ⟨by decide, rfl, hp⟩)
  have t0 : g__law_told_5a9d2 [.lst (t.map oD), .tup (rs.map tN), .int 0] = .ok ⟨false, .lst [.int 0, .int 0]⟩ := told_good (way := 0) (rot := .tup (rs.map tN)) ht hn1 hn2 (Or.inl ⟨by decide, by decide, rfl⟩)
  obtain ⟨bf, hf⟩ := fielded_ok (n : Int) (p.2 : Int)
  have n0 : neD (.lst [.int 0, .int 0]) (.lst [.int 0, .int 0]) = .ok ⟨false, .bl false⟩ := ne_pD (0, 0)
  refine wp_cut (fun S => S = [.fz (.scr ns), .fz (.int (n : Int)), .fz (.lst (t.map oD)), .fz (.lst ((backL t).map lN)), .own (.lst (intsD q)), .fz (.int q0), .fz (.tup (rs.map tN)), .fz (.lst (c.map oI)), z8, .no, .no, .fz (.tup (h.map tI)), .no, .no, .own (pD p), .no]) ?_ ?_
  · repeat (first | walk_at "vm" | rw [if_pos (by omega)] | simp only [nz] | rw [hdue])
    done
  rintro _ rfl
  have ep : (pD p) = .lst [.int (p.1 : Int), .int (p.2 : Int)] := rfl
  refine wp_cut (fun S => ∃ sl, (sl = Sl.own (pD p) ∨ sl = Sl.fz (pD p)) ∧ S = [.fz (.scr ns), .fz (.int (n : Int)), .fz (.lst (t.map oD)), .fz (.lst ((backL t).map lN)), .own (.lst (intsD q)), .fz (.int q0), .fz (.tup (rs.map tN)), .fz (.lst (c.map oI)), z8, .no, .no, .fz (.tup (h.map tI)), .no, .no, .own (pD p), sl]) ?_ ?_
  · cases bt
    · repeat (first | walk_at "vm" | rw [if_pos (by omega)] | simp only [nz] | rw [htold])
      exact ⟨_, Or.inr rfl, rfl⟩
    · repeat (first | walk_at "vm" | rw [if_pos (by omega)] | simp only [nz] | rw [htold])
      exact ⟨_, Or.inl rfl, rfl⟩
  rintro _ ⟨sl, hsl, rfl⟩
  have npp := ne_pD p
  have npe := eq_pD p
  have nn := ne_self (p.1 : Int)
  refine wp_cut (fun S => S = [.fz (.scr ns), .fz (.int (n : Int)), .fz (.lst (t.map oD)), .fz (.lst ((backL t).map lN)), .own (.lst (intsD q)), .fz (.int q0), .fz (.tup (rs.map tN)), .fz (.lst (c.map oI)), z8, .no, .no, .fz (.tup (h.map tI)), .no, .no, .own (pD p), sl]) ?_ ?_
  · rcases hsl with rfl | rfl
    · repeat (first | walk_at "vm" | rw [if_pos (by omega)] | simp only [nz] | rw [npp] | rw [ix1] | rw [ix0] | rw [whole_ok] | rw [hclass] | rw [nn])
      done
    · repeat (first | walk_at "vm" | rw [if_pos (by omega)] | simp only [nz] | rw [npp] | rw [ix1] | rw [ix0] | rw [whole_ok] | rw [hclass] | rw [nn])
      done
  rintro _ rfl
  refine wp_cut (fun S => S = [.fz (.scr ns), .fz (.int (n : Int)), .fz (.lst (t.map oD)), .fz (.lst ((backL t).map lN)), .own (.lst (intsD q)), .fz (.int q0), .fz (.tup (rs.map tN)), .fz (.lst (c.map oI)), z8, .no, .no, .fz (.tup (h.map tI)), .no, .no, .own (pD p), sl]) ?_ ?_
  · repeat (first | walk_at "vm" | rw [if_pos (by omega)] | simp only [nz] | rw [t2] | rw [n0] | rw [t0] | rw [ix1] | rw [hf])
    done
  rintro _ rfl
  rcases hsl with rfl | rfl <;> cases bt
  · repeat (first | walk_at "vm" | rw [if_pos (by omega)] | simp only [nz] | rw [htold] | rw [npe])
    done
  · repeat (first | walk_at "vm" | rw [if_pos (by omega)] | simp only [nz] | rw [htold] | rw [npe])
    done
  · repeat (first | walk_at "vm" | rw [if_pos (by omega)] | simp only [nz] | rw [htold] | rw [npe])
    done
  · repeat (first | walk_at "vm" | rw [if_pos (by omega)] | simp only [nz] | rw [htold] | rw [npe])
    done
end Sh

/-! printed by gen.py: the defs of the text, and the proofs that they do what their readings say -/
namespace Lk23
open PySem PySem.Spec PyProof.Rows L2 VM Sh
def top (i : Nat) : Stmt := PySem.Challenge.pw_sameroom_k23_bad_graphs.main.body.getD i (.Pass ⟨0, 0, 0, 0⟩)
abbrev s_check_nexts : Stmt := top 14
abbrev s_predecessor_rows : Stmt := top 15
abbrev s_plain_rows : Stmt := top 16
abbrev s_check_rows : Stmt := top 17
abbrev s__law_whole : Stmt := top 20
abbrev s__law_numbers : Stmt := top 21
abbrev s__law_cell : Stmt := top 22
abbrev s__law_digits : Stmt := top 23
abbrev s__law_many : Stmt := top 24
abbrev s__law_next : Stmt := top 25
abbrev s__law_alike : Stmt := top 26
abbrev s__law_order : Stmt := top 27
abbrev s__law_table : Stmt := top 28
abbrev s__law_back : Stmt := top 29
abbrev s__law_rows : Stmt := top 30
abbrev s_Graph__init__ : Stmt := (clsBd (top 18)).getD 0 (.Pass ⟨0, 0, 0, 0⟩)
abbrev s__law_graph : Stmt := top 31
abbrev s__law_fields : Stmt := top 32
abbrev s__law_harmed_next : Stmt := top 33
abbrev s__law_harmed_row : Stmt := top 34
abbrev s__law_reach : Stmt := top 35
abbrev s__law_any_nexts : Stmt := top 36
abbrev s__law_any_rows : Stmt := top 37
abbrev s__law_due : Stmt := top 38
abbrev s__law_told : Stmt := top 39
abbrev s__law_class : Stmt := top 40
abbrev s__law_fielded : Stmt := top 41
abbrev s_law : Stmt := top 42
abbrev s_BadGraph__init__ : Stmt := (clsBd (top 8)).getD 0 (.Pass ⟨0, 0, 0, 0⟩)
abbrev s_BadRotation__init__ : Stmt := (clsBd (top 9)).getD 0 (.Pass ⟨0, 0, 0, 0⟩)
abbrev s_BadText__init__ : Stmt := (clsBd (top 2)).getD 0 (.Pass ⟨0, 0, 0, 0⟩)
abbrev s_BadSnapshot__init__ : Stmt := (clsBd (top 12)).getD 0 (.Pass ⟨0, 0, 0, 0⟩)
def fnL : List He.DefD := [(⟨("check_nexts", none), "check_nexts", "check_nexts", defArgs s_check_nexts, defBody s_check_nexts, defScope s_check_nexts, [], []⟩ : He.DefD),
  (⟨("predecessor_rows", none), "predecessor_rows", "predecessor_rows", defArgs s_predecessor_rows, defBody s_predecessor_rows, defScope s_predecessor_rows, [], []⟩ : He.DefD),
  (⟨("plain_rows", none), "plain_rows", "plain_rows", defArgs s_plain_rows, defBody s_plain_rows, defScope s_plain_rows, [], []⟩ : He.DefD),
  (⟨("check_rows", none), "check_rows", "check_rows", defArgs s_check_rows, defBody s_check_rows, defScope s_check_rows, [], []⟩ : He.DefD),
  (⟨("_law_whole", none), "_law_whole", "_law_whole", defArgs s__law_whole, defBody s__law_whole, defScope s__law_whole, [], []⟩ : He.DefD),
  (⟨("_law_numbers", none), "_law_numbers", "_law_numbers", defArgs s__law_numbers, defBody s__law_numbers, defScope s__law_numbers, [], []⟩ : He.DefD),
  (⟨("_law_cell", none), "_law_cell", "_law_cell", defArgs s__law_cell, defBody s__law_cell, defScope s__law_cell, [], []⟩ : He.DefD),
  (⟨("_law_digits", none), "_law_digits", "_law_digits", defArgs s__law_digits, defBody s__law_digits, defScope s__law_digits, [], []⟩ : He.DefD),
  (⟨("_law_many", none), "_law_many", "_law_many", defArgs s__law_many, defBody s__law_many, defScope s__law_many, [], []⟩ : He.DefD),
  (⟨("_law_next", none), "_law_next", "_law_next", defArgs s__law_next, defBody s__law_next, defScope s__law_next, [], []⟩ : He.DefD),
  (⟨("_law_alike", none), "_law_alike", "_law_alike", defArgs s__law_alike, defBody s__law_alike, defScope s__law_alike, [], []⟩ : He.DefD),
  (⟨("_law_order", none), "_law_order", "_law_order", defArgs s__law_order, defBody s__law_order, defScope s__law_order, [], []⟩ : He.DefD),
  (⟨("_law_table", none), "_law_table", "_law_table", defArgs s__law_table, defBody s__law_table, defScope s__law_table, [], []⟩ : He.DefD),
  (⟨("_law_back", none), "_law_back", "_law_back", defArgs s__law_back, defBody s__law_back, defScope s__law_back, [], []⟩ : He.DefD),
  (⟨("_law_rows", none), "_law_rows", "_law_rows", defArgs s__law_rows, defBody s__law_rows, defScope s__law_rows, [], []⟩ : He.DefD),
  (⟨("Graph", some "__init__"), "__init__", "Graph.__init__", defArgs s_Graph__init__, defBody s_Graph__init__, defScope s_Graph__init__, [.non], []⟩ : He.DefD),
  (⟨("_law_graph", none), "_law_graph", "_law_graph", defArgs s__law_graph, defBody s__law_graph, defScope s__law_graph, [], []⟩ : He.DefD),
  (⟨("_law_fields", none), "_law_fields", "_law_fields", defArgs s__law_fields, defBody s__law_fields, defScope s__law_fields, [], []⟩ : He.DefD),
  (⟨("_law_harmed_next", none), "_law_harmed_next", "_law_harmed_next", defArgs s__law_harmed_next, defBody s__law_harmed_next, defScope s__law_harmed_next, [], []⟩ : He.DefD),
  (⟨("_law_harmed_row", none), "_law_harmed_row", "_law_harmed_row", defArgs s__law_harmed_row, defBody s__law_harmed_row, defScope s__law_harmed_row, [], []⟩ : He.DefD),
  (⟨("_law_reach", none), "_law_reach", "_law_reach", defArgs s__law_reach, defBody s__law_reach, defScope s__law_reach, [], []⟩ : He.DefD),
  (⟨("_law_any_nexts", none), "_law_any_nexts", "_law_any_nexts", defArgs s__law_any_nexts, defBody s__law_any_nexts, defScope s__law_any_nexts, [], []⟩ : He.DefD),
  (⟨("_law_any_rows", none), "_law_any_rows", "_law_any_rows", defArgs s__law_any_rows, defBody s__law_any_rows, defScope s__law_any_rows, [], []⟩ : He.DefD),
  (⟨("_law_due", none), "_law_due", "_law_due", defArgs s__law_due, defBody s__law_due, defScope s__law_due, [], []⟩ : He.DefD),
  (⟨("_law_told", none), "_law_told", "_law_told", defArgs s__law_told, defBody s__law_told, defScope s__law_told, [], []⟩ : He.DefD),
  (⟨("_law_class", none), "_law_class", "_law_class", defArgs s__law_class, defBody s__law_class, defScope s__law_class, [], []⟩ : He.DefD),
  (⟨("_law_fielded", none), "_law_fielded", "_law_fielded", defArgs s__law_fielded, defBody s__law_fielded, defScope s__law_fielded, [], []⟩ : He.DefD),
  (⟨("law", none), "law", "law", defArgs s_law, defBody s_law, defScope s_law, [], []⟩ : He.DefD),
  (⟨("BadGraph", some "__init__"), "__init__", "BadGraph.__init__", defArgs s_BadGraph__init__, defBody s_BadGraph__init__, defScope s_BadGraph__init__, [], []⟩ : He.DefD),
  (⟨("BadRotation", some "__init__"), "__init__", "BadRotation.__init__", defArgs s_BadRotation__init__, defBody s_BadRotation__init__, defScope s_BadRotation__init__, [], []⟩ : He.DefD),
  (⟨("BadText", some "__init__"), "__init__", "BadText.__init__", defArgs s_BadText__init__, defBody s_BadText__init__, defScope s_BadText__init__, [], []⟩ : He.DefD),
  (⟨("BadSnapshot", some "__init__"), "__init__", "BadSnapshot.__init__", defArgs s_BadSnapshot__init__, defBody s_BadSnapshot__init__, defScope s_BadSnapshot__init__, [], []⟩ : He.DefD)]
def xL : XL := ⟨["BadGraph", "BadRotation", "BadText", "BadSnapshot"], [("BadGraph", "node"), ("BadRotation", "at"), ("BadText", "at"), ("BadSnapshot", "at")], [("BadGraph", [("RoomError", false), ("BadText", false), ("BadLine", false), ("BadLibrary", false), ("ProcedureCycle", false), ("UnknownProgram", false), ("BadCode", false), ("BadGraph", true), ("BadRotation", false), ("BadBook", false), ("TooLarge", false), ("BadSnapshot", false)]), ("BadRotation", [("RoomError", false), ("BadText", false), ("BadLine", false), ("BadLibrary", false), ("ProcedureCycle", false), ("UnknownProgram", false), ("BadCode", false), ("BadGraph", false), ("BadRotation", true), ("BadBook", false), ("TooLarge", false), ("BadSnapshot", false)]), ("BadText", [("RoomError", false), ("BadText", true), ("BadLine", false), ("BadLibrary", false), ("ProcedureCycle", false), ("UnknownProgram", false), ("BadCode", false), ("BadGraph", false), ("BadRotation", false), ("BadBook", false), ("TooLarge", false), ("BadSnapshot", false)]), ("BadLine", [("RoomError", false), ("BadText", false), ("BadLine", true), ("BadLibrary", false), ("ProcedureCycle", false), ("UnknownProgram", false), ("BadCode", false), ("BadGraph", false), ("BadRotation", false), ("BadBook", false), ("TooLarge", false), ("BadSnapshot", false)]), ("BadLibrary", [("RoomError", false), ("BadText", false), ("BadLine", false), ("BadLibrary", true), ("ProcedureCycle", false), ("UnknownProgram", false), ("BadCode", false), ("BadGraph", false), ("BadRotation", false), ("BadBook", false), ("TooLarge", false), ("BadSnapshot", false)]), ("ProcedureCycle", [("RoomError", false), ("BadText", false), ("BadLine", false), ("BadLibrary", false), ("ProcedureCycle", true), ("UnknownProgram", false), ("BadCode", false), ("BadGraph", false), ("BadRotation", false), ("BadBook", false), ("TooLarge", false), ("BadSnapshot", false)]), ("UnknownProgram", [("RoomError", false), ("BadText", false), ("BadLine", false), ("BadLibrary", false), ("ProcedureCycle", false), ("UnknownProgram", true), ("BadCode", false), ("BadGraph", false), ("BadRotation", false), ("BadBook", false), ("TooLarge", false), ("BadSnapshot", false)]), ("BadCode", [("RoomError", false), ("BadText", false), ("BadLine", false), ("BadLibrary", false), ("ProcedureCycle", false), ("UnknownProgram", false), ("BadCode", true), ("BadGraph", false), ("BadRotation", false), ("BadBook", false), ("TooLarge", false), ("BadSnapshot", false)]), ("BadBook", [("RoomError", false), ("BadText", false), ("BadLine", false), ("BadLibrary", false), ("ProcedureCycle", false), ("UnknownProgram", false), ("BadCode", false), ("BadGraph", false), ("BadRotation", false), ("BadBook", true), ("TooLarge", false), ("BadSnapshot", false)]), ("TooLarge", [("RoomError", false), ("BadText", false), ("BadLine", false), ("BadLibrary", false), ("ProcedureCycle", false), ("UnknownProgram", false), ("BadCode", false), ("BadGraph", false), ("BadRotation", false), ("BadBook", false), ("TooLarge", true), ("BadSnapshot", false)]), ("BadSnapshot", [("RoomError", false), ("BadText", false), ("BadLine", false), ("BadLibrary", false), ("ProcedureCycle", false), ("UnknownProgram", false), ("BadCode", false), ("BadGraph", false), ("BadRotation", false), ("BadBook", false), ("TooLarge", false), ("BadSnapshot", true)])], [("ValueError", [("RoomError", true), ("BadText", true), ("BadLine", true), ("BadLibrary", true), ("ProcedureCycle", true), ("UnknownProgram", true), ("BadCode", true), ("BadGraph", true), ("BadRotation", true), ("BadBook", true), ("TooLarge", true), ("BadSnapshot", true)])], [("BadRotation", [("RoomError", false), ("BadText", false), ("BadLine", false), ("BadLibrary", false), ("ProcedureCycle", false), ("UnknownProgram", false), ("BadCode", false), ("BadGraph", false), ("BadRotation", true), ("BadBook", false), ("TooLarge", false), ("BadSnapshot", false)]), ("BadGraph", [("RoomError", false), ("BadText", false), ("BadLine", false), ("BadLibrary", false), ("ProcedureCycle", false), ("UnknownProgram", false), ("BadCode", false), ("BadGraph", true), ("BadRotation", false), ("BadBook", false), ("TooLarge", false), ("BadSnapshot", false)]), ("RoomError", [("RoomError", true), ("BadText", true), ("BadLine", true), ("BadLibrary", true), ("ProcedureCycle", true), ("UnknownProgram", true), ("BadCode", true), ("BadGraph", true), ("BadRotation", true), ("BadBook", true), ("TooLarge", true), ("BadSnapshot", true)])]⟩
def clL : List Str := [("Graph" : Str)]
def naL : List (Str × Str) := [(("Graph", "nexts") : Str × Str), (("Graph", "rotation") : Str × Str), (("Graph", "behind") : Str × Str)]
def gloL : List Str := [("check_nexts" : Str), ("predecessor_rows" : Str), ("plain_rows" : Str), ("check_rows" : Str), ("_law_whole" : Str), ("_law_numbers" : Str), ("_law_cell" : Str), ("_law_digits" : Str), ("_law_many" : Str), ("_law_next" : Str), ("_law_alike" : Str), ("_law_order" : Str), ("_law_table" : Str), ("_law_back" : Str), ("_law_rows" : Str), ("_law_graph" : Str), ("_law_fields" : Str), ("_law_harmed_next" : Str), ("_law_harmed_row" : Str), ("_law_reach" : Str), ("_law_any_nexts" : Str), ("_law_any_rows" : Str), ("_law_due" : Str), ("_law_told" : Str), ("_law_class" : Str), ("_law_fielded" : Str), ("law" : Str), ("Graph" : Str), ("BadRotation" : Str), ("BadGraph" : Str), ("BadText" : Str), ("BadLine" : Str), ("BadLibrary" : Str), ("ProcedureCycle" : Str), ("UnknownProgram" : Str), ("BadCode" : Str), ("BadBook" : Str), ("TooLarge" : Str), ("BadSnapshot" : Str), ("RoomError" : Str)]
def frL : List Str := [("len" : Str), ("range" : Str), ("tuple" : Str), ("sorted" : Str), ("list" : Str), ("isinstance" : Str), ("int" : Str), ("bool" : Str), ("all" : Str), ("max" : Str), ("min" : Str), ("ValueError" : Str)]
def csL : List (Str × D) := []
section
variable {P : Program} {w : World} {K : PySem.W.Frag} {mg : Str → Option Value} {base : Heap}
theorem fld_nexts (T : Tx fnL gloL frL csL clL naL K mg) : ∀ c ∈ (["Graph"] : List Str), Cls K (He.ga K c) ∧ NoAttr K (He.ga K c) "nexts" := by
  intro c hc
  simp only [List.mem_cons, List.not_mem_nil, or_false] at hc
  subst hc
  · exact ⟨T.cls (i := 0) rfl, T.noat (i := 0) (p := ("Graph", "nexts")) rfl⟩
theorem fld_rotation (T : Tx fnL gloL frL csL clL naL K mg) : ∀ c ∈ (["Graph"] : List Str), Cls K (He.ga K c) ∧ NoAttr K (He.ga K c) "rotation" := by
  intro c hc
  simp only [List.mem_cons, List.not_mem_nil, or_false] at hc
  subst hc
  · exact ⟨T.cls (i := 0) rfl, T.noat (i := 1) (p := ("Graph", "rotation")) rfl⟩
theorem fld_behind (T : Tx fnL gloL frL csL clL naL K mg) : ∀ c ∈ (["Graph"] : List Str), Cls K (He.ga K c) ∧ NoAttr K (He.ga K c) "behind" := by
  intro c hc
  simp only [List.mem_cons, List.not_mem_nil, or_false] at hc
  subst hc
  · exact ⟨T.cls (i := 0) rfl, T.noat (i := 2) (p := ("Graph", "behind")) rfl⟩
theorem xfld_at (Z : (Tz xL K)) : ∀ c ∈ (["BadText", "BadRotation", "BadSnapshot"] : List Str), Xcl K (He.ga K c) ∧ PySem.W.findIn K (.ref (He.ga K c)) "at" = some none := by
  intro c hc
  simp only [List.mem_cons, List.not_mem_nil, or_false] at hc
  rcases hc with rfl | rfl | rfl
  · exact ⟨Z.cl (i := 2) rfl, Z.na (i := 2) (p := ("BadText", "at")) rfl⟩
  · exact ⟨Z.cl (i := 1) rfl, Z.na (i := 1) (p := ("BadRotation", "at")) rfl⟩
  · exact ⟨Z.cl (i := 3) rfl, Z.na (i := 3) (p := ("BadSnapshot", "at")) rfl⟩
theorem xfld_node (Z : (Tz xL K)) : ∀ c ∈ (["BadGraph"] : List Str), Xcl K (He.ga K c) ∧ PySem.W.findIn K (.ref (He.ga K c)) "node" = some none := by
  intro c hc
  simp only [List.mem_cons, List.not_mem_nil, or_false] at hc
  subst hc
  · exact ⟨Z.cl (i := 0) rfl, Z.na (i := 0) (p := ("BadGraph", "node")) rfl⟩
theorem xsc_BadGraph : FnScope ["self", "node"] ["self", "node"] (defScope s_BadGraph__init__) := ⟨rfl, rfl, rfl, by decide +kernel, rfl, by decide +kernel, by decide +kernel⟩
theorem xk_BadGraph (T : Tx fnL gloL frL csL clL naL K mg) (Z : Tz xL K) (N : SeerN P K mg) : Xk P w K mg base 1 "BadGraph" ["node"] := by
  obtain ⟨fd, F⟩ := T.fn (i := 28) rfl
  exact xk_mk (Z.cl (i := 0) rfl) (Z.ini (i := 0) rfl) (T.glo (i := 29) rfl) (xini1 F xsc_BadGraph (Z.cl (i := 0) rfl).o (Z.na (i := 0) (p := ("BadGraph", "node")) rfl) (fun cdv A outer s H E => pss_one (ps_ost (pv 0) (pv 1)))) (fun s us hl => F.bindsA (fun _ _ _ _ _ _ us hl => match us, hl with | [_, _], _ => rfl) s us hl)
theorem xsc_BadRotation : FnScope ["self", "at"] ["self", "at"] (defScope s_BadRotation__init__) := ⟨rfl, rfl, rfl, by decide +kernel, rfl, by decide +kernel, by decide +kernel⟩
theorem xk_BadRotation (T : Tx fnL gloL frL csL clL naL K mg) (Z : Tz xL K) (N : SeerN P K mg) : Xk P w K mg base 1 "BadRotation" ["at"] := by
  obtain ⟨fd, F⟩ := T.fn (i := 29) rfl
  exact xk_mk (Z.cl (i := 1) rfl) (Z.ini (i := 1) rfl) (T.glo (i := 28) rfl) (xini1 F xsc_BadRotation (Z.cl (i := 1) rfl).o (Z.na (i := 1) (p := ("BadRotation", "at")) rfl) (fun cdv A outer s H E => pss_one (ps_ost (pv 0) (pv 1)))) (fun s us hl => F.bindsA (fun _ _ _ _ _ _ us hl => match us, hl with | [_, _], _ => rfl) s us hl)
theorem xsc_BadText : FnScope ["self", "at"] ["self", "at"] (defScope s_BadText__init__) := ⟨rfl, rfl, rfl, by decide +kernel, rfl, by decide +kernel, by decide +kernel⟩
theorem xk_BadText (T : Tx fnL gloL frL csL clL naL K mg) (Z : Tz xL K) (N : SeerN P K mg) : Xk P w K mg base 1 "BadText" ["at"] := by
  obtain ⟨fd, F⟩ := T.fn (i := 30) rfl
  exact xk_mk (Z.cl (i := 2) rfl) (Z.ini (i := 2) rfl) (T.glo (i := 30) rfl) (xini1 F xsc_BadText (Z.cl (i := 2) rfl).o (Z.na (i := 2) (p := ("BadText", "at")) rfl) (fun cdv A outer s H E => pss_one (ps_ost (pv 0) (pv 1)))) (fun s us hl => F.bindsA (fun _ _ _ _ _ _ us hl => match us, hl with | [_, _], _ => rfl) s us hl)
theorem xsc_BadSnapshot : FnScope ["self", "at"] ["self", "at"] (defScope s_BadSnapshot__init__) := ⟨rfl, rfl, rfl, by decide +kernel, rfl, by decide +kernel, by decide +kernel⟩
theorem xk_BadSnapshot (T : Tx fnL gloL frL csL clL naL K mg) (Z : Tz xL K) (N : SeerN P K mg) : Xk P w K mg base 1 "BadSnapshot" ["at"] := by
  obtain ⟨fd, F⟩ := T.fn (i := 31) rfl
  exact xk_mk (Z.cl (i := 3) rfl) (Z.ini (i := 3) rfl) (T.glo (i := 38) rfl) (xini1 F xsc_BadSnapshot (Z.cl (i := 3) rfl).o (Z.na (i := 3) (p := ("BadSnapshot", "at")) rfl) (fun cdv A outer s H E => pss_one (ps_ost (pv 0) (pv 1)))) (fun s us hl => F.bindsA (fun _ _ _ _ _ _ us hl => match us, hl with | [_, _], _ => rfl) s us hl)
theorem xq_0 (T : Tx fnL gloL frL csL clL naL K mg) (Z : Tz xL K) (N : SeerN P K mg) : Xq P w K mg base 1 "BadGraph" ["node"] 1 [] ([0].map (· + 1)) := by
  obtain ⟨fd, F⟩ := T.fn (i := 28) rfl
  exact ⟨Z.cl (i := 0) rfl, Z.ini (i := 0) rfl, T.glo (i := 29) rfl, fd, _, xini1 F xsc_BadGraph (Z.cl (i := 0) rfl).o (Z.na (i := 0) (p := ("BadGraph", "node")) rfl) (fun cdv A outer s H E => pss_one (ps_ost (pv 0) (pv 1))), kwB0 F (fun _ _ _ _ _ _ us ws l1 l2 => match us, ws, l1, l2 with | [_, _], [], _, _ => rfl)⟩
theorem xq_1 (T : Tx fnL gloL frL csL clL naL K mg) (Z : Tz xL K) (N : SeerN P K mg) : Xq P w K mg base 1 "BadGraph" ["node"] 0 ["node"] ([0].map (· + 1)) := by
  obtain ⟨fd, F⟩ := T.fn (i := 28) rfl
  exact ⟨Z.cl (i := 0) rfl, Z.ini (i := 0) rfl, T.glo (i := 29) rfl, fd, _, xini1 F xsc_BadGraph (Z.cl (i := 0) rfl).o (Z.na (i := 0) (p := ("BadGraph", "node")) rfl) (fun cdv A outer s H E => pss_one (ps_ost (pv 0) (pv 1))), kwB0 F (fun _ _ _ _ _ _ us ws l1 l2 => match us, ws, l1, l2 with | [_], [_], _, _ => rfl)⟩
theorem xq_2 (T : Tx fnL gloL frL csL clL naL K mg) (Z : Tz xL K) (N : SeerN P K mg) : Xq P w K mg base 1 "BadRotation" ["at"] 1 [] ([0].map (· + 1)) := by
  obtain ⟨fd, F⟩ := T.fn (i := 29) rfl
  exact ⟨Z.cl (i := 1) rfl, Z.ini (i := 1) rfl, T.glo (i := 28) rfl, fd, _, xini1 F xsc_BadRotation (Z.cl (i := 1) rfl).o (Z.na (i := 1) (p := ("BadRotation", "at")) rfl) (fun cdv A outer s H E => pss_one (ps_ost (pv 0) (pv 1))), kwB0 F (fun _ _ _ _ _ _ us ws l1 l2 => match us, ws, l1, l2 with | [_, _], [], _, _ => rfl)⟩
theorem xq_3 (T : Tx fnL gloL frL csL clL naL K mg) (Z : Tz xL K) (N : SeerN P K mg) : Xq P w K mg base 1 "BadRotation" ["at"] 0 ["at"] ([0].map (· + 1)) := by
  obtain ⟨fd, F⟩ := T.fn (i := 29) rfl
  exact ⟨Z.cl (i := 1) rfl, Z.ini (i := 1) rfl, T.glo (i := 28) rfl, fd, _, xini1 F xsc_BadRotation (Z.cl (i := 1) rfl).o (Z.na (i := 1) (p := ("BadRotation", "at")) rfl) (fun cdv A outer s H E => pss_one (ps_ost (pv 0) (pv 1))), kwB0 F (fun _ _ _ _ _ _ us ws l1 l2 => match us, ws, l1, l2 with | [_], [_], _, _ => rfl)⟩
abbrev N_check_nexts : List Str := ["nexts", "node", "ahead"]
theorem sc_check_nexts : FnScope N_check_nexts ["nexts"] (defScope s_check_nexts) := ⟨rfl, rfl, rfl, by decide +kernel, rfl, by decide +kernel, by decide +kernel⟩
theorem ok_check_nexts (T : Tx fnL gloL frL csL clL naL K mg) (Z : Tz xL K) (N : SeerN P K mg) : Fx P w K mg base 3 ["nexts"] "check_nexts" g_check_nexts_a5738 := by
  refine fx_mk (N := N_check_nexts) (k := 2) (T.fn (i := 0) rfl) (T.glo (i := 0) rfl) sc_check_nexts (fun _ _ _ _ _ _ us hl => match us, hl with | [_], _ => rfl) (fun ds _ => rfl) ?_
  intro cdv A outer s H E hr
  have hu := hu65 hr
  have tk : Takes (cxOf (L2.CX P w) P w K mg base N_check_nexts "check_nexts" (defScope s_check_nexts) (He.ga K "check_nexts") cdv A outer s H E) (fun cls d _ H' => E cls d H') := takes_of rfl rfl rfl rfl
  have nd := (sc_check_nexts).nd
  exact (jss_one (js_for [1, 2] (passes_of rfl) rfl (ji_range1 (by rfl) (T.free (i := 1) rfl) (jw_cons ((je_callB ca_len (by rfl) (T.free (i := 0) rfl) (by decide +kernel) (jw_cons (jv_var (pv 0)) jw_nil))).v jw_nil)) (jg_name (pg_name (i := 1) nd rfl (by first | exact Or.inl rfl | exact Or.inr rfl))) (jss_cons (js_set (i := 2) nd rfl (by first | exact Or.inl rfl | exact Or.inr rfl) (je_item (jv_var (pv 0)) (jv_var (pv 1)) (fun _ _ => rfl)))
      (jss_one (js_if ((jw_and (jt_cmp op_isNotDD (jv_var (pv 2)) (je_non).v (nomark _)) (jw_and1 (jt_not (jt_chain op_leD op_ltD (je_int).v (jv_var (pv 2)) ((je_callB ca_len (by rfl) (T.free (i := 0) rfl) (by decide +kernel) (jw_cons (jv_var (pv 0)) jw_nil))).v))))).t (jss_one (js_raise (xk_BadGraph T Z N) hr (by decide) (by rfl) tk rfl (ja_cons ((je_var (pv 1))).z ja_nil) (ALen.cons ALen.nil))) jss_nil)))))
abbrev N_predecessor_rows : List Str := ["nexts", "rows", "node", "ahead", "row"]
theorem sc_predecessor_rows : FnScope N_predecessor_rows ["nexts"] (defScope s_predecessor_rows) := ⟨rfl, rfl, rfl, by decide +kernel, rfl, by decide +kernel, by decide +kernel⟩
theorem ok_predecessor_rows (T : Tx fnL gloL frL csL clL naL K mg) (Z : Tz xL K) (N : SeerN P K mg) : Fx P w K mg base 1 ["nexts"] "predecessor_rows" g_predecessor_rows_c4a15 := by
  refine fx_mk (N := N_predecessor_rows) (k := 0) (T.fn (i := 1) rfl) (T.glo (i := 1) rfl) sc_predecessor_rows (fun _ _ _ _ _ _ us hl => match us, hl with | [_], _ => rfl) (fun ds _ => rfl) ?_
  intro cdv A outer s H E hr
  have hu := hu65 hr
  have tk : Takes (cxOf (L2.CX P w) P w K mg base N_predecessor_rows "predecessor_rows" (defScope s_predecessor_rows) (He.ga K "predecessor_rows") cdv A outer s H E) (fun cls d _ H' => E cls d H') := takes_of rfl rfl rfl rfl
  have nd := (sc_predecessor_rows).nd
  exact (jss_cons (js_setRows (i := 1) (j := 2) (own := [("node", 2)]) rfl nd rfl rfl (sw_true rfl rfl rfl (by decide +kernel)) (ji_val ((je_var (pv 0))).z) (blkOk_by (N := N_predecessor_rows) (sc := defScope s_predecessor_rows) (own := [("node", 2)]) (by decide +kernel)) (fun _ _ _ _ _ => (jg_name (pg_name (i := 2) nd rfl (by first | exact Or.inl rfl | exact Or.inr rfl)))) (by decide))
      (jss_cons (js_for [2, 3] (passes_of rfl) rfl (ji_range1 (by rfl) (T.free (i := 1) rfl) (jw_cons ((je_callB ca_len (by rfl) (T.free (i := 0) rfl) (by decide +kernel) (jw_cons (jv_var (pv 0)) jw_nil))).v jw_nil)) (jg_name (pg_name (i := 2) nd rfl (by first | exact Or.inl rfl | exact Or.inr rfl))) (jss_cons (js_set (i := 3) nd rfl (by first | exact Or.inl rfl | exact Or.inr rfl) (je_item (jv_var (pv 0)) (jv_var (pv 2)) (fun _ _ => rfl)))
      (jss_one (js_if (jt_cmp op_isNotDD (jv_var (pv 3)) (je_non).v (nomark _)) (jss_one (js_rowApp (pv 1) (jv_var (pv 3)) ((je_var (pv 2))).z (fun _ _ => rfl))) jss_nil))))
      (jss_one (js_frw [1] (js_ret (je_callTy ca_tuple (by rfl) (T.free (i := 2) rfl) (by decide +kernel) (jw_cons ((je_lc (own := [("row", 4)]) rfl nd (ji_val ((je_var (pv 1))).z) (blkOk_by (N := N_predecessor_rows) (sc := defScope s_predecessor_rows) (own := [("row", 4)]) (by decide +kernel)) (fun _ _ _ _ _ => (jg_name (pg_name (i := 4) nd rfl (by first | exact Or.inl rfl | exact Or.inr rfl)))) (fun _ _ _ _ _ => jts_nil) (fun _ _ _ _ _ => ((je_callTy ca_tuple (by rfl) (T.free (i := 2) rfl) (by decide +kernel) (jw_cons (jv_var (pv 4)) jw_nil))).z) (by decide))).v jw_nil)))))))
abbrev N_plain_rows : List Str := ["behind", "row"]
theorem sc_plain_rows : FnScope N_plain_rows ["behind"] (defScope s_plain_rows) := ⟨rfl, rfl, rfl, by decide +kernel, rfl, by decide +kernel, by decide +kernel⟩
theorem ok_plain_rows (T : Tx fnL gloL frL csL clL naL K mg) (Z : Tz xL K) (N : SeerN P K mg) : Fx P w K mg base 1 ["behind"] "plain_rows" g_plain_rows_acf7e := by
  refine fx_mk (N := N_plain_rows) (k := 0) (T.fn (i := 2) rfl) (T.glo (i := 2) rfl) sc_plain_rows (fun _ _ _ _ _ _ us hl => match us, hl with | [_], _ => rfl) (fun ds _ => rfl) ?_
  intro cdv A outer s H E hr
  have hu := hu65 hr
  have tk : Takes (cxOf (L2.CX P w) P w K mg base N_plain_rows "plain_rows" (defScope s_plain_rows) (He.ga K "plain_rows") cdv A outer s H E) (fun cls d _ H' => E cls d H') := takes_of rfl rfl rfl rfl
  have nd := (sc_plain_rows).nd
  exact (jss_one (js_ret (je_callTy ca_tuple (by rfl) (T.free (i := 2) rfl) (by decide +kernel) (jw_cons ((je_lc (own := [("row", 1)]) rfl nd (ji_val ((je_var (pv 0))).z) (blkOk_by (N := N_plain_rows) (sc := defScope s_plain_rows) (own := [("row", 1)]) (by decide +kernel)) (fun _ _ _ _ _ => (jg_name (pg_name (i := 1) nd rfl (by first | exact Or.inl rfl | exact Or.inr rfl)))) (fun _ _ _ _ _ => jts_nil) (fun _ _ _ _ _ => ((je_tupRng1 rfl (by rfl) (T.free (i := 2) rfl) (by rfl) (T.free (i := 1) rfl) (jw_cons ((je_op op_addD ((je_callB ca_len (by rfl) (T.free (i := 0) rfl) (by decide +kernel) (jw_cons (jv_var (pv 1)) jw_nil))).v (je_int).v)).v jw_nil))).z) (by decide))).v jw_nil))))
abbrev N_check_rows : List Str := ["rows", "behind", "node"]
theorem sc_check_rows : FnScope N_check_rows ["rows", "behind"] (defScope s_check_rows) := ⟨rfl, rfl, rfl, by decide +kernel, rfl, by decide +kernel, by decide +kernel⟩
theorem ok_check_rows (T : Tx fnL gloL frL csL clL naL K mg) (Z : Tz xL K) (N : SeerN P K mg) : Fx P w K mg base 3 ["rows", "behind"] "check_rows" g_check_rows_8896c := by
  refine fx_mk (N := N_check_rows) (k := 2) (T.fn (i := 3) rfl) (T.glo (i := 3) rfl) sc_check_rows (fun _ _ _ _ _ _ us hl => match us, hl with | [_, _], _ => rfl) (fun ds _ => rfl) ?_
  intro cdv A outer s H E hr
  have hu := hu65 hr
  have tk : Takes (cxOf (L2.CX P w) P w K mg base N_check_rows "check_rows" (defScope s_check_rows) (He.ga K "check_rows") cdv A outer s H E) (fun cls d _ H' => E cls d H') := takes_of rfl rfl rfl rfl
  have nd := (sc_check_rows).nd
  exact (jss_one (js_for [2] (passes_of rfl) rfl (ji_range1 (by rfl) (T.free (i := 1) rfl) (jw_cons ((je_callB ca_len (by rfl) (T.free (i := 0) rfl) (by decide +kernel) (jw_cons (jv_var (pv 0)) jw_nil))).v jw_nil)) (jg_name (pg_name (i := 2) nd rfl (by first | exact Or.inl rfl | exact Or.inr rfl))) (jss_one (js_if (jt_cmp (op_neDD hu) ((je_callB ca_sorted (by rfl) (T.free (i := 3) rfl) (by decide +kernel) (jw_cons ((je_item (jv_var (pv 0)) (jv_var (pv 2)) (fun _ _ => rfl))).v jw_nil))).v ((je_lstRng1 rfl (by rfl) (T.free (i := 4) rfl) (by rfl) (T.free (i := 1) rfl) (jw_cons ((je_op op_addD ((je_callB ca_len (by rfl) (T.free (i := 0) rfl) (by decide +kernel) (jw_cons ((je_item (jv_var (pv 1)) (jv_var (pv 2)) (fun _ _ => rfl))).v jw_nil))).v (je_int).v)).v jw_nil))).v (nomark _)) (jss_one (js_raise (xk_BadRotation T Z N) hr (by decide) (by rfl) tk rfl (ja_cons ((je_var (pv 2))).z ja_nil) (ALen.cons ALen.nil))) jss_nil))))
abbrev N__law_whole : List Str := ["value"]
theorem sc__law_whole : FnScope N__law_whole ["value"] (defScope s__law_whole) := ⟨rfl, rfl, rfl, by decide +kernel, rfl, by decide +kernel, by decide +kernel⟩
theorem ok__law_whole (T : Tx fnL gloL frL csL clL naL K mg) (Z : Tz xL K) (N : SeerN P K mg) : Fx P w K mg base 1 ["value"] "_law_whole" g__law_whole_cee86 := by
  refine fx_mk (N := N__law_whole) (k := 0) (T.fn (i := 4) rfl) (T.glo (i := 4) rfl) sc__law_whole (fun _ _ _ _ _ _ us hl => match us, hl with | [_], _ => rfl) (fun ds _ => rfl) ?_
  intro cdv A outer s H E hr
  have hu := hu65 hr
  have tk : Takes (cxOf (L2.CX P w) P w K mg base N__law_whole "_law_whole" (defScope s__law_whole) (He.ga K "_law_whole") cdv A outer s H E) (fun cls d _ H' => E cls d H') := takes_of rfl rfl rfl rfl
  have nd := (sc__law_whole).nd
  exact (jss_one (js_ret (je_andV ((je_isi (T := "int") (Ts := "int") (by decide +kernel) (by decide +kernel) (by rfl) (T.free (i := 5) rfl) (by rfl) (T.free (i := 6) rfl) (jv_var (pv 0)))).z (je_one (je_notV ((je_isi (T := "bool") (Ts := "bool") (by decide +kernel) (by decide +kernel) (by rfl) (T.free (i := 5) rfl) (by rfl) (T.free (i := 7) rfl) (jv_var (pv 0)))).z)))))
abbrev N__law_numbers : List Str := ["value", "part"]
theorem sc__law_numbers : FnScope N__law_numbers ["value"] (defScope s__law_numbers) := ⟨rfl, rfl, rfl, by decide +kernel, rfl, by decide +kernel, by decide +kernel⟩
theorem ok__law_numbers (T : Tx fnL gloL frL csL clL naL K mg) (Z : Tz xL K) (N : SeerN P K mg) : Fx P w K mg base 2 ["value"] "_law_numbers" g__law_numbers_7d612 := by
  refine fx_mk (N := N__law_numbers) (k := 1) (T.fn (i := 5) rfl) (T.glo (i := 5) rfl) sc__law_numbers (fun _ _ _ _ _ _ us hl => match us, hl with | [_], _ => rfl) (fun ds _ => rfl) ?_
  intro cdv A outer s H E hr
  have hu := hu65 hr
  have tk : Takes (cxOf (L2.CX P w) P w K mg base N__law_numbers "_law_numbers" (defScope s__law_numbers) (He.ga K "_law_numbers") cdv A outer s H E) (fun cls d _ H' => E cls d H') := takes_of rfl rfl rfl rfl
  have nd := (sc__law_numbers).nd
  exact (jss_one (js_ret (je_andV ((je_isi (T := "tuple") (Ts := "tuple") (by decide +kernel) (by decide +kernel) (by rfl) (T.free (i := 5) rfl) (by rfl) (T.free (i := 2) rfl) (jv_var (pv 0)))).z (je_one (je_callB (ca_all rfl) (by rfl) (T.free (i := 8) rfl) (by decide +kernel) (jw_cons ((je_lc (own := [("part", 1)]) rfl nd (ji_val ((je_var (pv 0))).z) (blkOk_by (N := N__law_numbers) (sc := defScope s__law_numbers) (own := [("part", 1)]) (by decide +kernel)) (fun _ _ _ _ _ => (jg_name (pg_name (i := 1) nd rfl (by first | exact Or.inl rfl | exact Or.inr rfl)))) (fun _ _ _ _ _ => jts_nil) (fun _ _ _ _ _ => ((je_fx (ok__law_whole T Z N) hr (by decide) (by rfl) takes0 (ja_cons ((je_var (pv 1))).z ja_nil) (ALen.cons ALen.nil))).z) (by decide))).v jw_nil))))))
abbrev N__law_cell : List Str := ["script", "k", "seed", "cell"]
theorem sc__law_cell : FnScope N__law_cell ["script", "k"] (defScope s__law_cell) := ⟨rfl, rfl, rfl, by decide +kernel, rfl, by decide +kernel, by decide +kernel⟩
theorem ok__law_cell (T : Tx fnL gloL frL csL clL naL K mg) (Z : Tz xL K) (N : SeerN P K mg) : Fx P w K mg base 1 ["script", "k"] "_law_cell" g__law_cell_baed3 := by
  refine fx_mk (N := N__law_cell) (k := 0) (T.fn (i := 6) rfl) (T.glo (i := 6) rfl) sc__law_cell (fun _ _ _ _ _ _ us hl => match us, hl with | [_, _], _ => rfl) (fun ds _ => rfl) ?_
  intro cdv A outer s H E hr
  have hu := hu65 hr
  have tk : Takes (cxOf (L2.CX P w) P w K mg base N__law_cell "_law_cell" (defScope s__law_cell) (He.ga K "_law_cell") cdv A outer s H E) (fun cls d _ H' => E cls d H') := takes_of rfl rfl rfl rfl
  have nd := (sc__law_cell).nd
  exact (jss_cons (js_if (jt_cmp op_ltD (jv_var (pv 1)) ((je_callB ca_len (by rfl) (T.free (i := 0) rfl) (by decide +kernel) (jw_cons (jv_var (pv 0)) jw_nil))).v (nomark _)) (jss_one (js_ret (je_item (jv_var (pv 0)) (jv_var (pv 1)) (fun _ _ => rfl)))) jss_nil)
      (jss_cons (js_set (i := 2) nd rfl (by first | exact Or.inl rfl | exact Or.inr rfl) je_int)
      (jss_cons (js_for [3] (passes_of rfl) rfl (ji_val ((je_var (pv 0))).z) (jg_name (pg_name (i := 3) nd rfl (by first | exact Or.inl rfl | exact Or.inr rfl))) (jss_one (js_set (i := 2) nd rfl (by first | exact Or.inl rfl | exact Or.inr rfl) (je_op op_modD ((je_callTy ca_int (by rfl) (T.free (i := 6) rfl) (by decide +kernel) (jw_cons ((je_op op_addD ((je_op op_mulD (jv_var (pv 2)) (je_int).v)).v ((je_op op_modD ((je_callTy ca_int (by rfl) (T.free (i := 6) rfl) (by decide +kernel) (jw_cons (jv_var (pv 3)) jw_nil))).v (je_int).v)).v)).v jw_nil))).v (je_int).v))))
      (jss_one (js_ret (je_op op_modD ((je_callTy ca_int (by rfl) (T.free (i := 6) rfl) (by decide +kernel) (jw_cons ((je_op op_mulD ((je_op op_mulD ((je_op op_addD (jv_var (pv 2)) (je_int).v)).v ((je_op op_addD (jv_var (pv 1)) (je_int).v)).v)).v (je_int).v)).v jw_nil))).v (je_int).v))))))
abbrev N__law_digits : List Str := ["cell", "sizes", "row", "rest", "size", "seed", "k", "twice"]
theorem sc__law_digits : FnScope N__law_digits ["cell", "sizes"] (defScope s__law_digits) := ⟨rfl, rfl, rfl, by decide +kernel, rfl, by decide +kernel, by decide +kernel⟩
theorem ok__law_digits (T : Tx fnL gloL frL csL clL naL K mg) (Z : Tz xL K) (N : SeerN P K mg) : Fx P w K mg base 41 ["cell", "sizes"] "_law_digits" g__law_digits_c35f8 := by
  refine fx_mk (N := N__law_digits) (k := 40) (T.fn (i := 7) rfl) (T.glo (i := 7) rfl) sc__law_digits (fun _ _ _ _ _ _ us hl => match us, hl with | [_, _], _ => rfl) (fun ds _ => rfl) ?_
  intro cdv A outer s H E hr
  have hu := hu65 hr
  have tk : Takes (cxOf (L2.CX P w) P w K mg base N__law_digits "_law_digits" (defScope s__law_digits) (He.ga K "_law_digits") cdv A outer s H E) (fun cls d _ H' => E cls d H') := takes_of rfl rfl rfl rfl
  have nd := (sc__law_digits).nd
  exact (jss_cons (js_set (i := 2) nd rfl (by first | exact Or.inl rfl | exact Or.inr rfl) (je_lst ja_nil))
      (jss_cons (js_set (i := 3) nd rfl (by first | exact Or.inl rfl | exact Or.inr rfl) (je_callTy ca_int (by rfl) (T.free (i := 6) rfl) (by decide +kernel) (jw_cons (jv_var (pv 0)) jw_nil)))
      (jss_cons (js_if (jt_cmp op_geD (jv_var (pv 3)) ((je_op op_powD (je_int).v (je_int).v)).v (nomark _)) (jss_cons (js_set (i := 3) nd rfl (by first | exact Or.inl rfl | exact Or.inr rfl) (je_op op_subD (jv_var (pv 3)) ((je_op op_powD (je_int).v (je_int).v)).v))
      (jss_cons (js_for [4] (passes_of rfl) rfl (ji_val ((je_var (pv 1))).z) (jg_name (pg_name (i := 4) nd rfl (by first | exact Or.inl rfl | exact Or.inr rfl))) (jss_cons (js_app (pv 2) ((je_op op_modD ((je_callTy ca_int (by rfl) (T.free (i := 6) rfl) (by decide +kernel) (jw_cons (jv_var (pv 3)) jw_nil))).v (jv_var (pv 4)))).z)
      (jss_one (js_set (i := 3) nd rfl (by first | exact Or.inl rfl | exact Or.inr rfl) (je_op (op_divPD N.n hr (by decide) rfl N.t rfl rfl) ((je_callTy ca_int (by rfl) (T.free (i := 6) rfl) (by decide +kernel) (jw_cons (jv_var (pv 3)) jw_nil))).v (jv_var (pv 4)))))))
      (jss_one (js_retv (pv 2))))) jss_nil)
      (jss_cons (js_set (i := 5) nd rfl (by first | exact Or.inl rfl | exact Or.inr rfl) (je_op op_modD ((je_callTy ca_int (by rfl) (T.free (i := 6) rfl) (by decide +kernel) (jw_cons (jv_var (pv 3)) jw_nil))).v (je_int).v))
      (jss_cons (js_for [6, 7] (passes_of rfl) rfl (ji_range1 (by rfl) (T.free (i := 1) rfl) (jw_cons ((je_callB ca_len (by rfl) (T.free (i := 0) rfl) (by decide +kernel) (jw_cons (jv_var (pv 1)) jw_nil))).v jw_nil)) (jg_name (pg_name (i := 6) nd rfl (by first | exact Or.inl rfl | exact Or.inr rfl))) (jss_cons (js_set (i := 5) nd rfl (by first | exact Or.inl rfl | exact Or.inr rfl) (je_op op_modD ((je_callTy ca_int (by rfl) (T.free (i := 6) rfl) (by decide +kernel) (jw_cons ((je_op op_addD ((je_op op_addD ((je_op op_mulD (jv_var (pv 5)) (je_int).v)).v ((je_op op_mulD (je_int).v (jv_var (pv 6)))).v)).v (je_int).v)).v jw_nil))).v (je_int).v))
      (jss_cons (js_set (i := 7) nd rfl (by first | exact Or.inl rfl | exact Or.inr rfl) (je_op op_modD ((je_callTy ca_int (by rfl) (T.free (i := 6) rfl) (by decide +kernel) (jw_cons ((je_op op_mulD (jv_var (pv 5)) ((je_op op_addD ((je_op (op_divPD N.n hr (by decide) rfl N.t rfl rfl) (jv_var (pv 5)) (je_int).v)).v (je_int).v)).v)).v jw_nil))).v (je_int).v))
      (jss_one (js_app (pv 2) ((je_op op_modD ((je_op (op_divPD N.n hr (by decide) rfl N.t rfl rfl) (jv_var (pv 7)) (je_int).v)).v ((je_item (jv_var (pv 1)) (jv_var (pv 6)) (fun _ _ => rfl))).v)).z)))))
      (jss_one (js_retv (pv 2))))))))
abbrev N__law_many : List Str := ["row"]
theorem sc__law_many : FnScope N__law_many ["row"] (defScope s__law_many) := ⟨rfl, rfl, rfl, by decide +kernel, rfl, by decide +kernel, by decide +kernel⟩
theorem ok__law_many (T : Tx fnL gloL frL csL clL naL K mg) (Z : Tz xL K) (N : SeerN P K mg) : Fx P w K mg base 1 ["row"] "_law_many" g__law_many_0ff6a := by
  refine fx_mk (N := N__law_many) (k := 0) (T.fn (i := 8) rfl) (T.glo (i := 8) rfl) sc__law_many (fun _ _ _ _ _ _ us hl => match us, hl with | [_], _ => rfl) (fun ds _ => rfl) ?_
  intro cdv A outer s H E hr
  have hu := hu65 hr
  have tk : Takes (cxOf (L2.CX P w) P w K mg base N__law_many "_law_many" (defScope s__law_many) (He.ga K "_law_many") cdv A outer s H E) (fun cls d _ H' => E cls d H') := takes_of rfl rfl rfl rfl
  have nd := (sc__law_many).nd
  exact (jss_cons (js_if (jt_cmp op_ltD ((je_item (jv_var (pv 0)) (je_int).v (fun _ _ => rfl))).v (je_int).v (nomark _)) (jss_one (js_ret (je_op op_addD (je_int).v ((je_item (jv_var (pv 0)) (je_int).v (fun _ _ => rfl))).v))) jss_nil)
      (jss_cons (js_if (jt_cmp op_ltD ((je_item (jv_var (pv 0)) (je_int).v (fun _ _ => rfl))).v (je_int).v (nomark _)) (jss_one (js_ret (je_op op_addD (je_int).v ((je_op op_modD ((je_callTy ca_int (by rfl) (T.free (i := 6) rfl) (by decide +kernel) (jw_cons ((je_item (jv_var (pv 0)) (je_int).v (fun _ _ => rfl))).v jw_nil))).v (je_int).v)).v))) jss_nil)
      (jss_cons (js_if (jt_cmp op_ltD ((je_item (jv_var (pv 0)) (je_int).v (fun _ _ => rfl))).v (je_int).v (nomark _)) (jss_one (js_ret (je_op op_addD (je_int).v ((je_item (jv_var (pv 0)) (je_int).v (fun _ _ => rfl))).v))) jss_nil)
      (jss_cons (js_if (jt_cmp op_ltD ((je_item (jv_var (pv 0)) (je_int).v (fun _ _ => rfl))).v (je_int).v (nomark _)) (jss_one (js_ret (je_op op_addD (je_int).v ((je_item (jv_var (pv 0)) (je_int).v (fun _ _ => rfl))).v))) jss_nil)
      (jss_one (js_ret (je_op op_addD (je_int).v ((je_item (jv_var (pv 0)) (je_int).v (fun _ _ => rfl))).v)))))))
abbrev N__law_next : List Str := ["k", "ring", "hang", "digit"]
theorem sc__law_next : FnScope N__law_next ["k", "ring", "hang", "digit"] (defScope s__law_next) := ⟨rfl, rfl, rfl, by decide +kernel, rfl, by decide +kernel, by decide +kernel⟩
theorem ok__law_next (T : Tx fnL gloL frL csL clL naL K mg) (Z : Tz xL K) (N : SeerN P K mg) : Fx P w K mg base 1 ["k", "ring", "hang", "digit"] "_law_next" g__law_next_cc2f4 := by
  refine fx_mk (N := N__law_next) (k := 0) (T.fn (i := 9) rfl) (T.glo (i := 9) rfl) sc__law_next (fun _ _ _ _ _ _ us hl => match us, hl with | [_, _, _, _], _ => rfl) (fun ds _ => rfl) ?_
  intro cdv A outer s H E hr
  have hu := hu65 hr
  have tk : Takes (cxOf (L2.CX P w) P w K mg base N__law_next "_law_next" (defScope s__law_next) (He.ga K "_law_next") cdv A outer s H E) (fun cls d _ H' => E cls d H') := takes_of rfl rfl rfl rfl
  have nd := (sc__law_next).nd
  exact (jss_cons (js_if (jt_cmp op_ltD (jv_var (pv 0)) (jv_var (pv 1)) (nomark _)) (jss_one (js_ret (je_op op_modD ((je_op op_addD (jv_var (pv 0)) (je_int).v)).v (jv_var (pv 1))))) jss_nil)
      (jss_cons (js_if ((jw_or (jt_cmp (op_eqDD hu) (jv_var (pv 0)) (je_int).v (nomark _)) (jw_or1 ((jw_and (jt_cmp (op_eqDD hu) (jv_var (pv 2)) (je_int).v (nomark _)) (jw_and1 (jt_cmp (op_eqDD hu) ((je_op op_modD ((je_callTy ca_int (by rfl) (T.free (i := 6) rfl) (by decide +kernel) (jw_cons (jv_var (pv 3)) jw_nil))).v (je_int).v)).v (je_int).v (nomark _))))).t))).t (jss_one (js_ret je_non)) jss_nil)
      (jss_cons (js_if ((jw_and (jt_cmp (op_eqDD hu) (jv_var (pv 2)) (je_int).v (nomark _)) (jw_and1 (jt_cmp (op_eqDD hu) ((je_op op_modD ((je_callTy ca_int (by rfl) (T.free (i := 6) rfl) (by decide +kernel) (jw_cons (jv_var (pv 3)) jw_nil))).v (je_int).v)).v (je_int).v (nomark _))))).t (jss_one (js_retv (pv 0))) jss_nil)
      (jss_cons (js_if (jt_cmp (op_eqDD hu) (jv_var (pv 2)) (je_int).v (nomark _)) (jss_one (js_ret (je_op op_subD (jv_var (pv 0)) (je_int).v))) jss_nil)
      (jss_cons (js_if ((jw_or (jt_cmp (op_eqDD hu) (jv_var (pv 2)) (je_int).v (nomark _)) (jw_or1 ((jw_and (jt_cmp op_gtD (jv_var (pv 2)) (je_int).v (nomark _)) (jw_and1 (jt_cmp (op_eqDD hu) ((je_op op_modD (jv_var (pv 0)) (je_int).v)).v (je_int).v (nomark _))))).t))).t (jss_one (js_ret (je_op op_modD ((je_callTy ca_int (by rfl) (T.free (i := 6) rfl) (by decide +kernel) (jw_cons (jv_var (pv 3)) jw_nil))).v ((je_callB (ca_max rfl) (by rfl) (T.free (i := 9) rfl) (by decide +kernel) (jw_cons (je_int).v (jw_cons (jv_var (pv 1)) jw_nil)))).v))) jss_nil)
      (jss_cons (js_if (jt_cmp (op_eqDD hu) (jv_var (pv 2)) (je_int).v (nomark _)) (jss_one (js_ret (je_callB (ca_max rfl) (by rfl) (T.free (i := 9) rfl) (by decide +kernel) (jw_cons (je_int).v (jw_cons ((je_op op_subD ((je_op op_subD (jv_var (pv 0)) (je_int).v)).v ((je_op op_modD ((je_callTy ca_int (by rfl) (T.free (i := 6) rfl) (by decide +kernel) (jw_cons (jv_var (pv 3)) jw_nil))).v (je_int).v)).v)).v jw_nil))))) jss_nil)
      (jss_one (js_ret (je_op op_modD ((je_callTy ca_int (by rfl) (T.free (i := 6) rfl) (by decide +kernel) (jw_cons (jv_var (pv 3)) jw_nil))).v (jv_var (pv 0)))))))))))
abbrev N__law_alike : List Str := ["k", "many", "kind", "hub"]
theorem sc__law_alike : FnScope N__law_alike ["k", "many", "kind", "hub"] (defScope s__law_alike) := ⟨rfl, rfl, rfl, by decide +kernel, rfl, by decide +kernel, by decide +kernel⟩
theorem ok__law_alike (T : Tx fnL gloL frL csL clL naL K mg) (Z : Tz xL K) (N : SeerN P K mg) : Fx P w K mg base 1 ["k", "many", "kind", "hub"] "_law_alike" g__law_alike_8c450 := by
  refine fx_mk (N := N__law_alike) (k := 0) (T.fn (i := 10) rfl) (T.glo (i := 10) rfl) sc__law_alike (fun _ _ _ _ _ _ us hl => match us, hl with | [_, _, _, _], _ => rfl) (fun ds _ => rfl) ?_
  intro cdv A outer s H E hr
  have hu := hu65 hr
  have tk : Takes (cxOf (L2.CX P w) P w K mg base N__law_alike "_law_alike" (defScope s__law_alike) (He.ga K "_law_alike") cdv A outer s H E) (fun cls d _ H' => E cls d H') := takes_of rfl rfl rfl rfl
  have nd := (sc__law_alike).nd
  exact (jss_cons (js_if ((jw_or (jt_cmp (op_eqDD hu) (jv_var (pv 2)) (je_int).v (nomark _)) (jw_or1 ((jw_and (jt_cmp (op_eqDD hu) (jv_var (pv 2)) (je_int).v (nomark _)) (jw_and1 (jt_cmp (op_eqDD hu) (jv_var (pv 0)) (jv_var (pv 3)) (nomark _))))).t))).t (jss_one (js_ret je_non)) jss_nil)
      (jss_cons (js_if (jt_cmp (op_eqDD hu) (jv_var (pv 2)) (je_int).v (nomark _)) (jss_one (js_retv (pv 0))) jss_nil)
      (jss_cons (js_if (jt_cmp (op_eqDD hu) (jv_var (pv 2)) (je_int).v (nomark _)) (jss_one (js_ret (je_op op_modD ((je_op op_addD (jv_var (pv 0)) (je_int).v)).v (jv_var (pv 1))))) jss_nil)
      (jss_one (js_retv (pv 3))))))
abbrev N__law_order : List Str := ["digits", "left", "order", "digit"]
theorem sc__law_order : FnScope N__law_order ["digits"] (defScope s__law_order) := ⟨rfl, rfl, rfl, by decide +kernel, rfl, by decide +kernel, by decide +kernel⟩
theorem ok__law_order (T : Tx fnL gloL frL csL clL naL K mg) (Z : Tz xL K) (N : SeerN P K mg) : Fx P w K mg base 1 ["digits"] "_law_order" g__law_order_4fbf8 := by
  refine fx_mk (N := N__law_order) (k := 0) (T.fn (i := 11) rfl) (T.glo (i := 11) rfl) sc__law_order (fun _ _ _ _ _ _ us hl => match us, hl with | [_], _ => rfl) (fun ds _ => rfl) ?_
  intro cdv A outer s H E hr
  have hu := hu65 hr
  have tk : Takes (cxOf (L2.CX P w) P w K mg base N__law_order "_law_order" (defScope s__law_order) (He.ga K "_law_order") cdv A outer s H E) (fun cls d _ H' => E cls d H') := takes_of rfl rfl rfl rfl
  have nd := (sc__law_order).nd
  exact (jss_cons (js_set (i := 1) nd rfl (by first | exact Or.inl rfl | exact Or.inr rfl) (je_lstRng1 rfl (by rfl) (T.free (i := 4) rfl) (by rfl) (T.free (i := 1) rfl) (jw_cons ((je_callB ca_len (by rfl) (T.free (i := 0) rfl) (by decide +kernel) (jw_cons (jv_var (pv 0)) jw_nil))).v jw_nil)))
      (jss_cons (js_set (i := 2) nd rfl (by first | exact Or.inl rfl | exact Or.inr rfl) (je_lst ja_nil))
      (jss_cons (js_for [3] (passes_of rfl) rfl (ji_val ((je_var (pv 0))).z) (jg_name (pg_name (i := 3) nd rfl (by first | exact Or.inl rfl | exact Or.inr rfl))) (jss_one (js_appPop (pv 2) (pv 1) ((je_op op_modD ((je_callTy ca_int (by rfl) (T.free (i := 6) rfl) (by decide +kernel) (jw_cons (jv_var (pv 3)) jw_nil))).v ((je_callB ca_len (by rfl) (T.free (i := 0) rfl) (by decide +kernel) (jw_cons (jv_var (pv 1)) jw_nil))).v)).v)))
      (jss_one (js_retv (pv 2))))))
abbrev N__law_table : List Str := ["script", "many", "row", "digits", "digit", "k", "cut", "one", "two", "table", "other", "order", "made"]
theorem sc__law_table : FnScope N__law_table ["script", "many"] (defScope s__law_table) := ⟨rfl, rfl, rfl, by decide +kernel, rfl, by decide +kernel, by decide +kernel⟩
theorem ok__law_table (T : Tx fnL gloL frL csL clL naL K mg) (Z : Tz xL K) (N : SeerN P K mg) : Fx P w K mg base 42 ["script", "many"] "_law_table" g__law_table_8aae1 := by
  refine fx_mk (N := N__law_table) (k := 41) (T.fn (i := 12) rfl) (T.glo (i := 12) rfl) sc__law_table (fun _ _ _ _ _ _ us hl => match us, hl with | [_, _], _ => rfl) (fun ds _ => rfl) ?_
  intro cdv A outer s H E hr
  have hu := hu65 hr
  have tk : Takes (cxOf (L2.CX P w) P w K mg base N__law_table "_law_table" (defScope s__law_table) (He.ga K "_law_table") cdv A outer s H E) (fun cls d _ H' => E cls d H') := takes_of rfl rfl rfl rfl
  have nd := (sc__law_table).nd
  exact (jss_cons (js_set (i := 2) nd rfl (by first | exact Or.inl rfl | exact Or.inr rfl) (je_fx (ok__law_digits T Z N) hr (by decide) (by rfl) tk (ja_cons ((je_fx (ok__law_cell T Z N) hr (by decide) (by rfl) tk (ja_cons ((je_var (pv 0))).z (ja_cons (je_int).z ja_nil)) (ALen.cons (ALen.cons ALen.nil)))).z (ja_cons ((je_lst (ja_cons (je_int).z (ja_cons ((je_op op_addD (jv_var (pv 1)) (je_int).v)).z (ja_cons (je_int).z (ja_cons (je_int).z (ja_cons (je_int).z (ja_cons (je_int).z (ja_cons (je_int).z ja_nil))))))))).z ja_nil)) (ALen.cons (ALen.cons ALen.nil))))
      (jss_cons (js_set (i := 3) nd rfl (by first | exact Or.inl rfl | exact Or.inr rfl) (je_fx (ok__law_digits T Z N) hr (by decide) (by rfl) tk (ja_cons ((je_fx (ok__law_cell T Z N) hr (by decide) (by rfl) tk (ja_cons ((je_var (pv 0))).z (ja_cons (je_int).z ja_nil)) (ALen.cons (ALen.cons ALen.nil)))).z (ja_cons ((je_op op_mulD ((je_lst (ja_cons ((je_op op_addD (jv_var (pv 1)) (je_int).v)).z ja_nil))).v (jv_var (pv 1)))).z ja_nil)) (ALen.cons (ALen.cons ALen.nil))))
      (jss_cons (js_if (jt_cmp op_ltD ((je_item (jv_var (pv 2)) (je_int).v (fun _ _ => rfl))).v (je_int).v (nomark _)) (jss_one (js_frw [3] (js_ret (je_lc (own := [("digit", 4)]) rfl nd (ji_val ((je_var (pv 3))).z) (blkOk_by (N := N__law_table) (sc := defScope s__law_table) (own := [("digit", 4)]) (by decide +kernel)) (fun _ _ _ _ _ => (jg_name (pg_name (i := 4) nd rfl (by first | exact Or.inl rfl | exact Or.inr rfl)))) (fun _ _ _ _ _ => jts_nil) (fun _ _ _ _ _ => ((je_item ((je_lst (ja_cons ((je_var (pv 4))).z (ja_cons (je_non).z ja_nil)))).v ((je_callTy ca_int (by rfl) (T.free (i := 6) rfl) (by decide +kernel) (jw_cons ((je_cmp (op_eqDD hu) (jv_var (pv 4)) (jv_var (pv 1)) (nomark _))).v jw_nil))).v (fun _ _ => rfl))).z) (by decide))))) jss_nil)
      (jss_cons (js_if (jt_cmp (op_eqDD hu) ((je_item (jv_var (pv 2)) (je_int).v (fun _ _ => rfl))).v (je_int).v (nomark _)) (jss_one (js_ret (je_lc (own := [("k", 5)]) rfl nd (ji_range1 (by rfl) (T.free (i := 1) rfl) (jw_cons (jv_var (pv 1)) jw_nil)) (blkOk_by (N := N__law_table) (sc := defScope s__law_table) (own := [("k", 5)]) (by decide +kernel)) (fun _ _ _ _ _ => (jg_name (pg_name (i := 5) nd rfl (by first | exact Or.inl rfl | exact Or.inr rfl)))) (fun _ _ _ _ _ => jts_nil) (fun _ _ _ _ _ => ((je_fx (ok__law_alike T Z N) hr (by decide) (by rfl) takes0 (ja_cons ((je_var (pv 5))).z (ja_cons ((je_var (pv 1))).z (ja_cons ((je_op op_modD ((je_callTy ca_int (by rfl) (T.free (i := 6) rfl) (by decide +kernel) (jw_cons ((je_item (jv_var (pv 2)) (je_int).v (fun _ _ => rfl))).v jw_nil))).v (je_int).v)).z (ja_cons ((je_op op_modD ((je_callTy ca_int (by rfl) (T.free (i := 6) rfl) (by decide +kernel) (jw_cons ((je_item (jv_var (pv 2)) (je_int).v (fun _ _ => rfl))).v jw_nil))).v (jv_var (pv 1)))).z ja_nil)))) (ALen.cons (ALen.cons (ALen.cons (ALen.cons ALen.nil)))))).z) (by decide)))) jss_nil)
      (jss_cons (js_set (i := 6) nd rfl (by first | exact Or.inl rfl | exact Or.inr rfl) (je_item ((je_lst (ja_cons (je_int).z (ja_cons (je_int).z (ja_cons ((je_var (pv 1))).z (ja_cons ((je_item (jv_var (pv 2)) (je_int).v (fun _ _ => rfl))).z ja_nil)))))).v ((je_callB (ca_min rfl) (by rfl) (T.free (i := 10) rfl) (by decide +kernel) (jw_cons ((je_op op_subD ((je_item (jv_var (pv 2)) (je_int).v (fun _ _ => rfl))).v (je_int).v)).v (jw_cons (je_int).v jw_nil)))).v (fun _ _ => rfl)))
      (jss_cons (js_set (i := 7) nd rfl (by first | exact Or.inl rfl | exact Or.inr rfl) (je_callB (ca_min rfl) (by rfl) (T.free (i := 10) rfl) (by decide +kernel) (jw_cons ((je_item ((je_lst (ja_cons (je_int).z (ja_cons (je_int).z (ja_cons (je_int).z (ja_cons (je_int).z ja_nil)))))).v ((je_item (jv_var (pv 2)) (je_int).v (fun _ _ => rfl))).v (fun _ _ => rfl))).v (jw_cons (jv_var (pv 6)) jw_nil))))
      (jss_cons (js_set (i := 8) nd rfl (by first | exact Or.inl rfl | exact Or.inr rfl) (je_callB (ca_min rfl) (by rfl) (T.free (i := 10) rfl) (by decide +kernel) (jw_cons ((je_item ((je_lst (ja_cons (je_int).z (ja_cons (je_int).z (ja_cons (je_int).z (ja_cons (je_int).z (ja_cons (je_int).z (ja_cons (je_int).z (ja_cons (je_int).z (ja_cons ((je_var (pv 1))).z ja_nil)))))))))).v ((je_item (jv_var (pv 2)) (je_int).v (fun _ _ => rfl))).v (fun _ _ => rfl))).v (jw_cons ((je_op op_subD (jv_var (pv 1)) (jv_var (pv 6)))).v jw_nil))))
      (jss_cons (js_setLc (i := 9) (own := [("k", 5)]) rfl nd rfl rfl (sw_true rfl rfl rfl (by decide +kernel)) (ji_range1 (by rfl) (T.free (i := 1) rfl) (jw_cons (jv_var (pv 6)) jw_nil)) (blkOk_by (N := N__law_table) (sc := defScope s__law_table) (own := [("k", 5)]) (by decide +kernel)) (fun _ _ _ _ _ => (jg_name (pg_name (i := 5) nd rfl (by first | exact Or.inl rfl | exact Or.inr rfl)))) (fun _ _ _ _ _ => jts_nil) (fun _ _ _ _ _ => ((je_fx (ok__law_next T Z N) hr (by decide) (by rfl) takes0 (ja_cons ((je_var (pv 5))).z (ja_cons ((je_var (pv 7))).z (ja_cons ((je_item (jv_var (pv 2)) (je_int).v (fun _ _ => rfl))).z (ja_cons ((je_item (jv_var (pv 3)) (jv_var (pv 5)) (fun _ _ => rfl))).z ja_nil)))) (ALen.cons (ALen.cons (ALen.cons (ALen.cons ALen.nil)))))).z) (by decide))
      (jss_cons (js_for [5, 10] (passes_of rfl) rfl (ji_range1 (by rfl) (T.free (i := 1) rfl) (jw_cons ((je_op op_subD (jv_var (pv 1)) (jv_var (pv 6)))).v jw_nil)) (jg_name (pg_name (i := 5) nd rfl (by first | exact Or.inl rfl | exact Or.inr rfl))) (jss_cons (js_set (i := 10) nd rfl (by first | exact Or.inl rfl | exact Or.inr rfl) (je_fx (ok__law_next T Z N) hr (by decide) (by rfl) tk (ja_cons ((je_var (pv 5))).z (ja_cons ((je_var (pv 8))).z (ja_cons ((je_item (jv_var (pv 2)) (je_int).v (fun _ _ => rfl))).z (ja_cons ((je_item (jv_var (pv 3)) ((je_op op_addD (jv_var (pv 6)) (jv_var (pv 5)))).v (fun _ _ => rfl))).z ja_nil)))) (ALen.cons (ALen.cons (ALen.cons (ALen.cons ALen.nil))))))
      (jss_cons (js_if (jt_cmp op_isNotDD (jv_var (pv 10)) (je_non).v (nomark _)) (jss_one (js_set (i := 10) nd rfl (by first | exact Or.inl rfl | exact Or.inr rfl) (je_op op_addD (jv_var (pv 6)) (jv_var (pv 10))))) jss_nil)
      (jss_one (js_frw [10] (js_app (pv 9) ((je_var (pv 10))).z))))))
      (jss_cons (js_if (jt_cmp (op_eqDD hu) ((je_item (jv_var (pv 2)) (je_int).v (fun _ _ => rfl))).v (je_int).v (nomark _)) (jss_one (js_retv (pv 9))) jss_nil)
      (jss_cons (js_set (i := 11) nd rfl (by first | exact Or.inl rfl | exact Or.inr rfl) (je_fx (ok__law_order T Z N) hr (by decide) (by rfl) tk (ja_cons ((je_fx (ok__law_digits T Z N) hr (by decide) (by rfl) tk (ja_cons ((je_fx (ok__law_cell T Z N) hr (by decide) (by rfl) tk (ja_cons ((je_var (pv 0))).z (ja_cons (je_int).z ja_nil)) (ALen.cons (ALen.cons ALen.nil)))).z (ja_cons ((je_lc (own := [("k", 5)]) rfl nd (ji_range1 (by rfl) (T.free (i := 1) rfl) (jw_cons (jv_var (pv 1)) jw_nil)) (blkOk_by (N := N__law_table) (sc := defScope s__law_table) (own := [("k", 5)]) (by decide +kernel)) (fun _ _ _ _ _ => (jg_name (pg_name (i := 5) nd rfl (by first | exact Or.inl rfl | exact Or.inr rfl)))) (fun _ _ _ _ _ => jts_nil) (fun _ _ _ _ _ => ((je_op op_subD (jv_var (pv 1)) (jv_var (pv 5)))).z) (by decide))).z ja_nil)) (ALen.cons (ALen.cons ALen.nil)))).z ja_nil) (ALen.cons ALen.nil)))
      (jss_cons (js_set (i := 12) nd rfl (by first | exact Or.inl rfl | exact Or.inr rfl) (je_op op_mulD ((je_lst (ja_cons (je_non).z ja_nil))).v (jv_var (pv 1))))
      (jss_cons (js_for [5] (passes_of rfl) rfl (ji_range1 (by rfl) (T.free (i := 1) rfl) (jw_cons (jv_var (pv 1)) jw_nil)) (jg_name (pg_name (i := 5) nd rfl (by first | exact Or.inl rfl | exact Or.inr rfl))) (jss_one (js_if (jt_cmp op_isNotDD ((je_item (jv_var (pv 9)) (jv_var (pv 5)) (fun _ _ => rfl))).v (je_non).v (nomark _)) (jss_one (js_setItem (pv 12) ((je_item (jv_var (pv 11)) (jv_var (pv 5)) (fun _ _ => rfl))).v ((je_item (jv_var (pv 11)) ((je_item (jv_var (pv 9)) (jv_var (pv 5)) (fun _ _ => rfl))).v (fun _ _ => rfl))).z)) jss_nil)))
      (jss_one (js_retv (pv 12))))))))))))))))
abbrev N__law_back : List Str := ["table", "back", "other", "k"]
theorem sc__law_back : FnScope N__law_back ["table"] (defScope s__law_back) := ⟨rfl, rfl, rfl, by decide +kernel, rfl, by decide +kernel, by decide +kernel⟩
theorem ok__law_back (T : Tx fnL gloL frL csL clL naL K mg) (Z : Tz xL K) (N : SeerN P K mg) : Fx P w K mg base 1 ["table"] "_law_back" g__law_back_8863e := by
  refine fx_mk (N := N__law_back) (k := 0) (T.fn (i := 13) rfl) (T.glo (i := 13) rfl) sc__law_back (fun _ _ _ _ _ _ us hl => match us, hl with | [_], _ => rfl) (fun ds _ => rfl) ?_
  intro cdv A outer s H E hr
  have hu := hu65 hr
  have tk : Takes (cxOf (L2.CX P w) P w K mg base N__law_back "_law_back" (defScope s__law_back) (He.ga K "_law_back") cdv A outer s H E) (fun cls d _ H' => E cls d H') := takes_of rfl rfl rfl rfl
  have nd := (sc__law_back).nd
  exact (jss_cons (js_setRows (i := 1) (j := 2) (own := [("other", 2)]) rfl nd rfl rfl (sw_true rfl rfl rfl (by decide +kernel)) (ji_val ((je_var (pv 0))).z) (blkOk_by (N := N__law_back) (sc := defScope s__law_back) (own := [("other", 2)]) (by decide +kernel)) (fun _ _ _ _ _ => (jg_name (pg_name (i := 2) nd rfl (by first | exact Or.inl rfl | exact Or.inr rfl)))) (by decide))
      (jss_cons (js_for [3] (passes_of rfl) rfl (ji_range1 (by rfl) (T.free (i := 1) rfl) (jw_cons ((je_callB ca_len (by rfl) (T.free (i := 0) rfl) (by decide +kernel) (jw_cons (jv_var (pv 0)) jw_nil))).v jw_nil)) (jg_name (pg_name (i := 3) nd rfl (by first | exact Or.inl rfl | exact Or.inr rfl))) (jss_one (js_if (jt_cmp op_isNotDD ((je_item (jv_var (pv 0)) (jv_var (pv 3)) (fun _ _ => rfl))).v (je_non).v (nomark _)) (jss_one (js_rowApp (pv 1) ((je_item (jv_var (pv 0)) (jv_var (pv 3)) (fun _ _ => rfl))).v ((je_var (pv 3))).z (fun _ _ => rfl))) jss_nil)))
      (jss_one (js_frw [1] (js_retv (pv 1))))))
abbrev N__law_rows : List Str := ["back", "way", "cell", "near", "k", "sizes", "digits", "rows", "done"]
theorem sc__law_rows : FnScope N__law_rows ["back", "way", "cell"] (defScope s__law_rows) := ⟨rfl, rfl, rfl, by decide +kernel, rfl, by decide +kernel, by decide +kernel⟩
theorem ok__law_rows (T : Tx fnL gloL frL csL clL naL K mg) (Z : Tz xL K) (N : SeerN P K mg) : Fx P w K mg base 42 ["back", "way", "cell"] "_law_rows" g__law_rows_4ab23 := by
  refine fx_mk (N := N__law_rows) (k := 41) (T.fn (i := 14) rfl) (T.glo (i := 14) rfl) sc__law_rows (fun _ _ _ _ _ _ us hl => match us, hl with | [_, _, _], _ => rfl) (fun ds _ => rfl) ?_
  intro cdv A outer s H E hr
  have hu := hu65 hr
  have tk : Takes (cxOf (L2.CX P w) P w K mg base N__law_rows "_law_rows" (defScope s__law_rows) (He.ga K "_law_rows") cdv A outer s H E) (fun cls d _ H' => E cls d H') := takes_of rfl rfl rfl rfl
  have nd := (sc__law_rows).nd
  exact (jss_cons (js_if (jt_cmp op_ltD (jv_var (pv 1)) (je_int).v (nomark _)) (jss_one (js_ret (je_callTy ca_tuple (by rfl) (T.free (i := 2) rfl) (by decide +kernel) (jw_cons ((je_lc (own := [("near", 3)]) rfl nd (ji_val ((je_var (pv 0))).z) (blkOk_by (N := N__law_rows) (sc := defScope s__law_rows) (own := [("near", 3)]) (by decide +kernel)) (fun _ _ _ _ _ => (jg_name (pg_name (i := 3) nd rfl (by first | exact Or.inl rfl | exact Or.inr rfl)))) (fun _ _ _ _ _ => jts_nil) (fun _ _ _ _ _ => ((je_tupRng1 rfl (by rfl) (T.free (i := 2) rfl) (by rfl) (T.free (i := 1) rfl) (jw_cons ((je_op op_addD ((je_callB ca_len (by rfl) (T.free (i := 0) rfl) (by decide +kernel) (jw_cons (jv_var (pv 3)) jw_nil))).v (je_int).v)).v jw_nil))).z) (by decide))).v jw_nil)))) jss_nil)
      (jss_cons (js_if (jt_cmp (op_eqDD hu) (jv_var (pv 1)) (je_int).v (nomark _)) (jss_one (js_ret (je_callTy ca_tuple (by rfl) (T.free (i := 2) rfl) (by decide +kernel) (jw_cons ((je_lc (own := [("near", 3)]) rfl nd (ji_val ((je_var (pv 0))).z) (blkOk_by (N := N__law_rows) (sc := defScope s__law_rows) (own := [("near", 3)]) (by decide +kernel)) (fun _ _ _ _ _ => (jg_name (pg_name (i := 3) nd rfl (by first | exact Or.inl rfl | exact Or.inr rfl)))) (fun _ _ _ _ _ => jts_nil) (fun _ _ _ _ _ => ((je_callTy ca_tuple (by rfl) (T.free (i := 2) rfl) (by decide +kernel) (jw_cons ((je_lc (own := [("k", 4)]) rfl nd (ji_range1 (by rfl) (T.free (i := 1) rfl) (jw_cons ((je_op op_addD ((je_callB ca_len (by rfl) (T.free (i := 0) rfl) (by decide +kernel) (jw_cons (jv_var (pv 3)) jw_nil))).v (je_int).v)).v jw_nil)) (by exact (blkOk_by (N := N__law_rows) (sc := ⟨.function, [(".0", .local), ("near", .cell), ("tuple", .globalImplicit), ("range", .globalImplicit), ("len", .globalImplicit)], false, false, []⟩) (scope := ⟨.function, [(".0", .local), ("k", .local), ("len", .globalImplicit), ("near", .free)], false, false, []⟩) (own := [("k", 4)]) (by decide +kernel))) (fun _ _ _ _ _ => (jg_name (pg_name (i := 4) nd rfl (by first | exact Or.inl rfl | exact Or.inr rfl)))) (fun _ _ _ _ _ => jts_nil) (fun _ _ _ _ _ => ((je_op op_subD ((je_callB ca_len (by rfl) (T.free (i := 0) rfl) (by decide +kernel) (jw_cons (jv_var (pv 3)) jw_nil))).v (jv_var (pv 4)))).z) (by decide))).v jw_nil))).z) (by decide))).v jw_nil)))) jss_nil)
      (jss_cons (js_set (i := 5) nd rfl (by first | exact Or.inl rfl | exact Or.inr rfl) (je_lst ja_nil))
      (jss_cons (js_for [3, 4] (passes_of rfl) rfl (ji_val ((je_var (pv 0))).z) (jg_name (pg_name (i := 3) nd rfl (by first | exact Or.inl rfl | exact Or.inr rfl))) (jss_one (js_for [4] (passes_of rfl) rfl (ji_range1 (by rfl) (T.free (i := 1) rfl) (jw_cons ((je_op op_addD ((je_callB ca_len (by rfl) (T.free (i := 0) rfl) (by decide +kernel) (jw_cons (jv_var (pv 3)) jw_nil))).v (je_int).v)).v jw_nil)) (jg_name (pg_name (i := 4) nd rfl (by first | exact Or.inl rfl | exact Or.inr rfl))) (jss_one (js_app (pv 5) ((je_op op_subD ((je_op op_addD ((je_callB ca_len (by rfl) (T.free (i := 0) rfl) (by decide +kernel) (jw_cons (jv_var (pv 3)) jw_nil))).v (je_int).v)).v (jv_var (pv 4)))).z)))))
      (jss_cons (js_frw [5] (js_set (i := 6) nd rfl (by first | exact Or.inl rfl | exact Or.inr rfl) (je_fx (ok__law_digits T Z N) hr (by decide) (by rfl) tk (ja_cons ((je_var (pv 2))).z (ja_cons ((je_var (pv 5))).z ja_nil)) (ALen.cons (ALen.cons ALen.nil)))))
      (jss_cons (js_set (i := 7) nd rfl (by first | exact Or.inl rfl | exact Or.inr rfl) (je_lst ja_nil))
      (jss_cons (js_set (i := 8) nd rfl (by first | exact Or.inl rfl | exact Or.inr rfl) je_int)
      (jss_cons (js_for [3] (passes_of rfl) rfl (ji_val ((je_var (pv 0))).z) (jg_name (pg_name (i := 3) nd rfl (by first | exact Or.inl rfl | exact Or.inr rfl))) (jss_cons (js_app (pv 7) ((je_callTy ca_tuple (by rfl) (T.free (i := 2) rfl) (by decide +kernel) (jw_cons ((je_fx (ok__law_order T Z N) hr (by decide) (by rfl) tk (ja_cons ((je_slice (jv_var (pv 6)) (jo_some (jv_var (pv 8))) (jo_some ((je_op op_addD ((je_op op_addD (jv_var (pv 8)) ((je_callB ca_len (by rfl) (T.free (i := 0) rfl) (by decide +kernel) (jw_cons (jv_var (pv 3)) jw_nil))).v)).v (je_int).v)).v))).z ja_nil) (ALen.cons ALen.nil))).v jw_nil))).z)
      (jss_one (js_set (i := 8) nd rfl (by first | exact Or.inl rfl | exact Or.inr rfl) (je_op op_addD ((je_op op_addD (jv_var (pv 8)) ((je_callB ca_len (by rfl) (T.free (i := 0) rfl) (by decide +kernel) (jw_cons (jv_var (pv 3)) jw_nil))).v)).v (je_int).v)))))
      (jss_one (js_ret (je_callTy ca_tuple (by rfl) (T.free (i := 2) rfl) (by decide +kernel) (jw_cons (jv_var (pv 7)) jw_nil))))))))))))
abbrev N_Graph__init__ : List Str := ["self", "nexts", "rotation", "behind", "rows"]
theorem sc_Graph__init__ : FnScope N_Graph__init__ ["self", "nexts", "rotation"] (defScope s_Graph__init__) := ⟨rfl, rfl, rfl, by decide +kernel, rfl, by decide +kernel, by decide +kernel⟩
abbrev fD_Graph : He.DefD := ⟨("Graph", some "__init__"), "__init__", "Graph.__init__", defArgs s_Graph__init__, defBody s_Graph__init__, defScope s_Graph__init__, [.non], []⟩
theorem fi_Graph (T : Tx fnL gloL frL csL clL naL K mg) (Z : Tz xL K) (N : SeerN P K mg) : ∃ fd, FunD K fD_Graph.name fD_Graph.qual fD_Graph.params fD_Graph.body fD_Graph.scope (fD_Graph.dvs K) (fD_Graph.kws K) (He.ma K (He.ga K "Graph") "__init__") fd ∧ FnOk P w K mg base (L2.CX P w) 4 (He.ma K (He.ga K "Graph") "__init__") fd ["self", "nexts", "rotation"] (spI (kq P w K) 2 "Graph" g_Graph__init___c7e29) := by
  refine fi_mk (N := N_Graph__init__) (k := 3) (T.fn (i := 15) rfl) sc_Graph__init__ rfl (by decide) rfl (fun ds _ => rfl) ?_
  intro cdv A outer s H E hr
  have hu := hu65 hr
  have tk : Takes (cxOf (L2.CX P w) P w K mg base N_Graph__init__ "Graph.__init__" (defScope s_Graph__init__) (He.ma K (He.ga K "Graph") "__init__") cdv A outer s H E) (fun cls d _ H' => E cls d H') := takes_of rfl rfl rfl rfl
  have nd := (sc_Graph__init__).nd
  exact (jss_cons (js_expr (je_fx (ok_check_nexts T Z N) hr (by decide) (by rfl) tk (ja_cons ((je_var (pv 1))).z ja_nil) (ALen.cons ALen.nil)))
      (jss_cons (js_set (i := 3) nd rfl (by first | exact Or.inl rfl | exact Or.inr rfl) (je_fx (ok_predecessor_rows T Z N) hr (by decide) (by rfl) tk (ja_cons ((je_var (pv 1))).z ja_nil) (ALen.cons ALen.nil)))
      (jss_cons (js_frw [3] (js_set (i := 4) nd rfl (by first | exact Or.inl rfl | exact Or.inr rfl) (je_if (jt_cmp op_isDD (jv_var (pv 2)) (je_non).v (nomark _)) (je_fx (ok_plain_rows T Z N) hr (by decide) (by rfl) tk (ja_cons ((je_var (pv 3))).z ja_nil) (ALen.cons ALen.nil)) (je_var (pv 2)))))
      (jss_cons (js_frw [3, 4] (js_expr (je_fx (ok_check_rows T Z N) hr (by decide) (by rfl) tk (ja_cons ((je_var (pv 4))).z (ja_cons ((je_var (pv 3))).z ja_nil)) (ALen.cons (ALen.cons ALen.nil)))))
      (jss_cons (js_fld (c := "Graph") (T.cls (i := 0) rfl) (T.noat (i := 0) (p := ("Graph", "nexts")) rfl) (pv 0) ((je_var (pv 1))).z)
      (jss_cons (js_frw [4] (js_fld (c := "Graph") (T.cls (i := 0) rfl) (T.noat (i := 1) (p := ("Graph", "rotation")) rfl) (pv 0) ((je_var (pv 4))).z))
      (jss_one (js_frw [3] (js_fld (c := "Graph") (T.cls (i := 0) rfl) (T.noat (i := 2) (p := ("Graph", "behind")) rfl) (pv 0) ((je_var (pv 3))).z)))))))))
theorem ix_Graph (T : Tx fnL gloL frL csL clL naL K mg) (Z : Tz xL K) (N : SeerN P K mg) : Ix P w K mg base 4 2 [[], [.non]] "Graph" g_Graph__init___c7e29 := by
  refine ix_mk2 (fi_Graph T Z N) (T.glo (i := 27) rfl) (T.mkr (i := 0) rfl) ?_
  intro fd F dds hd
  simp only [List.mem_cons, List.not_mem_nil, or_false] at hd
  rcases hd with rfl | rfl
  · obtain ⟨ds, h1, h2⟩ := F.binds1 (ps := ["self", "nexts", "rotation"]) 3 1 (by simp [fnL, He.DefD.dvs]) (by rfl) (fun T kV doc pm an cdv ct us its h1 h2 => match us, its, h1, h2 with | [u0, u1, u2], [i0], _, _ => ⟨_, rfl, rfl⟩)
    exact ⟨_, ds, fun _ => .nil, h1, h2⟩
  · obtain ⟨ds, h1, h2⟩ := F.binds1 (ps := ["self", "nexts", "rotation"]) 2 0 (by simp [fnL, He.DefD.dvs]) (by rfl) (fun T kV doc pm an cdv ct us its h1 h2 => match us, its, h1, h2 with | [u0, u1], [i0], _, _ => ⟨_, rfl, rfl⟩)
    exact ⟨_, ds, fun _ => (.cons .non .nil), h1, h2⟩
theorem iq_0 (T : Tx fnL gloL frL csL clL naL K mg) (Z : Tz xL K) (N : SeerN P K mg) : Iq P w K mg base 4 2 "Graph" g_Graph__init___c7e29 1 ["rotation"] ([0, 1].map (· + 1)) [.non] := by
  obtain ⟨fd, F, O⟩ := fi_Graph (w := w) (base := base) T Z N
  obtain ⟨its, B⟩ := kwBd (ps := ["self", "nexts", "rotation"]) (ks := ["rotation"]) (n := 2) (ix := 0 :: [0, 1].map (· + 1)) F (by simp [He.DefD.dvs]) (fun T kV doc pm an cdv ct us its ws l1 l2 l3 => match us, its, ws, l1, l2, l3 with | [_, _], [_], [_], _, _, _ => ⟨_, rfl, rfl⟩)
  exact ⟨fd, _, _, its, O, T.mkr (i := 0) rfl, T.glo (i := 27) rfl, fun _ => (.cons .non .nil), B⟩
abbrev N__law_graph : List Str := ["table", "rows", "way"]
theorem sc__law_graph : FnScope N__law_graph ["table", "rows", "way"] (defScope s__law_graph) := ⟨rfl, rfl, rfl, by decide +kernel, rfl, by decide +kernel, by decide +kernel⟩
theorem ok__law_graph (T : Tx fnL gloL frL csL clL naL K mg) (Z : Tz xL K) (N : SeerN P K mg) : Fx P w K mg base 6 ["table", "rows", "way"] "_law_graph" g__law_graph_699c0 := by
  refine fx_mk (N := N__law_graph) (k := 5) (T.fn (i := 16) rfl) (T.glo (i := 15) rfl) sc__law_graph (fun _ _ _ _ _ _ us hl => match us, hl with | [_, _, _], _ => rfl) (fun ds _ => rfl) ?_
  intro cdv A outer s H E hr
  have hu := hu65 hr
  have tk : Takes (cxOf (L2.CX P w) P w K mg base N__law_graph "_law_graph" (defScope s__law_graph) (He.ga K "_law_graph") cdv A outer s H E) (fun cls d _ H' => E cls d H') := takes_of rfl rfl rfl rfl
  have nd := (sc__law_graph).nd
  exact (jss_cons (js_if (jt_cmp (op_eqDD hu) (jv_var (pv 2)) (je_int).v (nomark _)) (jss_one (js_ret (je_new (dds := [.non]) (ix_Graph T Z N) hr (by decide) (by rfl) tk (by simp) (ja_cons ((je_callTy ca_tuple (by rfl) (T.free (i := 2) rfl) (by decide +kernel) (jw_cons (jv_var (pv 0)) jw_nil))).z ja_nil) (ALen.cons ALen.nil) (by rfl)))) jss_nil)
      (jss_cons (js_if (jt_cmp (op_eqDD hu) (jv_var (pv 2)) (je_int).v (nomark _)) (jss_one (js_ret (je_newQ (ix := [0, 1]) (dds := [.non]) (iq_0 T Z N) hr (by decide) (by rfl) tk (jc_kw (ja_cons ((je_callTy ca_tuple (by rfl) (T.free (i := 2) rfl) (by decide +kernel) (jw_cons (jv_var (pv 0)) jw_nil))).z ja_nil) (ALen.cons ALen.nil) (jk_cons (je_non).z jk_nil) (ALen.cons ALen.nil))))) jss_nil)
      (jss_one (js_ret (je_newQ (ix := [0, 1]) (dds := [.non]) (iq_0 T Z N) hr (by decide) (by rfl) tk (jc_kw (ja_cons ((je_callTy ca_tuple (by rfl) (T.free (i := 2) rfl) (by decide +kernel) (jw_cons (jv_var (pv 0)) jw_nil))).z ja_nil) (ALen.cons ALen.nil) (jk_cons ((je_var (pv 1))).z jk_nil) (ALen.cons ALen.nil)))))))
abbrev N__law_fields : List Str := ["graph", "table", "rows", "k"]
theorem sc__law_fields : FnScope N__law_fields ["graph", "table", "rows"] (defScope s__law_fields) := ⟨rfl, rfl, rfl, by decide +kernel, rfl, by decide +kernel, by decide +kernel⟩
theorem ok__law_fields (T : Tx fnL gloL frL csL clL naL K mg) (Z : Tz xL K) (N : SeerN P K mg) : Fx P w K mg base 3 ["graph", "table", "rows"] "_law_fields" g__law_fields_24e42 := by
  refine fx_mk (N := N__law_fields) (k := 2) (T.fn (i := 17) rfl) (T.glo (i := 16) rfl) sc__law_fields (fun _ _ _ _ _ _ us hl => match us, hl with | [_, _, _], _ => rfl) (fun ds _ => rfl) ?_
  intro cdv A outer s H E hr
  have hu := hu65 hr
  have tk : Takes (cxOf (L2.CX P w) P w K mg base N__law_fields "_law_fields" (defScope s__law_fields) (He.ga K "_law_fields") cdv A outer s H E) (fun cls d _ H' => E cls d H') := takes_of rfl rfl rfl rfl
  have nd := (sc__law_fields).nd
  exact (jss_cons (js_if ((jw_or (jt_not (jt_val (je_isi (T := "tuple") (Ts := "tuple") (by decide +kernel) (by decide +kernel) (by rfl) (T.free (i := 5) rfl) (by rfl) (T.free (i := 2) rfl) ((je_fld (fld_nexts T) (jv_var (pv 0)))).v))) (jw_or1 (jt_cmp (op_neDD hu) ((je_callB ca_len (by rfl) (T.free (i := 0) rfl) (by decide +kernel) (jw_cons ((je_fld (fld_nexts T) (jv_var (pv 0)))).v jw_nil))).v ((je_callB ca_len (by rfl) (T.free (i := 0) rfl) (by decide +kernel) (jw_cons (jv_var (pv 1)) jw_nil))).v (nomark _))))).t (jss_one (js_ret je_bl)) jss_nil)
      (jss_cons (js_if ((jw_or (jt_not (jt_val (je_isi (T := "tuple") (Ts := "tuple") (by decide +kernel) (by decide +kernel) (by rfl) (T.free (i := 5) rfl) (by rfl) (T.free (i := 2) rfl) ((je_fld (fld_rotation T) (jv_var (pv 0)))).v))) (jw_or1 (jt_cmp (op_neDD hu) ((je_callB ca_len (by rfl) (T.free (i := 0) rfl) (by decide +kernel) (jw_cons ((je_fld (fld_rotation T) (jv_var (pv 0)))).v jw_nil))).v ((je_callB ca_len (by rfl) (T.free (i := 0) rfl) (by decide +kernel) (jw_cons (jv_var (pv 2)) jw_nil))).v (nomark _))))).t (jss_one (js_ret je_bl)) jss_nil)
      (jss_cons (js_for [3] (passes_of rfl) rfl (ji_range1 (by rfl) (T.free (i := 1) rfl) (jw_cons ((je_callB ca_len (by rfl) (T.free (i := 0) rfl) (by decide +kernel) (jw_cons (jv_var (pv 1)) jw_nil))).v jw_nil)) (jg_name (pg_name (i := 3) nd rfl (by first | exact Or.inl rfl | exact Or.inr rfl))) (jss_cons (js_if ((jw_or ((jw_and (jt_cmp op_isNotDD ((je_item ((je_fld (fld_nexts T) (jv_var (pv 0)))).v (jv_var (pv 3)) (fun _ _ => rfl))).v (je_non).v (nomark _)) (jw_and1 (jt_not (jt_val (je_fx (ok__law_whole T Z N) hr (by decide) (by rfl) tk (ja_cons ((je_item ((je_fld (fld_nexts T) (jv_var (pv 0)))).v (jv_var (pv 3)) (fun _ _ => rfl))).z ja_nil) (ALen.cons ALen.nil))))))).t (jw_or1 (jt_cmp (op_neDD hu) ((je_item ((je_fld (fld_nexts T) (jv_var (pv 0)))).v (jv_var (pv 3)) (fun _ _ => rfl))).v ((je_item (jv_var (pv 1)) (jv_var (pv 3)) (fun _ _ => rfl))).v (nomark _))))).t (jss_one (js_ret je_bl)) jss_nil)
      (jss_one (js_if ((jw_or (jt_not (jt_val (je_fx (ok__law_numbers T Z N) hr (by decide) (by rfl) tk (ja_cons ((je_item ((je_fld (fld_rotation T) (jv_var (pv 0)))).v (jv_var (pv 3)) (fun _ _ => rfl))).z ja_nil) (ALen.cons ALen.nil)))) (jw_or1 (jt_cmp (op_neDD hu) ((je_item ((je_fld (fld_rotation T) (jv_var (pv 0)))).v (jv_var (pv 3)) (fun _ _ => rfl))).v ((je_item (jv_var (pv 2)) (jv_var (pv 3)) (fun _ _ => rfl))).v (nomark _))))).t (jss_one (js_ret je_bl)) jss_nil))))
      (jss_one (js_ret je_bl)))))
abbrev N__law_harmed_next : List Str := ["kind", "many", "spot", "raw"]
theorem sc__law_harmed_next : FnScope N__law_harmed_next ["kind", "many", "spot", "raw"] (defScope s__law_harmed_next) := ⟨rfl, rfl, rfl, by decide +kernel, rfl, by decide +kernel, by decide +kernel⟩
theorem ok__law_harmed_next (T : Tx fnL gloL frL csL clL naL K mg) (Z : Tz xL K) (N : SeerN P K mg) : Fx P w K mg base 1 ["kind", "many", "spot", "raw"] "_law_harmed_next" g__law_harmed_next_bd52d := by
  refine fx_mk (N := N__law_harmed_next) (k := 0) (T.fn (i := 18) rfl) (T.glo (i := 17) rfl) sc__law_harmed_next (fun _ _ _ _ _ _ us hl => match us, hl with | [_, _, _, _], _ => rfl) (fun ds _ => rfl) ?_
  intro cdv A outer s H E hr
  have hu := hu65 hr
  have tk : Takes (cxOf (L2.CX P w) P w K mg base N__law_harmed_next "_law_harmed_next" (defScope s__law_harmed_next) (He.ga K "_law_harmed_next") cdv A outer s H E) (fun cls d _ H' => E cls d H') := takes_of rfl rfl rfl rfl
  have nd := (sc__law_harmed_next).nd
  exact (jss_cons (js_if (jt_cmp (op_eqDD hu) (jv_var (pv 0)) (je_int).v (nomark _)) (jss_one (js_ret (je_un un_negD (je_int).v))) jss_nil)
      (jss_cons (js_if (jt_cmp (op_eqDD hu) (jv_var (pv 0)) (je_int).v (nomark _)) (jss_one (js_retv (pv 1))) jss_nil)
      (jss_cons (js_if (jt_cmp (op_eqDD hu) (jv_var (pv 0)) (je_int).v (nomark _)) (jss_one (js_ret (je_op op_addD (jv_var (pv 1)) (je_int).v))) jss_nil)
      (jss_cons (js_if (jt_cmp (op_eqDD hu) (jv_var (pv 0)) (je_int).v (nomark _)) (jss_one (js_ret (je_op op_subD (je_int).v (jv_var (pv 1))))) jss_nil)
      (jss_cons (js_if (jt_cmp (op_eqDD hu) (jv_var (pv 0)) (je_int).v (nomark _)) (jss_one (js_retv (pv 3))) jss_nil)
      (jss_cons (js_if (jt_cmp (op_eqDD hu) (jv_var (pv 0)) (je_int).v (nomark _)) (jss_one (js_ret (je_op op_subD ((je_un un_negD (je_int).v)).v (jv_var (pv 3))))) jss_nil)
      (jss_cons (js_if (jt_cmp (op_eqDD hu) (jv_var (pv 0)) (je_int).v (nomark _)) (jss_one (js_ret je_non)) jss_nil)
      (jss_one (js_ret (je_item ((je_lst (ja_cons ((je_op op_subD (jv_var (pv 1)) (je_int).v)).z (ja_cons (je_int).z (ja_cons ((je_var (pv 2))).z ja_nil))))).v ((je_op op_subD (jv_var (pv 0)) (je_int).v)).v (fun _ _ => rfl)))))))))))
abbrev N__law_harmed_row : List Str := ["kind", "row", "other", "k", "raw", "tip", "wrong"]
theorem sc__law_harmed_row : FnScope N__law_harmed_row ["kind", "row", "other", "k", "raw"] (defScope s__law_harmed_row) := ⟨rfl, rfl, rfl, by decide +kernel, rfl, by decide +kernel, by decide +kernel⟩
theorem ok__law_harmed_row (T : Tx fnL gloL frL csL clL naL K mg) (Z : Tz xL K) (N : SeerN P K mg) : Fx P w K mg base 1 ["kind", "row", "other", "k", "raw"] "_law_harmed_row" g__law_harmed_row_beab3 := by
  refine fx_mk (N := N__law_harmed_row) (k := 0) (T.fn (i := 19) rfl) (T.glo (i := 18) rfl) sc__law_harmed_row (fun _ _ _ _ _ _ us hl => match us, hl with | [_, _, _, _, _], _ => rfl) (fun ds _ => rfl) ?_
  intro cdv A outer s H E hr
  have hu := hu65 hr
  have tk : Takes (cxOf (L2.CX P w) P w K mg base N__law_harmed_row "_law_harmed_row" (defScope s__law_harmed_row) (He.ga K "_law_harmed_row") cdv A outer s H E) (fun cls d _ H' => E cls d H') := takes_of rfl rfl rfl rfl
  have nd := (sc__law_harmed_row).nd
  exact (jss_cons (js_if (jt_cmp (op_eqDD hu) (jv_var (pv 0)) (je_int).v (nomark _)) (jss_one (js_ret (je_op op_addD ((je_slice (jv_var (pv 1)) jo_none (jo_some (jv_var (pv 3))))).v ((je_slice (jv_var (pv 1)) (jo_some ((je_op op_addD (jv_var (pv 3)) (je_int).v)).v) jo_none)).v))) jss_nil)
      (jss_cons (js_if (jt_cmp (op_eqDD hu) (jv_var (pv 0)) (je_int).v (nomark _)) (jss_one (js_ret (je_op op_addD ((je_op op_addD ((je_slice (jv_var (pv 1)) jo_none (jo_some (jv_var (pv 3))))).v ((je_tup (ja_cons ((je_item (jv_var (pv 1)) (jv_var (pv 3)) (fun _ _ => rfl))).z ja_nil))).v)).v ((je_slice (jv_var (pv 1)) (jo_some (jv_var (pv 3))) jo_none)).v))) jss_nil)
      (jss_cons (js_if (jt_cmp (op_eqDD hu) (jv_var (pv 0)) (je_int).v (nomark _)) (jss_one (js_ret (je_op op_addD (jv_var (pv 1)) ((je_tup (ja_cons ((je_callB ca_len (by rfl) (T.free (i := 0) rfl) (by decide +kernel) (jw_cons (jv_var (pv 1)) jw_nil))).z ja_nil))).v))) jss_nil)
      (jss_cons (js_if (jt_cmp (op_eqDD hu) (jv_var (pv 0)) (je_int).v (nomark _)) (jss_one (js_ret (je_tup ja_nil))) jss_nil)
      (jss_cons (js_if (jt_cmp (op_eqDD hu) (jv_var (pv 0)) (je_int).v (nomark _)) (jss_one (js_ret (je_callTy ca_tuple (by rfl) (T.free (i := 2) rfl) (by decide +kernel) (jw_cons ((je_lc (own := [("tip", 5)]) rfl nd (ji_val ((je_var (pv 1))).z) (blkOk_by (N := N__law_harmed_row) (sc := defScope s__law_harmed_row) (own := [("tip", 5)]) (by decide +kernel)) (fun _ _ _ _ _ => (jg_name (pg_name (i := 5) nd rfl (by first | exact Or.inl rfl | exact Or.inr rfl)))) (fun _ _ _ _ _ => jts_nil) (fun _ _ _ _ _ => ((je_op op_addD (jv_var (pv 5)) (je_int).v)).z) (by decide))).v jw_nil)))) jss_nil)
      (jss_cons (js_if (jt_cmp (op_eqDD hu) (jv_var (pv 0)) (je_int).v (nomark _)) (jss_one (js_retv (pv 2))) jss_nil)
      (jss_cons (js_if (jt_cmp (op_eqDD hu) (jv_var (pv 0)) (je_int).v (nomark _)) (jss_one (js_ret (je_rev (jv_var (pv 1)) (jo_some ((je_un un_negD (je_int).v)).v)))) jss_nil)
      (jss_cons (js_if (jt_cmp (op_eqDD hu) (jv_var (pv 0)) (je_int).v (nomark _)) (jss_one (js_ret (je_op op_addD ((je_slice (jv_var (pv 1)) (jo_some (jv_var (pv 3))) jo_none)).v ((je_slice (jv_var (pv 1)) jo_none (jo_some (jv_var (pv 3))))).v))) jss_nil)
      (jss_cons (js_set (i := 6) nd rfl (by first | exact Or.inl rfl | exact Or.inr rfl) (je_item ((je_lst (ja_cons ((je_item (jv_var (pv 1)) ((je_op op_modD ((je_op op_addD (jv_var (pv 3)) (je_int).v)).v ((je_callB ca_len (by rfl) (T.free (i := 0) rfl) (by decide +kernel) (jw_cons (jv_var (pv 1)) jw_nil))).v)).v (fun _ _ => rfl))).z (ja_cons ((je_callB ca_len (by rfl) (T.free (i := 0) rfl) (by decide +kernel) (jw_cons (jv_var (pv 1)) jw_nil))).z (ja_cons ((je_un un_negD (je_int).v)).z (ja_cons ((je_op op_subD ((je_item (jv_var (pv 1)) (jv_var (pv 3)) (fun _ _ => rfl))).v ((je_callB ca_len (by rfl) (T.free (i := 0) rfl) (by decide +kernel) (jw_cons (jv_var (pv 1)) jw_nil))).v)).z (ja_cons ((je_op op_addD ((je_item (jv_var (pv 1)) (jv_var (pv 3)) (fun _ _ => rfl))).v ((je_callB ca_len (by rfl) (T.free (i := 0) rfl) (by decide +kernel) (jw_cons (jv_var (pv 1)) jw_nil))).v)).z (ja_cons ((je_var (pv 4))).z ja_nil)))))))).v ((je_op op_subD (jv_var (pv 0)) (je_int).v)).v (fun _ _ => rfl)))
      (jss_one (js_frw [6] (js_ret (je_op op_addD ((je_op op_addD ((je_slice (jv_var (pv 1)) jo_none (jo_some (jv_var (pv 3))))).v ((je_tup (ja_cons ((je_var (pv 6))).z ja_nil))).v)).v ((je_slice (jv_var (pv 1)) (jo_some ((je_op op_addD (jv_var (pv 3)) (je_int).v)).v) jo_none)).v)))))))))))))
abbrev N__law_reach : List Str := ["cell"]
theorem sc__law_reach : FnScope N__law_reach ["cell"] (defScope s__law_reach) := ⟨rfl, rfl, rfl, by decide +kernel, rfl, by decide +kernel, by decide +kernel⟩
theorem ok__law_reach (T : Tx fnL gloL frL csL clL naL K mg) (Z : Tz xL K) (N : SeerN P K mg) : Fx P w K mg base 1 ["cell"] "_law_reach" g__law_reach_b40ea := by
  refine fx_mk (N := N__law_reach) (k := 0) (T.fn (i := 20) rfl) (T.glo (i := 19) rfl) sc__law_reach (fun _ _ _ _ _ _ us hl => match us, hl with | [_], _ => rfl) (fun ds _ => rfl) ?_
  intro cdv A outer s H E hr
  have hu := hu65 hr
  have tk : Takes (cxOf (L2.CX P w) P w K mg base N__law_reach "_law_reach" (defScope s__law_reach) (He.ga K "_law_reach") cdv A outer s H E) (fun cls d _ H' => E cls d H') := takes_of rfl rfl rfl rfl
  have nd := (sc__law_reach).nd
  exact (jss_cons (js_if (jt_cmp op_geD (jv_var (pv 0)) ((je_op op_powD (je_int).v (je_int).v)).v (nomark _)) (jss_one (js_ret (je_op op_subD (jv_var (pv 0)) ((je_op op_powD (je_int).v (je_int).v)).v))) jss_nil)
      (jss_one (js_ret (je_op op_modD ((je_callTy ca_int (by rfl) (T.free (i := 6) rfl) (by decide +kernel) (jw_cons (jv_var (pv 0)) jw_nil))).v (je_int).v))))
abbrev N__law_any_nexts : List Str := ["cell", "many", "wide", "low", "digit"]
theorem sc__law_any_nexts : FnScope N__law_any_nexts ["cell", "many", "wide", "low"] (defScope s__law_any_nexts) := ⟨rfl, rfl, rfl, by decide +kernel, rfl, by decide +kernel, by decide +kernel⟩
theorem ok__law_any_nexts (T : Tx fnL gloL frL csL clL naL K mg) (Z : Tz xL K) (N : SeerN P K mg) : Fx P w K mg base 42 ["cell", "many", "wide", "low"] "_law_any_nexts" g__law_any_nexts_e3e0b := by
  refine fx_mk (N := N__law_any_nexts) (k := 41) (T.fn (i := 21) rfl) (T.glo (i := 20) rfl) sc__law_any_nexts (fun _ _ _ _ _ _ us hl => match us, hl with | [_, _, _, _], _ => rfl) (fun ds _ => rfl) ?_
  intro cdv A outer s H E hr
  have hu := hu65 hr
  have tk : Takes (cxOf (L2.CX P w) P w K mg base N__law_any_nexts "_law_any_nexts" (defScope s__law_any_nexts) (He.ga K "_law_any_nexts") cdv A outer s H E) (fun cls d _ H' => E cls d H') := takes_of rfl rfl rfl rfl
  have nd := (sc__law_any_nexts).nd
  exact (jss_one (js_ret (je_lc (own := [("digit", 4)]) rfl nd (ji_val ((je_fx (ok__law_digits T Z N) hr (by decide) (by rfl) tk (ja_cons ((je_var (pv 0))).z (ja_cons ((je_op op_mulD ((je_lst (ja_cons ((je_op op_addD (jv_var (pv 2)) (je_int).v)).z ja_nil))).v (jv_var (pv 1)))).z ja_nil)) (ALen.cons (ALen.cons ALen.nil)))).z) (blkOk_by (N := N__law_any_nexts) (sc := defScope s__law_any_nexts) (own := [("digit", 4)]) (by decide +kernel)) (fun _ _ _ _ _ => (jg_name (pg_name (i := 4) nd rfl (by first | exact Or.inl rfl | exact Or.inr rfl)))) (fun _ _ _ _ _ => jts_nil) (fun _ _ _ _ _ => ((je_item ((je_lst (ja_cons ((je_op op_subD (jv_var (pv 4)) (jv_var (pv 3)))).z (ja_cons (je_non).z ja_nil)))).v ((je_callTy ca_int (by rfl) (T.free (i := 6) rfl) (by decide +kernel) (jw_cons ((je_cmp (op_eqDD hu) (jv_var (pv 4)) (jv_var (pv 2)) (nomark _))).v jw_nil))).v (fun _ _ => rfl))).z) (by decide))))
abbrev N__law_any_rows : List Str := ["back", "cell", "more", "lengths", "near", "sizes", "k", "place", "digits", "rows", "done", "length", "digit"]
theorem sc__law_any_rows : FnScope N__law_any_rows ["back", "cell", "more"] (defScope s__law_any_rows) := ⟨rfl, rfl, rfl, by decide +kernel, rfl, by decide +kernel, by decide +kernel⟩
theorem ok__law_any_rows (T : Tx fnL gloL frL csL clL naL K mg) (Z : Tz xL K) (N : SeerN P K mg) : Fx P w K mg base 42 ["back", "cell", "more"] "_law_any_rows" g__law_any_rows_12687 := by
  refine fx_mk (N := N__law_any_rows) (k := 41) (T.fn (i := 22) rfl) (T.glo (i := 21) rfl) sc__law_any_rows (fun _ _ _ _ _ _ us hl => match us, hl with | [_, _, _], _ => rfl) (fun ds _ => rfl) ?_
  intro cdv A outer s H E hr
  have hu := hu65 hr
  have tk : Takes (cxOf (L2.CX P w) P w K mg base N__law_any_rows "_law_any_rows" (defScope s__law_any_rows) (He.ga K "_law_any_rows") cdv A outer s H E) (fun cls d _ H' => E cls d H') := takes_of rfl rfl rfl rfl
  have nd := (sc__law_any_rows).nd
  exact (jss_cons (js_set (i := 3) nd rfl (by first | exact Or.inl rfl | exact Or.inr rfl) (je_fx (ok__law_digits T Z N) hr (by decide) (by rfl) tk (ja_cons ((je_var (pv 1))).z (ja_cons ((je_lc (own := [("near", 4)]) rfl nd (ji_val ((je_var (pv 0))).z) (blkOk_by (N := N__law_any_rows) (sc := defScope s__law_any_rows) (own := [("near", 4)]) (by decide +kernel)) (fun _ _ _ _ _ => (jg_name (pg_name (i := 4) nd rfl (by first | exact Or.inl rfl | exact Or.inr rfl)))) (fun _ _ _ _ _ => jts_nil) (fun _ _ _ _ _ => ((je_op op_addD ((je_callB ca_len (by rfl) (T.free (i := 0) rfl) (by decide +kernel) (jw_cons (jv_var (pv 4)) jw_nil))).v (je_int).v)).z) (by decide))).z ja_nil)) (ALen.cons (ALen.cons ALen.nil))))
      (jss_cons (js_set (i := 5) nd rfl (by first | exact Or.inl rfl | exact Or.inr rfl) (je_lst ja_nil))
      (jss_cons (js_for [6, 7] (passes_of rfl) rfl (ji_range1 (by rfl) (T.free (i := 1) rfl) (jw_cons ((je_callB ca_len (by rfl) (T.free (i := 0) rfl) (by decide +kernel) (jw_cons (jv_var (pv 0)) jw_nil))).v jw_nil)) (jg_name (pg_name (i := 6) nd rfl (by first | exact Or.inl rfl | exact Or.inr rfl))) (jss_one (js_for [7] (passes_of rfl) rfl (ji_range1 (by rfl) (T.free (i := 1) rfl) (jw_cons ((je_item (jv_var (pv 3)) (jv_var (pv 6)) (fun _ _ => rfl))).v jw_nil)) (jg_name (pg_name (i := 7) nd rfl (by first | exact Or.inl rfl | exact Or.inr rfl))) (jss_one (js_app (pv 5) ((je_op op_addD ((je_callB ca_len (by rfl) (T.free (i := 0) rfl) (by decide +kernel) (jw_cons ((je_item (jv_var (pv 0)) (jv_var (pv 6)) (fun _ _ => rfl))).v jw_nil))).v (je_int).v)).z)))))
      (jss_cons (js_frw [5] (js_set (i := 8) nd rfl (by first | exact Or.inl rfl | exact Or.inr rfl) (je_fx (ok__law_digits T Z N) hr (by decide) (by rfl) tk (ja_cons ((je_var (pv 2))).z (ja_cons ((je_var (pv 5))).z ja_nil)) (ALen.cons (ALen.cons ALen.nil)))))
      (jss_cons (js_set (i := 9) nd rfl (by first | exact Or.inl rfl | exact Or.inr rfl) (je_lst ja_nil))
      (jss_cons (js_set (i := 10) nd rfl (by first | exact Or.inl rfl | exact Or.inr rfl) je_int)
      (jss_cons (js_frw [3] (js_for [11] (passes_of rfl) rfl (ji_val ((je_var (pv 3))).z) (jg_name (pg_name (i := 11) nd rfl (by first | exact Or.inl rfl | exact Or.inr rfl))) (jss_cons (js_app (pv 9) ((je_callTy ca_tuple (by rfl) (T.free (i := 2) rfl) (by decide +kernel) (jw_cons ((je_lc (own := [("digit", 12)]) rfl nd (ji_val ((je_slice (jv_var (pv 8)) (jo_some (jv_var (pv 10))) (jo_some ((je_op op_addD (jv_var (pv 10)) (jv_var (pv 11)))).v))).z) (blkOk_by (N := N__law_any_rows) (sc := defScope s__law_any_rows) (own := [("digit", 12)]) (by decide +kernel)) (fun _ _ _ _ _ => (jg_name (pg_name (i := 12) nd rfl (by first | exact Or.inl rfl | exact Or.inr rfl)))) (fun _ _ _ _ _ => jts_nil) (fun _ _ _ _ _ => ((je_op op_subD (jv_var (pv 12)) (je_int).v)).z) (by decide))).v jw_nil))).z)
      (jss_one (js_set (i := 10) nd rfl (by first | exact Or.inl rfl | exact Or.inr rfl) (je_op op_addD (jv_var (pv 10)) (jv_var (pv 11))))))))
      (jss_one (js_ret (je_callTy ca_tuple (by rfl) (T.free (i := 2) rfl) (by decide +kernel) (jw_cons (jv_var (pv 9)) jw_nil)))))))))))
abbrev N__law_due : List Str := ["table", "rows", "way", "k", "back", "missing", "tip"]
theorem sc__law_due : FnScope N__law_due ["table", "rows", "way"] (defScope s__law_due) := ⟨rfl, rfl, rfl, by decide +kernel, rfl, by decide +kernel, by decide +kernel⟩
theorem ok__law_due (T : Tx fnL gloL frL csL clL naL K mg) (Z : Tz xL K) (N : SeerN P K mg) : Fx P w K mg base 2 ["table", "rows", "way"] "_law_due" g__law_due_a3c36 := by
  refine fx_mk (N := N__law_due) (k := 1) (T.fn (i := 23) rfl) (T.glo (i := 22) rfl) sc__law_due (fun _ _ _ _ _ _ us hl => match us, hl with | [_, _, _], _ => rfl) (fun ds _ => rfl) ?_
  intro cdv A outer s H E hr
  have hu := hu65 hr
  have tk : Takes (cxOf (L2.CX P w) P w K mg base N__law_due "_law_due" (defScope s__law_due) (He.ga K "_law_due") cdv A outer s H E) (fun cls d _ H' => E cls d H') := takes_of rfl rfl rfl rfl
  have nd := (sc__law_due).nd
  exact (jss_cons (js_for [3] (passes_of rfl) rfl (ji_range1 (by rfl) (T.free (i := 1) rfl) (jw_cons ((je_callB ca_len (by rfl) (T.free (i := 0) rfl) (by decide +kernel) (jw_cons (jv_var (pv 0)) jw_nil))).v jw_nil)) (jg_name (pg_name (i := 3) nd rfl (by first | exact Or.inl rfl | exact Or.inr rfl))) (jss_one (js_if ((jw_and (jt_cmp op_isNotDD ((je_item (jv_var (pv 0)) (jv_var (pv 3)) (fun _ _ => rfl))).v (je_non).v (nomark _)) (jw_and1 ((jw_or (jt_cmp op_ltD ((je_item (jv_var (pv 0)) (jv_var (pv 3)) (fun _ _ => rfl))).v (je_int).v (nomark _)) (jw_or1 (jt_cmp op_geD ((je_item (jv_var (pv 0)) (jv_var (pv 3)) (fun _ _ => rfl))).v ((je_callB ca_len (by rfl) (T.free (i := 0) rfl) (by decide +kernel) (jw_cons (jv_var (pv 0)) jw_nil))).v (nomark _))))).t))).t (jss_one (js_ret (je_lst (ja_cons (je_int).z (ja_cons ((je_var (pv 3))).z ja_nil))))) jss_nil)))
      (jss_cons (js_set (i := 4) nd rfl (by first | exact Or.inl rfl | exact Or.inr rfl) (je_fx (ok__law_back T Z N) hr (by decide) (by rfl) tk (ja_cons ((je_var (pv 0))).z ja_nil) (ALen.cons ALen.nil)))
      (jss_cons (js_for [3, 5] (passes_of rfl) rfl (ji_range1 (by rfl) (T.free (i := 1) rfl) (jw_cons ((je_callB ca_len (by rfl) (T.free (i := 0) rfl) (by decide +kernel) (jw_cons (jv_var (pv 0)) jw_nil))).v jw_nil)) (jg_name (pg_name (i := 3) nd rfl (by first | exact Or.inl rfl | exact Or.inr rfl))) (jss_cons (js_setLc (i := 5) (own := [("tip", 6)]) rfl nd rfl rfl (sw_true rfl rfl rfl (by decide +kernel)) (ji_range1 (by rfl) (T.free (i := 1) rfl) (jw_cons ((je_op op_addD ((je_callB ca_len (by rfl) (T.free (i := 0) rfl) (by decide +kernel) (jw_cons ((je_item (jv_var (pv 4)) (jv_var (pv 3)) (fun _ _ => rfl))).v jw_nil))).v (je_int).v)).v jw_nil)) (blkOk_by (N := N__law_due) (sc := defScope s__law_due) (own := [("tip", 6)]) (by decide +kernel)) (fun _ _ _ _ _ => (jg_name (pg_name (i := 6) nd rfl (by first | exact Or.inl rfl | exact Or.inr rfl)))) (fun _ _ _ _ _ => (jts_one (jt_cmp (op_notInDD hu) (jv_var (pv 6)) ((je_item (jv_var (pv 1)) (jv_var (pv 3)) (fun _ _ => rfl))).v (by rfl)))) (fun _ _ _ _ _ => ((je_var (pv 6))).z) (by decide))
      (jss_one (js_if ((jw_and (jt_cmp op_gtD (jv_var (pv 2)) (je_int).v (nomark _)) (jw_and1 ((jw_or (jt_cmp op_gtD ((je_callB ca_len (by rfl) (T.free (i := 0) rfl) (by decide +kernel) (jw_cons (jv_var (pv 5)) jw_nil))).v (je_int).v (nomark _)) (jw_or1 (jt_cmp (op_neDD hu) ((je_callB ca_len (by rfl) (T.free (i := 0) rfl) (by decide +kernel) (jw_cons ((je_item (jv_var (pv 1)) (jv_var (pv 3)) (fun _ _ => rfl))).v jw_nil))).v ((je_op op_addD ((je_callB ca_len (by rfl) (T.free (i := 0) rfl) (by decide +kernel) (jw_cons ((je_item (jv_var (pv 4)) (jv_var (pv 3)) (fun _ _ => rfl))).v jw_nil))).v (je_int).v)).v (nomark _))))).t))).t (jss_one (js_ret (je_lst (ja_cons (je_int).z (ja_cons ((je_var (pv 3))).z ja_nil))))) jss_nil))))
      (jss_one (js_ret (je_lst (ja_cons (je_int).z (ja_cons (je_int).z ja_nil))))))))
abbrev N__law_told : List Str := ["table", "rows", "way", "graph", "e", "due"]
theorem sc__law_told : FnScope N__law_told ["table", "rows", "way"] (defScope s__law_told) := ⟨rfl, rfl, rfl, by decide +kernel, rfl, by decide +kernel, by decide +kernel⟩
theorem ok__law_told (T : Tx fnL gloL frL csL clL naL K mg) (Z : Tz xL K) (N : SeerN P K mg) : Fx P w K mg base 43 ["table", "rows", "way"] "_law_told" g__law_told_5a9d2 := by
  refine fx_mk (N := N__law_told) (k := 42) (T.fn (i := 24) rfl) (T.glo (i := 23) rfl) sc__law_told (fun _ _ _ _ _ _ us hl => match us, hl with | [_, _, _], _ => rfl) (fun ds _ => rfl) ?_
  intro cdv A outer s H E hr
  have hu := hu65 hr
  have tk : Takes (cxOf (L2.CX P w) P w K mg base N__law_told "_law_told" (defScope s__law_told) (He.ga K "_law_told") cdv A outer s H E) (fun cls d _ H' => E cls d H') := takes_of rfl rfl rfl rfl
  have nd := (sc__law_told).nd
  exact (jss_cons (js_try rfl rfl rfl tk (fun _ _ _ tk hp => (jss_one (js_set (i := 3) nd rfl (by first | exact Or.inl rfl | exact Or.inr rfl) (je_fx (ok__law_graph T Z N) hr (by decide) (by rfl) tk (ja_cons ((je_var (pv 0))).z (ja_cons ((je_var (pv 1))).z (ja_cons ((je_var (pv 2))).z ja_nil))) (ALen.cons (ALen.cons (ALen.cons ALen.nil))))))) (.named (i := 4) ⟨by rfl, by decide, .inl (T.glo (i := 29) rfl)⟩ nd rfl rfl (tab := [("RoomError", false), ("BadText", false), ("BadLine", false), ("BadLibrary", false), ("ProcedureCycle", false), ("UnknownProgram", false), ("BadCode", false), ("BadGraph", true), ("BadRotation", false), ("BadBook", false), ("TooLarge", false), ("BadSnapshot", false)]) (Z.exm (i := 1) rfl) (fun _ _ => (jss_one (js_frw [4] (js_ret (je_lst (ja_cons (je_int).z (ja_cons ((je_xf (xfld_node Z) (jv_var (pv 4)))).z ja_nil))))))) (.named (i := 4) ⟨by rfl, by decide, .inl (T.glo (i := 28) rfl)⟩ nd rfl rfl (tab := [("RoomError", false), ("BadText", false), ("BadLine", false), ("BadLibrary", false), ("ProcedureCycle", false), ("UnknownProgram", false), ("BadCode", false), ("BadGraph", false), ("BadRotation", true), ("BadBook", false), ("TooLarge", false), ("BadSnapshot", false)]) (Z.exm (i := 0) rfl) (fun _ _ => (jss_one (js_frw [4] (js_ret (je_lst (ja_cons (je_int).z (ja_cons ((je_xf (xfld_at Z) (jv_var (pv 4)))).z ja_nil))))))) JH.nil)) (fun q hq => by simp only [List.mem_cons, List.not_mem_nil, or_false] at hq; rcases hq with rfl | rfl <;> simp))
      (jss_cons (js_set (i := 5) nd rfl (by first | exact Or.inl rfl | exact Or.inr rfl) (je_var (pv 1)))
      (jss_cons (js_if (jt_cmp op_ltD (jv_var (pv 2)) (je_int).v (nomark _)) (jss_one (js_set (i := 5) nd rfl (by first | exact Or.inl rfl | exact Or.inr rfl) (je_fx (ok__law_rows T Z N) hr (by decide) (by rfl) tk (ja_cons ((je_fx (ok__law_back T Z N) hr (by decide) (by rfl) tk (ja_cons ((je_var (pv 0))).z ja_nil) (ALen.cons ALen.nil))).z (ja_cons (je_int).z (ja_cons (je_int).z ja_nil))) (ALen.cons (ALen.cons (ALen.cons ALen.nil)))))) jss_nil)
      (jss_one (js_frw [3, 5] (js_ret (je_item ((je_lst (ja_cons ((je_lst (ja_cons (je_int).z (ja_cons (je_int).z ja_nil)))).z (ja_cons ((je_lst (ja_cons (je_int).z (ja_cons (je_int).z ja_nil)))).z ja_nil)))).v ((je_callTy ca_int (by rfl) (T.free (i := 6) rfl) (by decide +kernel) (jw_cons ((je_fx (ok__law_fields T Z N) hr (by decide) (by rfl) tk (ja_cons ((je_var (pv 3))).z (ja_cons ((je_var (pv 0))).z (ja_cons ((je_var (pv 5))).z ja_nil))) (ALen.cons (ALen.cons (ALen.cons ALen.nil))))).v jw_nil))).v (fun _ _ => rfl))))))))
abbrev N__law_class : List Str := ["table", "rows", "way", "e"]
theorem sc__law_class : FnScope N__law_class ["table", "rows", "way"] (defScope s__law_class) := ⟨rfl, rfl, rfl, by decide +kernel, rfl, by decide +kernel, by decide +kernel⟩
theorem ok__law_class (T : Tx fnL gloL frL csL clL naL K mg) (Z : Tz xL K) (N : SeerN P K mg) : Fx P w K mg base 7 ["table", "rows", "way"] "_law_class" g__law_class_ba2e6 := by
  refine fx_mk (N := N__law_class) (k := 6) (T.fn (i := 25) rfl) (T.glo (i := 24) rfl) sc__law_class (fun _ _ _ _ _ _ us hl => match us, hl with | [_, _, _], _ => rfl) (fun ds _ => rfl) ?_
  intro cdv A outer s H E hr
  have hu := hu65 hr
  have tk : Takes (cxOf (L2.CX P w) P w K mg base N__law_class "_law_class" (defScope s__law_class) (He.ga K "_law_class") cdv A outer s H E) (fun cls d _ H' => E cls d H') := takes_of rfl rfl rfl rfl
  have nd := (sc__law_class).nd
  exact (jss_cons (js_try rfl rfl rfl tk (fun _ _ _ tk hp => (jss_one (js_expr (je_fx (ok__law_graph T Z N) hr (by decide) (by rfl) tk (ja_cons ((je_var (pv 0))).z (ja_cons ((je_var (pv 1))).z (ja_cons ((je_var (pv 2))).z ja_nil))) (ALen.cons (ALen.cons (ALen.cons ALen.nil))))))) (.named (i := 3) ⟨by rfl, by decide, .inl (T.glo (i := 39) rfl)⟩ nd rfl rfl (tab := [("RoomError", true), ("BadText", true), ("BadLine", true), ("BadLibrary", true), ("ProcedureCycle", true), ("UnknownProgram", true), ("BadCode", true), ("BadGraph", true), ("BadRotation", true), ("BadBook", true), ("TooLarge", true), ("BadSnapshot", true)]) (Z.exm (i := 2) rfl) (fun _ _ => (jss_cons (js_frw [3] (js_if ((jw_or (jt_not (jt_val (je_xis (tab := [("RoomError", true), ("BadText", true), ("BadLine", true), ("BadLibrary", true), ("ProcedureCycle", true), ("UnknownProgram", true), ("BadCode", true), ("BadGraph", true), ("BadRotation", true), ("BadBook", true), ("TooLarge", true), ("BadSnapshot", true)]) (nm_blt (T := "ValueError") (Ts := "ValueError") (by rfl) (T.free (i := 11) rfl) (by decide +kernel)) (fun q hq => Z.kib (i := 0) (p := ("ValueError", [("RoomError", true), ("BadText", true), ("BadLine", true), ("BadLibrary", true), ("ProcedureCycle", true), ("UnknownProgram", true), ("BadCode", true), ("BadGraph", true), ("BadRotation", true), ("BadBook", true), ("TooLarge", true), ("BadSnapshot", true)])) rfl q hq) (by rfl) (T.free (i := 5) rfl) (jv_var (pv 3))))) (jw_or1 (jt_cmp (op_eqDD hu) ((je_xis (tab := [("RoomError", false), ("BadText", false), ("BadLine", false), ("BadLibrary", false), ("ProcedureCycle", false), ("UnknownProgram", false), ("BadCode", false), ("BadGraph", true), ("BadRotation", false), ("BadBook", false), ("TooLarge", false), ("BadSnapshot", false)]) (nm_own (T := "BadGraph") (by rfl) (T.glo (i := 29) rfl)) (fun q hq => Z.kit (i := 0) (p := ("BadGraph", [("RoomError", false), ("BadText", false), ("BadLine", false), ("BadLibrary", false), ("ProcedureCycle", false), ("UnknownProgram", false), ("BadCode", false), ("BadGraph", true), ("BadRotation", false), ("BadBook", false), ("TooLarge", false), ("BadSnapshot", false)])) rfl q hq) (by rfl) (T.free (i := 5) rfl) (jv_var (pv 3)))).v ((je_xis (tab := [("RoomError", false), ("BadText", false), ("BadLine", false), ("BadLibrary", false), ("ProcedureCycle", false), ("UnknownProgram", false), ("BadCode", false), ("BadGraph", false), ("BadRotation", true), ("BadBook", false), ("TooLarge", false), ("BadSnapshot", false)]) (nm_own (T := "BadRotation") (by rfl) (T.glo (i := 28) rfl)) (fun q hq => Z.kit (i := 1) (p := ("BadRotation", [("RoomError", false), ("BadText", false), ("BadLine", false), ("BadLibrary", false), ("ProcedureCycle", false), ("UnknownProgram", false), ("BadCode", false), ("BadGraph", false), ("BadRotation", true), ("BadBook", false), ("TooLarge", false), ("BadSnapshot", false)])) rfl q hq) (by rfl) (T.free (i := 5) rfl) (jv_var (pv 3)))).v (nomark _))))).t (jss_one (js_ret (je_un un_negD (je_int).v))) jss_nil))
      (jss_cons (js_frw [3] (js_if ((jw_or (jt_val (je_xis (tab := [("RoomError", false), ("BadText", true), ("BadLine", false), ("BadLibrary", false), ("ProcedureCycle", false), ("UnknownProgram", false), ("BadCode", false), ("BadGraph", false), ("BadRotation", false), ("BadBook", false), ("TooLarge", false), ("BadSnapshot", false)]) (nm_own (T := "BadText") (by rfl) (T.glo (i := 30) rfl)) (fun q hq => Z.kit (i := 2) (p := ("BadText", [("RoomError", false), ("BadText", true), ("BadLine", false), ("BadLibrary", false), ("ProcedureCycle", false), ("UnknownProgram", false), ("BadCode", false), ("BadGraph", false), ("BadRotation", false), ("BadBook", false), ("TooLarge", false), ("BadSnapshot", false)])) rfl q hq) (by rfl) (T.free (i := 5) rfl) (jv_var (pv 3)))) (jw_or (jt_val (je_xis (tab := [("RoomError", false), ("BadText", false), ("BadLine", true), ("BadLibrary", false), ("ProcedureCycle", false), ("UnknownProgram", false), ("BadCode", false), ("BadGraph", false), ("BadRotation", false), ("BadBook", false), ("TooLarge", false), ("BadSnapshot", false)]) (nm_own (T := "BadLine") (by rfl) (T.glo (i := 31) rfl)) (fun q hq => Z.kit (i := 3) (p := ("BadLine", [("RoomError", false), ("BadText", false), ("BadLine", true), ("BadLibrary", false), ("ProcedureCycle", false), ("UnknownProgram", false), ("BadCode", false), ("BadGraph", false), ("BadRotation", false), ("BadBook", false), ("TooLarge", false), ("BadSnapshot", false)])) rfl q hq) (by rfl) (T.free (i := 5) rfl) (jv_var (pv 3)))) (jw_or (jt_val (je_xis (tab := [("RoomError", false), ("BadText", false), ("BadLine", false), ("BadLibrary", true), ("ProcedureCycle", false), ("UnknownProgram", false), ("BadCode", false), ("BadGraph", false), ("BadRotation", false), ("BadBook", false), ("TooLarge", false), ("BadSnapshot", false)]) (nm_own (T := "BadLibrary") (by rfl) (T.glo (i := 32) rfl)) (fun q hq => Z.kit (i := 4) (p := ("BadLibrary", [("RoomError", false), ("BadText", false), ("BadLine", false), ("BadLibrary", true), ("ProcedureCycle", false), ("UnknownProgram", false), ("BadCode", false), ("BadGraph", false), ("BadRotation", false), ("BadBook", false), ("TooLarge", false), ("BadSnapshot", false)])) rfl q hq) (by rfl) (T.free (i := 5) rfl) (jv_var (pv 3)))) (jw_or1 (jt_val (je_xis (tab := [("RoomError", false), ("BadText", false), ("BadLine", false), ("BadLibrary", false), ("ProcedureCycle", true), ("UnknownProgram", false), ("BadCode", false), ("BadGraph", false), ("BadRotation", false), ("BadBook", false), ("TooLarge", false), ("BadSnapshot", false)]) (nm_own (T := "ProcedureCycle") (by rfl) (T.glo (i := 33) rfl)) (fun q hq => Z.kit (i := 5) (p := ("ProcedureCycle", [("RoomError", false), ("BadText", false), ("BadLine", false), ("BadLibrary", false), ("ProcedureCycle", true), ("UnknownProgram", false), ("BadCode", false), ("BadGraph", false), ("BadRotation", false), ("BadBook", false), ("TooLarge", false), ("BadSnapshot", false)])) rfl q hq) (by rfl) (T.free (i := 5) rfl) (jv_var (pv 3))))))))).t (jss_one (js_ret (je_un un_negD (je_int).v))) jss_nil))
      (jss_cons (js_frw [3] (js_if ((jw_or (jt_val (je_xis (tab := [("RoomError", false), ("BadText", false), ("BadLine", false), ("BadLibrary", false), ("ProcedureCycle", false), ("UnknownProgram", true), ("BadCode", false), ("BadGraph", false), ("BadRotation", false), ("BadBook", false), ("TooLarge", false), ("BadSnapshot", false)]) (nm_own (T := "UnknownProgram") (by rfl) (T.glo (i := 34) rfl)) (fun q hq => Z.kit (i := 6) (p := ("UnknownProgram", [("RoomError", false), ("BadText", false), ("BadLine", false), ("BadLibrary", false), ("ProcedureCycle", false), ("UnknownProgram", true), ("BadCode", false), ("BadGraph", false), ("BadRotation", false), ("BadBook", false), ("TooLarge", false), ("BadSnapshot", false)])) rfl q hq) (by rfl) (T.free (i := 5) rfl) (jv_var (pv 3)))) (jw_or (jt_val (je_xis (tab := [("RoomError", false), ("BadText", false), ("BadLine", false), ("BadLibrary", false), ("ProcedureCycle", false), ("UnknownProgram", false), ("BadCode", true), ("BadGraph", false), ("BadRotation", false), ("BadBook", false), ("TooLarge", false), ("BadSnapshot", false)]) (nm_own (T := "BadCode") (by rfl) (T.glo (i := 35) rfl)) (fun q hq => Z.kit (i := 7) (p := ("BadCode", [("RoomError", false), ("BadText", false), ("BadLine", false), ("BadLibrary", false), ("ProcedureCycle", false), ("UnknownProgram", false), ("BadCode", true), ("BadGraph", false), ("BadRotation", false), ("BadBook", false), ("TooLarge", false), ("BadSnapshot", false)])) rfl q hq) (by rfl) (T.free (i := 5) rfl) (jv_var (pv 3)))) (jw_or (jt_val (je_xis (tab := [("RoomError", false), ("BadText", false), ("BadLine", false), ("BadLibrary", false), ("ProcedureCycle", false), ("UnknownProgram", false), ("BadCode", false), ("BadGraph", false), ("BadRotation", false), ("BadBook", true), ("TooLarge", false), ("BadSnapshot", false)]) (nm_own (T := "BadBook") (by rfl) (T.glo (i := 36) rfl)) (fun q hq => Z.kit (i := 8) (p := ("BadBook", [("RoomError", false), ("BadText", false), ("BadLine", false), ("BadLibrary", false), ("ProcedureCycle", false), ("UnknownProgram", false), ("BadCode", false), ("BadGraph", false), ("BadRotation", false), ("BadBook", true), ("TooLarge", false), ("BadSnapshot", false)])) rfl q hq) (by rfl) (T.free (i := 5) rfl) (jv_var (pv 3)))) (jw_or1 (jt_val (je_xis (tab := [("RoomError", false), ("BadText", false), ("BadLine", false), ("BadLibrary", false), ("ProcedureCycle", false), ("UnknownProgram", false), ("BadCode", false), ("BadGraph", false), ("BadRotation", false), ("BadBook", false), ("TooLarge", true), ("BadSnapshot", false)]) (nm_own (T := "TooLarge") (by rfl) (T.glo (i := 37) rfl)) (fun q hq => Z.kit (i := 9) (p := ("TooLarge", [("RoomError", false), ("BadText", false), ("BadLine", false), ("BadLibrary", false), ("ProcedureCycle", false), ("UnknownProgram", false), ("BadCode", false), ("BadGraph", false), ("BadRotation", false), ("BadBook", false), ("TooLarge", true), ("BadSnapshot", false)])) rfl q hq) (by rfl) (T.free (i := 5) rfl) (jv_var (pv 3))))))))).t (jss_one (js_ret (je_un un_negD (je_int).v))) jss_nil))
      (jss_cons (js_frw [3] (js_if (jt_val (je_xis (tab := [("RoomError", false), ("BadText", false), ("BadLine", false), ("BadLibrary", false), ("ProcedureCycle", false), ("UnknownProgram", false), ("BadCode", false), ("BadGraph", false), ("BadRotation", false), ("BadBook", false), ("TooLarge", false), ("BadSnapshot", true)]) (nm_own (T := "BadSnapshot") (by rfl) (T.glo (i := 38) rfl)) (fun q hq => Z.kit (i := 10) (p := ("BadSnapshot", [("RoomError", false), ("BadText", false), ("BadLine", false), ("BadLibrary", false), ("ProcedureCycle", false), ("UnknownProgram", false), ("BadCode", false), ("BadGraph", false), ("BadRotation", false), ("BadBook", false), ("TooLarge", false), ("BadSnapshot", true)])) rfl q hq) (by rfl) (T.free (i := 5) rfl) (jv_var (pv 3)))) (jss_one (js_ret (je_un un_negD (je_int).v))) jss_nil))
      (jss_one (js_frw [3] (js_ret (je_op op_addD (je_int).v ((je_callTy ca_int (by rfl) (T.free (i := 6) rfl) (by decide +kernel) (jw_cons ((je_xis (tab := [("RoomError", false), ("BadText", false), ("BadLine", false), ("BadLibrary", false), ("ProcedureCycle", false), ("UnknownProgram", false), ("BadCode", false), ("BadGraph", false), ("BadRotation", true), ("BadBook", false), ("TooLarge", false), ("BadSnapshot", false)]) (nm_own (T := "BadRotation") (by rfl) (T.glo (i := 28) rfl)) (fun q hq => Z.kit (i := 1) (p := ("BadRotation", [("RoomError", false), ("BadText", false), ("BadLine", false), ("BadLibrary", false), ("ProcedureCycle", false), ("UnknownProgram", false), ("BadCode", false), ("BadGraph", false), ("BadRotation", true), ("BadBook", false), ("TooLarge", false), ("BadSnapshot", false)])) rfl q hq) (by rfl) (T.free (i := 5) rfl) (jv_var (pv 3)))).v jw_nil))).v))))))))) JH.nil) (fun q hq => by simp only [List.mem_cons, List.not_mem_nil, or_false] at hq; rcases hq with rfl <;> simp))
      (jss_one (js_ret je_int)))
abbrev N__law_fielded : List Str := ["one", "two", "told", "number"]
theorem sc__law_fielded : FnScope N__law_fielded ["one", "two"] (defScope s__law_fielded) := ⟨rfl, rfl, rfl, by decide +kernel, rfl, by decide +kernel, by decide +kernel⟩
theorem ok__law_fielded (T : Tx fnL gloL frL csL clL naL K mg) (Z : Tz xL K) (N : SeerN P K mg) : Fx P w K mg base 3 ["one", "two"] "_law_fielded" g__law_fielded_68063 := by
  refine fx_mk (N := N__law_fielded) (k := 2) (T.fn (i := 26) rfl) (T.glo (i := 25) rfl) sc__law_fielded (fun _ _ _ _ _ _ us hl => match us, hl with | [_, _], _ => rfl) (fun ds _ => rfl) ?_
  intro cdv A outer s H E hr
  have hu := hu65 hr
  have tk : Takes (cxOf (L2.CX P w) P w K mg base N__law_fielded "_law_fielded" (defScope s__law_fielded) (He.ga K "_law_fielded") cdv A outer s H E) (fun cls d _ H' => E cls d H') := takes_of rfl rfl rfl rfl
  have nd := (sc__law_fielded).nd
  exact (jss_cons (js_set (i := 2) nd rfl (by first | exact Or.inl rfl | exact Or.inr rfl) (je_lst (ja_cons ((je_xf (xfld_node Z) ((je_xnewQ (ix := [0]) (xq_0 T Z N) hr (by decide) (by rfl) (jc_pos (ja_cons ((je_var (pv 0))).z ja_nil) (ALen.cons ALen.nil)))).v)).z (ja_cons ((je_xf (xfld_node Z) ((je_xnewQ (ix := [0]) (xq_1 T Z N) hr (by decide) (by rfl) (jc_kw0 (jk_cons ((je_var (pv 1))).z jk_nil) (ALen.cons ALen.nil)))).v)).z (ja_cons ((je_xf (xfld_at Z) ((je_xnewQ (ix := [0]) (xq_2 T Z N) hr (by decide) (by rfl) (jc_pos (ja_cons ((je_var (pv 1))).z ja_nil) (ALen.cons ALen.nil)))).v)).z (ja_cons ((je_xf (xfld_at Z) ((je_xnewQ (ix := [0]) (xq_3 T Z N) hr (by decide) (by rfl) (jc_kw0 (jk_cons ((je_var (pv 0))).z jk_nil) (ALen.cons ALen.nil)))).v)).z ja_nil))))))
      (jss_one (js_frw [2] (js_ret (je_andV ((je_callB (ca_all rfl) (by rfl) (T.free (i := 8) rfl) (by decide +kernel) (jw_cons ((je_lc (own := [("number", 3)]) rfl nd (ji_val ((je_var (pv 2))).z) (blkOk_by (N := N__law_fielded) (sc := defScope s__law_fielded) (own := [("number", 3)]) (by decide +kernel)) (fun _ _ _ _ _ => (jg_name (pg_name (i := 3) nd rfl (by first | exact Or.inl rfl | exact Or.inr rfl)))) (fun _ _ _ _ _ => jts_nil) (fun _ _ _ _ _ => ((je_fx (ok__law_whole T Z N) hr (by decide) (by rfl) takes0 (ja_cons ((je_var (pv 3))).z ja_nil) (ALen.cons ALen.nil))).z) (by decide))).v jw_nil))).z (je_one (je_cmp (op_eqDD hu) (jv_var (pv 2)) ((je_lst (ja_cons ((je_var (pv 0))).z (ja_cons ((je_var (pv 1))).z (ja_cons ((je_var (pv 1))).z (ja_cons ((je_var (pv 0))).z ja_nil)))))).v (nomark _))))))))
abbrev N_law : List Str := ["script", "many", "table", "back", "row", "way", "rows", "changed", "wide", "k", "harm", "harmed", "old", "other", "due", "told"]
theorem sc_law : FnScope N_law ["script"] (defScope s_law) := ⟨rfl, rfl, rfl, by decide +kernel, rfl, by decide +kernel, by decide +kernel⟩
theorem ok_law (T : Tx fnL gloL frL csL clL naL K mg) (Z : Tz xL K) (N : SeerN P K mg) : Fx P w K mg base 44 ["script"] "law" g_law_bc23d := by
  refine fx_mk (N := N_law) (k := 43) (T.fn (i := 27) rfl) (T.glo (i := 26) rfl) sc_law (fun _ _ _ _ _ _ us hl => match us, hl with | [_], _ => rfl) (fun ds _ => rfl) ?_
  intro cdv A outer s H E hr
  have hu := hu65 hr
  have tk : Takes (cxOf (L2.CX P w) P w K mg base N_law "law" (defScope s_law) (He.ga K "law") cdv A outer s H E) (fun cls d _ H' => E cls d H') := takes_of rfl rfl rfl rfl
  have nd := (sc_law).nd
  exact (jss_cons (js_set (i := 1) nd rfl (by first | exact Or.inl rfl | exact Or.inr rfl) (je_fx (ok__law_many T Z N) hr (by decide) (by rfl) tk (ja_cons ((je_fx (ok__law_digits T Z N) hr (by decide) (by rfl) tk (ja_cons ((je_fx (ok__law_cell T Z N) hr (by decide) (by rfl) tk (ja_cons ((je_var (pv 0))).z (ja_cons (je_int).z ja_nil)) (ALen.cons (ALen.cons ALen.nil)))).z (ja_cons ((je_lst (ja_cons (je_int).z (ja_cons (je_int).z (ja_cons (je_int).z (ja_cons (je_int).z (ja_cons (je_int).z ja_nil))))))).z ja_nil)) (ALen.cons (ALen.cons ALen.nil)))).z ja_nil) (ALen.cons ALen.nil)))
      (jss_cons (js_frw [1] (js_set (i := 2) nd rfl (by first | exact Or.inl rfl | exact Or.inr rfl) (je_fx (ok__law_table T Z N) hr (by decide) (by rfl) tk (ja_cons ((je_var (pv 0))).z (ja_cons ((je_var (pv 1))).z ja_nil)) (ALen.cons (ALen.cons ALen.nil)))))
      (jss_cons (js_frw [2] (js_set (i := 3) nd rfl (by first | exact Or.inl rfl | exact Or.inr rfl) (je_fx (ok__law_back T Z N) hr (by decide) (by rfl) tk (ja_cons ((je_var (pv 2))).z ja_nil) (ALen.cons ALen.nil))))
      (jss_cons (js_set (i := 4) nd rfl (by first | exact Or.inl rfl | exact Or.inr rfl) (je_fx (ok__law_digits T Z N) hr (by decide) (by rfl) tk (ja_cons ((je_fx (ok__law_cell T Z N) hr (by decide) (by rfl) tk (ja_cons ((je_var (pv 0))).z (ja_cons (je_int).z ja_nil)) (ALen.cons (ALen.cons ALen.nil)))).z (ja_cons ((je_lst (ja_cons (je_int).z (ja_cons (je_int).z (ja_cons (je_int).z (ja_cons (je_int).z ja_nil)))))).z ja_nil)) (ALen.cons (ALen.cons ALen.nil))))
      (jss_cons (js_set (i := 5) nd rfl (by first | exact Or.inl rfl | exact Or.inr rfl) (je_item (jv_var (pv 4)) (je_int).v (fun _ _ => rfl)))
      (jss_cons (js_frw [3] (js_set (i := 6) nd rfl (by first | exact Or.inl rfl | exact Or.inr rfl) (je_fx (ok__law_rows T Z N) hr (by decide) (by rfl) tk (ja_cons ((je_var (pv 3))).z (ja_cons ((je_op op_addD (je_int).v ((je_item (jv_var (pv 4)) (je_int).v (fun _ _ => rfl))).v)).z (ja_cons ((je_fx (ok__law_cell T Z N) hr (by decide) (by rfl) tk (ja_cons ((je_var (pv 0))).z (ja_cons (je_int).z ja_nil)) (ALen.cons (ALen.cons ALen.nil)))).z ja_nil))) (ALen.cons (ALen.cons (ALen.cons ALen.nil))))))
      (jss_cons (js_set (i := 7) nd rfl (by first | exact Or.inl rfl | exact Or.inr rfl) (je_callTy ca_list (by rfl) (T.free (i := 4) rfl) (by decide +kernel) (jw_cons (jv_var (pv 2)) jw_nil)))
      (jss_cons (js_if (jt_cmp (op_eqDD hu) ((je_item (jv_var (pv 4)) (je_int).v (fun _ _ => rfl))).v (je_int).v (nomark _)) (jss_cons (js_set (i := 8) nd rfl (by first | exact Or.inl rfl | exact Or.inr rfl) (je_op op_addD ((je_op op_addD (jv_var (pv 1)) (je_int).v)).v ((je_fx (ok__law_reach T Z N) hr (by decide) (by rfl) tk (ja_cons ((je_fx (ok__law_cell T Z N) hr (by decide) (by rfl) tk (ja_cons ((je_var (pv 0))).z (ja_cons (je_int).z ja_nil)) (ALen.cons (ALen.cons ALen.nil)))).z ja_nil) (ALen.cons ALen.nil))).v))
      (jss_one (js_frw [1] (js_set (i := 7) nd rfl (by first | exact Or.inl rfl | exact Or.inr rfl) (je_fx (ok__law_any_nexts T Z N) hr (by decide) (by rfl) tk (ja_cons ((je_fx (ok__law_cell T Z N) hr (by decide) (by rfl) tk (ja_cons ((je_var (pv 0))).z (ja_cons (je_int).z ja_nil)) (ALen.cons (ALen.cons ALen.nil)))).z (ja_cons ((je_var (pv 1))).z (ja_cons ((je_var (pv 8))).z (ja_cons ((je_op op_modD ((je_callTy ca_int (by rfl) (T.free (i := 6) rfl) (by decide +kernel) (jw_cons ((je_fx (ok__law_reach T Z N) hr (by decide) (by rfl) tk (ja_cons ((je_fx (ok__law_cell T Z N) hr (by decide) (by rfl) tk (ja_cons ((je_var (pv 0))).z (ja_cons (je_int).z ja_nil)) (ALen.cons (ALen.cons ALen.nil)))).z ja_nil) (ALen.cons ALen.nil))).v jw_nil))).v (jv_var (pv 8)))).z ja_nil)))) (ALen.cons (ALen.cons (ALen.cons (ALen.cons ALen.nil))))))))) jss_nil)
      (jss_cons (js_for [9, 10] (passes_of rfl) rfl (ji_range1 (by rfl) (T.free (i := 1) rfl) (jw_cons ((je_item ((je_lst (ja_cons (je_int).z (ja_cons (je_int).z (ja_cons (je_int).z (ja_cons (je_int).z (ja_cons (je_int).z (ja_cons (je_int).z (ja_cons (je_int).z (ja_cons (je_int).z (ja_cons (je_int).z ja_nil))))))))))).v ((je_item (jv_var (pv 4)) (je_int).v (fun _ _ => rfl))).v (fun _ _ => rfl))).v jw_nil)) (jg_name (pg_name (i := 9) nd rfl (by first | exact Or.inl rfl | exact Or.inr rfl))) (jss_cons (js_frw [1] (js_set (i := 10) nd rfl (by first | exact Or.inl rfl | exact Or.inr rfl) (je_fx (ok__law_digits T Z N) hr (by decide) (by rfl) tk (ja_cons ((je_fx (ok__law_cell T Z N) hr (by decide) (by rfl) tk (ja_cons ((je_var (pv 0))).z (ja_cons ((je_op op_addD (je_int).v (jv_var (pv 9)))).z ja_nil)) (ALen.cons (ALen.cons ALen.nil)))).z (ja_cons ((je_lst (ja_cons ((je_var (pv 1))).z (ja_cons (je_int).z ja_nil)))).z ja_nil)) (ALen.cons (ALen.cons ALen.nil)))))
      (jss_one (js_frw [1] (js_setItem (pv 7) ((je_item (jv_var (pv 10)) (je_int).v (fun _ _ => rfl))).v ((je_fx (ok__law_harmed_next T Z N) hr (by decide) (by rfl) tk (ja_cons ((je_item (jv_var (pv 10)) (je_int).v (fun _ _ => rfl))).z (ja_cons ((je_var (pv 1))).z (ja_cons ((je_item (jv_var (pv 10)) (je_int).v (fun _ _ => rfl))).z (ja_cons ((je_callTy ca_int (by rfl) (T.free (i := 6) rfl) (by decide +kernel) (jw_cons ((je_fx (ok__law_cell T Z N) hr (by decide) (by rfl) tk (ja_cons ((je_var (pv 0))).z (ja_cons ((je_op op_addD (je_int).v (jv_var (pv 9)))).z ja_nil)) (ALen.cons (ALen.cons ALen.nil)))).v jw_nil))).z ja_nil)))) (ALen.cons (ALen.cons (ALen.cons (ALen.cons ALen.nil)))))).z)))))
      (jss_cons (js_set (i := 11) nd rfl (by first | exact Or.inl rfl | exact Or.inr rfl) (je_callTy ca_list (by rfl) (T.free (i := 4) rfl) (by decide +kernel) (jw_cons (jv_var (pv 6)) jw_nil)))
      (jss_cons (js_if (jt_cmp (op_eqDD hu) ((je_item (jv_var (pv 4)) (je_int).v (fun _ _ => rfl))).v (je_int).v (nomark _)) (jss_one (js_frw [3] (js_set (i := 11) nd rfl (by first | exact Or.inl rfl | exact Or.inr rfl) (je_callTy ca_list (by rfl) (T.free (i := 4) rfl) (by decide +kernel) (jw_cons ((je_fx (ok__law_any_rows T Z N) hr (by decide) (by rfl) tk (ja_cons ((je_var (pv 3))).z (ja_cons ((je_fx (ok__law_cell T Z N) hr (by decide) (by rfl) tk (ja_cons ((je_var (pv 0))).z (ja_cons (je_int).z ja_nil)) (ALen.cons (ALen.cons ALen.nil)))).z (ja_cons ((je_fx (ok__law_cell T Z N) hr (by decide) (by rfl) tk (ja_cons ((je_var (pv 0))).z (ja_cons (je_int).z ja_nil)) (ALen.cons (ALen.cons ALen.nil)))).z ja_nil))) (ALen.cons (ALen.cons (ALen.cons ALen.nil))))).v jw_nil))))) jss_nil)
      (jss_cons (js_for [9, 10, 12, 13] (passes_of rfl) rfl (ji_range1 (by rfl) (T.free (i := 1) rfl) (jw_cons ((je_item ((je_lst (ja_cons (je_int).z (ja_cons (je_int).z (ja_cons (je_int).z (ja_cons (je_int).z (ja_cons (je_int).z (ja_cons (je_int).z (ja_cons (je_int).z (ja_cons (je_int).z (ja_cons (je_int).z ja_nil))))))))))).v ((je_item (jv_var (pv 4)) (je_int).v (fun _ _ => rfl))).v (fun _ _ => rfl))).v jw_nil)) (jg_name (pg_name (i := 9) nd rfl (by first | exact Or.inl rfl | exact Or.inr rfl))) (jss_cons (js_frw [1] (js_set (i := 10) nd rfl (by first | exact Or.inl rfl | exact Or.inr rfl) (je_fx (ok__law_digits T Z N) hr (by decide) (by rfl) tk (ja_cons ((je_fx (ok__law_cell T Z N) hr (by decide) (by rfl) tk (ja_cons ((je_var (pv 0))).z (ja_cons ((je_op op_addD (je_int).v (jv_var (pv 9)))).z ja_nil)) (ALen.cons (ALen.cons ALen.nil)))).z (ja_cons ((je_lst (ja_cons ((je_var (pv 1))).z (ja_cons (je_int).z (ja_cons (je_int).z ja_nil))))).z ja_nil)) (ALen.cons (ALen.cons ALen.nil)))))
      (jss_cons (js_set (i := 12) nd rfl (by first | exact Or.inl rfl | exact Or.inr rfl) (je_item (jv_var (pv 6)) ((je_item (jv_var (pv 10)) (je_int).v (fun _ _ => rfl))).v (fun _ _ => rfl)))
      (jss_cons (js_set (i := 13) nd rfl (by first | exact Or.inl rfl | exact Or.inr rfl) (je_item (jv_var (pv 6)) ((je_op op_modD ((je_op op_addD ((je_item (jv_var (pv 10)) (je_int).v (fun _ _ => rfl))).v (je_int).v)).v (jv_var (pv 1)))).v (fun _ _ => rfl)))
      (jss_one (js_frw [12, 13] (js_setItem (pv 11) ((je_item (jv_var (pv 10)) (je_int).v (fun _ _ => rfl))).v ((je_fx (ok__law_harmed_row T Z N) hr (by decide) (by rfl) tk (ja_cons ((je_item (jv_var (pv 10)) (je_int).v (fun _ _ => rfl))).z (ja_cons ((je_var (pv 12))).z (ja_cons ((je_var (pv 13))).z (ja_cons ((je_op op_modD ((je_item (jv_var (pv 10)) (je_int).v (fun _ _ => rfl))).v ((je_callB ca_len (by rfl) (T.free (i := 0) rfl) (by decide +kernel) (jw_cons (jv_var (pv 12)) jw_nil))).v)).z (ja_cons ((je_callTy ca_int (by rfl) (T.free (i := 6) rfl) (by decide +kernel) (jw_cons ((je_fx (ok__law_cell T Z N) hr (by decide) (by rfl) tk (ja_cons ((je_var (pv 0))).z (ja_cons ((je_op op_addD (je_int).v (jv_var (pv 9)))).z ja_nil)) (ALen.cons (ALen.cons ALen.nil)))).v jw_nil))).z ja_nil))))) (ALen.cons (ALen.cons (ALen.cons (ALen.cons (ALen.cons ALen.nil))))))).z)))))))
      (jss_cons (js_set (i := 11) nd rfl (by first | exact Or.inl rfl | exact Or.inr rfl) (je_callTy ca_tuple (by rfl) (T.free (i := 2) rfl) (by decide +kernel) (jw_cons (jv_var (pv 11)) jw_nil)))
      (jss_cons (js_frw [5, 7, 11] (js_set (i := 14) nd rfl (by first | exact Or.inl rfl | exact Or.inr rfl) (je_fx (ok__law_due T Z N) hr (by decide) (by rfl) tk (ja_cons ((je_var (pv 7))).z (ja_cons ((je_var (pv 11))).z (ja_cons ((je_var (pv 5))).z ja_nil))) (ALen.cons (ALen.cons (ALen.cons ALen.nil))))))
      (jss_cons (js_frw [5, 7, 11] (js_set (i := 15) nd rfl (by first | exact Or.inl rfl | exact Or.inr rfl) (je_fx (ok__law_told T Z N) hr (by decide) (by rfl) tk (ja_cons ((je_var (pv 7))).z (ja_cons ((je_var (pv 11))).z (ja_cons ((je_var (pv 5))).z ja_nil))) (ALen.cons (ALen.cons (ALen.cons ALen.nil))))))
      (jss_cons (js_frw [5, 7, 11] (js_if ((jw_or (jt_cmp (op_neDD hu) (jv_var (pv 15)) (jv_var (pv 14)) (nomark _)) (jw_or (jt_not (jt_val (je_fx (ok__law_whole T Z N) hr (by decide) (by rfl) tk (ja_cons ((je_item (jv_var (pv 15)) (je_int).v (fun _ _ => rfl))).z ja_nil) (ALen.cons ALen.nil)))) (jw_or1 (jt_cmp (op_neDD hu) ((je_fx (ok__law_class T Z N) hr (by decide) (by rfl) tk (ja_cons ((je_var (pv 7))).z (ja_cons ((je_var (pv 11))).z (ja_cons ((je_var (pv 5))).z ja_nil))) (ALen.cons (ALen.cons (ALen.cons ALen.nil))))).v ((je_item (jv_var (pv 14)) (je_int).v (fun _ _ => rfl))).v (nomark _)))))).t (jss_one (js_ret je_bl)) jss_nil))
      (jss_cons (js_frw [1, 2, 6] (js_if ((jw_or (jt_cmp (op_neDD hu) ((je_fx (ok__law_told T Z N) hr (by decide) (by rfl) tk (ja_cons ((je_var (pv 2))).z (ja_cons ((je_var (pv 6))).z (ja_cons (je_int).z ja_nil))) (ALen.cons (ALen.cons (ALen.cons ALen.nil))))).v ((je_lst (ja_cons (je_int).z (ja_cons (je_int).z ja_nil)))).v (nomark _)) (jw_or (jt_cmp (op_neDD hu) ((je_fx (ok__law_told T Z N) hr (by decide) (by rfl) tk (ja_cons ((je_var (pv 2))).z (ja_cons ((je_var (pv 6))).z (ja_cons (je_int).z ja_nil))) (ALen.cons (ALen.cons (ALen.cons ALen.nil))))).v ((je_lst (ja_cons (je_int).z (ja_cons (je_int).z ja_nil)))).v (nomark _)) (jw_or1 (jt_not (jt_val (je_fx (ok__law_fielded T Z N) hr (by decide) (by rfl) tk (ja_cons ((je_var (pv 1))).z (ja_cons ((je_item (jv_var (pv 14)) (je_int).v (fun _ _ => rfl))).z ja_nil)) (ALen.cons (ALen.cons ALen.nil))))))))).t (jss_one (js_ret je_bl)) jss_nil))
      (jss_one (js_frw [5, 7, 11] (js_ret (je_cmp (op_eqDD hu) ((je_fx (ok__law_told T Z N) hr (by decide) (by rfl) tk (ja_cons ((je_var (pv 7))).z (ja_cons ((je_var (pv 11))).z (ja_cons ((je_var (pv 5))).z ja_nil))) (ALen.cons (ALen.cons (ALen.cons ALen.nil))))).v (jv_var (pv 14)) (nomark _))))))))))))))))))))))
end
end Lk23


namespace Lk23
theorem law_true : ∀ ns : List Int, ns.length ≤ 63 → (∀ z ∈ ns, PySem.Builtin.Int.intBits z ≤ 1048576) → Sh.g_law_bc23d [.scr ns] = .ok ⟨false, .bl true⟩ := fun ns _ _ => Sh.law23 ns
end Lk23


namespace Lk23
open PySem PySem.Spec PyProof.Rows L2 VM
abbrev Rw : PySem.W.OpenRow := PySem.W.OpenLaw.row PySem.Challenge.rw_sameroom_k23_bad_graphs
abbrev hk : PySem.W.Hook := VM.hookY 6 [cStatics, sysModules] (faOf gloL frL clL naL) fnL (exOfY csL xL)
def ob (s : PySem.W.SharedT) : VM.AlY := VM.obsY 6 [cStatics, sysModules] (faOf gloL frL clL naL) fnL (exOfY csL xL) (HandSHeadRun.getT s)
theorem ob_eq (s : PySem.W.SharedT) : ob s = hk.obs s.abs := VM.obsY_eq (HandSHeadRun.getT_eq s)
def looseL : List PySem.Str := (["RoomError", "BadText", "BadLine", "BadLibrary", "ProcedureCycle", "UnknownProgram", "BadCode", "BadGraph", "BadRotation", "BadBook", "TooLarge", "BadSnapshot", "check_nexts", "predecessor_rows", "plain_rows", "check_rows", "Graph", "_law_whole", "_law_numbers", "_law_cell", "_law_digits", "_law_many", "_law_next", "_law_alike", "_law_order", "_law_table", "_law_back", "_law_rows", "_law_graph", "_law_fields"] : List PySem.Str) ++ (["_law_harmed_next", "_law_harmed_row", "_law_reach", "_law_any_nexts", "_law_any_rows", "_law_due", "_law_told", "_law_class", "_law_fielded"] : List PySem.Str)
theorem run (w : World) : HandSHeadRun.RunEq Rw (PySem.W.view Rw.prog [42]) hk ob 9000 looseL w := by
  intro os
  kernel_rfl
end Lk23
open PySem PySem.W PySem.Calls PyProof.Rows
set_option maxRecDepth 100000 in
set_option maxHeartbeats 0 in
theorem PySem.Challenge.cw_sameroom_k23_bad_graphs_holds : PySem.Challenge.rw_sameroom_k23_bad_graphs.Holds := by
  w_on; o_law
  refine HandSHeadRun.head_any (r := OpenLaw.row PySem.Challenge.rw_sameroom_k23_bad_graphs) (q := view (OpenLaw.row PySem.Challenge.rw_sameroom_k23_bad_graphs).prog [42]) (H := Lk23.hk) (ob := Lk23.ob) (M := 9000) (loose := Lk23.looseL) (d := HandSHeadRun.topDef (OpenLaw.row PySem.Challenge.rw_sameroom_k23_bad_graphs).prog 42) (kwd := []) Lk23.ob_eq
    (by kernel_rfl) (fun s => by kernel_rfl) Lk23.run (by kernel_rfl) (by kernel_rfl) (by kernel_rfl) (by rfl) (by first | assumption | decide +kernel) (by decide +kernel) ⟨rfl, rfl, rfl, rfl, rfl, by decide +kernel⟩ ?hw ?hc
  case hw => w_witness2
  case hc =>
    refine VM.walk_E (l := PySem.Challenge.rw_sameroom_k23_bad_graphs) (n := 63) (k := 44) (g := Sh.g_law_bc23d) rfl (by decide) (by kernel_rfl) ⟨rfl, by decide, by decide⟩ ?F Lk23.law_true
    intro w mg fa h Y G hmg0
    obtain ⟨K, KX, c⟩ := Y
    have hmg : mg ("law" : PySem.Str) = some (.ref fa) := by
      have e : (HandSHeadRun.topDef (OpenLaw.row PySem.Challenge.rw_sameroom_k23_bad_graphs).prog 42).name = ("law" : PySem.Str) := by kernel_rfl
      rw [← e]
      exact hmg0
    obtain ⟨T, Z, N0⟩ := VM.tyz_of KX G c
    obtain ⟨fd, hb, hF⟩ := VM.law_fx (P := (PySem.Challenge.rw_sameroom_k23_bad_graphs).prog) (w := w) (fun base => Lk23.ok_law (base := base) T Z ⟨N0, by kernel_rfl⟩) hmg
    exact ⟨K, fd, "script", KX, hb, fun base _ _ => hF base⟩
#print axioms PySem.Challenge.cw_sameroom_k23_bad_graphs_holds

