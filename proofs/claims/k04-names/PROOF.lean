import PyProof.Rows.All
import Wide.All
import OpenK.AllK
import Wide.FinOn
import HandS.ForMost
import HandS.ForExc
import HandS.Wide
import HandS.Defaults
import HandS.Flow
import HandS.TupAny
import HandS.Deep
import HandS.SortInts
import HandS.Zip
import HandS.HeadHook2
import HandS.HeadHook3
import HandS.HeadHook4
import HandS.CallSlots
import HandS.ExcOwn
import HandS.Style
import HandS.EndBits
import HandS.Head0
import HandS.Head1
import HandS.Head2
import HandS.Head3
import HandS.Head4
import HandS.HeadEnd
import PySem.Challenge.RW_sameroom_k04_names
set_option Elab.async false
set_option autoImplicit false
set_option linter.all false
set_option maxRecDepth 100000
set_option maxHeartbeats 4000000
/-! A walk by values: pure data D, outcomes, slots, and how they lie in the abstract heap. -/
namespace VM
open PySem PySem.Spec PyProof.Rows L2

/-- pure data -/
inductive D where
  | non
  | bl (b : Bool)
  | int (i : Int)
  | str (x : List Nat)
  | tup (xs : List D)
  | lst (xs : List D)
  | dic (kvs : List (D × D))
  | obj (c : Str) (fs : List (Str × D))
  | scr (ns : List Int)

mutual
def D.py : D → PyData
  | .non => .none
  | .bl b => .bool b
  | .int i => .int i
  | .str x => .str ⟨x.toArray⟩
  | .tup xs => .tuple (D.pyAll xs)
  | .lst xs => .list (D.pyAll xs)
  | .dic _ => .none
  | .obj _ _ => .none
  | .scr _ => .none
def D.pyAll : List D → List PyData
  | [] => []
  | d :: ds => D.py d :: D.pyAll ds
end
mutual
/-- no dict, no instance within -/
def D.flat : D → Bool
  | .non => true
  | .bl _ => true
  | .int _ => true
  | .str _ => true
  | .tup xs => D.flatAll xs
  | .lst xs => D.flatAll xs
  | .dic _ => false
  | .obj _ _ => false
  | .scr _ => false
def D.flatAll : List D → Bool
  | [] => true
  | d :: ds => D.flat d && D.flatAll ds
end
mutual
def D.dep : D → Nat
  | .tup xs => D.depAll xs + 1
  | .lst xs => D.depAll xs + 1
  | _ => 0
def D.depAll : List D → Nat
  | [] => 0
  | d :: ds => max (D.dep d) (D.depAll ds)
end
/-- may be compared -/
def D.cmpOk (d : D) : Bool := d.flat && decide (d.dep ≤ 60)
mutual
/-- Python's == on flat data -/
def D.eqv : D → D → Bool
  | .non, .non => true
  | .bl a, .bl b => a == b
  | .bl a, .int j => (if a then 1 else 0) == j
  | .int i, .bl b => i == (if b then 1 else 0)
  | .int i, .int j => i == j
  | .str x, .str y => x == y
  | .tup xs, .tup ys => D.eqvAll xs ys
  | .lst xs, .lst ys => D.eqvAll xs ys
  | _, _ => false
def D.eqvAll : List D → List D → Bool
  | [], [] => true
  | x :: xs, y :: ys => D.eqv x y && D.eqvAll xs ys
  | _, _ => false
end

/-- what a computation comes to: no: not walked; exc: an exception of the class c with these fields -/
inductive Out (α : Type) where
  | no
  | exc (c : Str) (fs : List (Str × D))
  | ok (a : α)
def Out.bind {α β : Type} (x : Out α) (f : α → Out β) : Out β := match x with
  | .no => .no
  | .exc c fs => .exc c fs
  | .ok a => f a
@[simp] theorem Out.bind_ok {α β : Type} (a : α) (f : α → Out β) : Out.bind (.ok a) f = f a := rfl
@[simp] theorem Out.bind_no {α β : Type} (f : α → Out β) : Out.bind .no f = .no := rfl
@[simp] theorem Out.bind_exc {α β : Type} (c : Str) (fs : List (Str × D)) (f : α → Out β) : Out.bind (.exc c fs) f = .exc c fs := rfl

/-- a slot: nothing is known; a value that never changes; a list, dict, instance that this frame alone holds -/
inductive Sl where
  | no
  | fz (d : D)
  | own (d : D)
/-- a result: own: nobody else holds it -/
structure R where
  own : Bool
  d : D
abbrev Ss := List Sl

/-! ### how data lies -/
abbrev Gr (F F' : Hp) : Prop := ∀ a o, F a = some o → F' a = some o
theorem Gr.refl (F : Hp) : Gr F F := fun _ _ h => h
theorem Gr.trans {F G H : Hp} (a : Gr F G) (b : Gr G H) : Gr F H := fun x o h => b x o (a x o h)
theorem Gr.new {F : Hp} {p : Addr} {o : HO} (h : F p = none) : Gr F (upd F p o) := fun a u e => by
  rw [upd_ne (ne_of_none e h)]
  exact e
theorem Gr.free {F F' : Hp} (e : Gr F F') {p : Addr} (h : F' p = none) : F p = none := by
  cases q : F p with
  | none => rfl
  | some o =>
    rw [e p o q] at h
    cases h
theorem gr_l {K : PySem.W.Frag} {F F' : Hp} {a : Addr} {xs : List V} (e : Gr F F') (h : SqL K F a xs) : SqL K F' a xs := by
  rcases h with (h | ⟨o, h⟩) | h
  · exact .inl (.inl (e _ _ h))
  · exact .inl (.inr ⟨o, e _ _ h⟩)
  · exact .inr h
theorem gr_t {K : PySem.W.Frag} {F F' : Hp} {a : Addr} {xs : List V} (e : Gr F F') (h : SqT K F a xs) : SqT K F' a xs := by
  rcases h with (h | ⟨o, h⟩) | h
  · exact .inl (.inl (e _ _ h))
  · exact .inl (.inr ⟨o, e _ _ h⟩)
  · exact .inr h

/-- the address of the class c of the text, its facts -/
abbrev ClsT := Str → Option Addr
mutual
inductive Rep (K : PySem.W.Frag) (F : Hp) : V → D → Prop
  | non : Rep K F .non .non
  | bl (b : Bool) : Rep K F (.bl b) (.bl b)
  | int (i : Int) : Rep K F (.int i) (.int i)
  | str (x : List Nat) (h : (x.all (· < 0x110000)) = true) : Rep K F (.str ⟨x.toArray⟩) (.str x)
  | tup {a : Addr} {vs : List V} {ds : List D} : SqT K F a vs → RepL K F vs ds → Rep K F (.ref a) (.tup ds)
  | lst {a : Addr} {vs : List V} {ds : List D} : F a = some (.lst vs) → RepL K F vs ds → Rep K F (.ref a) (.lst ds)
  | scr {a : Addr} {ns : List Int} : SqL K F a (ns.map V.int) → Rep K F (.ref a) (.scr ns)
  | obj {a dx : Addr} {c : Str} {fv : List (Str × V)} {fs : List (Str × D)} : F a = some (.ins (He.ga K c) dx fv) → RepF K F fv fs → Rep K F (.ref a) (.obj c fs)
inductive RepL (K : PySem.W.Frag) (F : Hp) : List V → List D → Prop
  | nil : RepL K F [] []
  | cons {v : V} {vs : List V} {d : D} {ds : List D} : Rep K F v d → RepL K F vs ds → RepL K F (v :: vs) (d :: ds)
inductive RepF (K : PySem.W.Frag) (F : Hp) : List (Str × V) → List (Str × D) → Prop
  | nil : RepF K F [] []
  | cons {x : Str} {v : V} {vs : List (Str × V)} {d : D} {ds : List (Str × D)} : Rep K F v d → RepF K F vs ds → RepF K F ((x, v) :: vs) ((x, d) :: ds)
end
mutual
theorem Rep.mono {K : PySem.W.Frag} {F F' : Hp} (e : Gr F F') : ∀ {v : V} {d : D}, Rep K F v d → Rep K F' v d
  | _, _, .non => .non
  | _, _, .bl b => .bl b
  | _, _, .int i => .int i
  | _, _, .str x h => .str x h
  | _, _, .tup h l => .tup (gr_t e h) (RepL.mono e l)
  | _, _, .lst h l => .lst (e _ _ h) (RepL.mono e l)
  | _, _, .scr h => .scr (gr_l e h)
  | _, _, .obj h l => .obj (e _ _ h) (RepF.mono e l)
theorem RepL.mono {K : PySem.W.Frag} {F F' : Hp} (e : Gr F F') : ∀ {vs : List V} {ds : List D}, RepL K F vs ds → RepL K F' vs ds
  | _, _, .nil => .nil
  | _, _, .cons h t => .cons (Rep.mono e h) (RepL.mono e t)
theorem RepF.mono {K : PySem.W.Frag} {F F' : Hp} (e : Gr F F') : ∀ {vs : List (Str × V)} {ds : List (Str × D)}, RepF K F vs ds → RepF K F' vs ds
  | _, _, .nil => .nil
  | _, _, .cons h t => .cons (Rep.mono e h) (RepF.mono e t)
end
section
variable {K : PySem.W.Frag} {F : Hp}
theorem RepL.len : ∀ {vs : List V} {ds : List D}, RepL K F vs ds → vs.length = ds.length
  | _, _, .nil => rfl
  | _, _, .cons _ t => congrArg Nat.succ (RepL.len t)
theorem RepL.app : ∀ {vs ws : List V} {ds es : List D}, RepL K F vs ds → RepL K F ws es → RepL K F (vs ++ ws) (ds ++ es)
  | _, _, _, _, .nil, s => s
  | _, _, _, _, .cons h t, s => .cons h (RepL.app t s)
theorem RepL.get : ∀ {vs : List V} {ds : List D} {i : Nat} {d : D}, RepL K F vs ds → ds[i]? = some d → ∃ v, vs[i]? = some v ∧ Rep K F v d
  | _, _, _, _, .nil, e => by simp at e
  | _, _, 0, _, .cons h _, e => by simp at e; subst e; exact ⟨_, rfl, h⟩
  | _, _, i + 1, d, .cons _ t, e => by
    obtain ⟨v, h1, h2⟩ := RepL.get (i := i) (d := d) t (by simpa using e)
    exact ⟨v, by simpa using h1, h2⟩
theorem RepL.get' : ∀ {vs : List V} {ds : List D} {i : Nat} {v : V}, RepL K F vs ds → vs[i]? = some v → ∃ d, ds[i]? = some d ∧ Rep K F v d
  | _, _, _, _, .nil, e => by simp at e
  | _, _, 0, _, .cons h _, e => by simp at e; subst e; exact ⟨_, rfl, h⟩
  | _, _, i + 1, v, .cons _ t, e => by
    obtain ⟨d, h1, h2⟩ := RepL.get' (i := i) (v := v) t (by simpa using e)
    exact ⟨d, by simpa using h1, h2⟩
theorem RepL.take : ∀ {vs : List V} {ds : List D} (n : Nat), RepL K F vs ds → RepL K F (vs.take n) (ds.take n)
  | _, _, 0, _ => .nil
  | _, _, _ + 1, .nil => .nil
  | _, _, n + 1, .cons h t => .cons h (RepL.take n t)
theorem RepL.drop : ∀ {vs : List V} {ds : List D} (n : Nat), RepL K F vs ds → RepL K F (vs.drop n) (ds.drop n)
  | _, _, 0, r => r
  | _, _, _ + 1, .nil => .nil
  | _, _, n + 1, .cons _ t => RepL.drop n t
theorem RepL.set {v : V} {d : D} (r : Rep K F v d) : ∀ {vs : List V} {ds : List D} (i : Nat), RepL K F vs ds → RepL K F (vs.set i v) (ds.set i d)
  | _, _, _, .nil => .nil
  | _, _, 0, .cons _ t => .cons r t
  | _, _, i + 1, .cons q t => .cons q (RepL.set r i t)
theorem RepL.dropLast : ∀ {vs : List V} {ds : List D}, RepL K F vs ds → RepL K F vs.dropLast ds.dropLast
  | _, _, .nil => .nil
  | _, _, .cons _ .nil => .nil
  | _, _, .cons h (.cons h2 t) => .cons h (RepL.dropLast (.cons h2 t))
theorem RepL.rev : ∀ {vs : List V} {ds : List D}, RepL K F vs ds → RepL K F vs.reverse ds.reverse
  | _, _, .nil => .nil
  | _, _, .cons h t => by
    rw [List.reverse_cons, List.reverse_cons]
    exact RepL.app (RepL.rev t) (.cons h .nil)
theorem RepL.rep {vs : List V} {ds : List D} (h : RepL K F vs ds) : ∀ k : Nat, RepL K F (List.replicate k vs).flatten (List.replicate k ds).flatten
  | 0 => .nil
  | k + 1 => by
    rw [List.replicate_succ, List.replicate_succ, List.flatten_cons, List.flatten_cons]
    exact RepL.app h (RepL.rep h k)
theorem RepL.ints : ∀ {vs : List V} {ns : List Int}, RepL K F vs (ns.map D.int) → vs = ns.map V.int
  | _, [], h => by
    cases h
    rfl
  | _, n :: ns, h => by
    cases h with
    | cons h1 h2 =>
      cases h1
      rw [RepL.ints h2]
      rfl
theorem RepL.of_ints : ∀ (ns : List Int), RepL K F (ns.map V.int) (ns.map D.int)
  | [] => .nil
  | n :: ns => .cons (.int n) (RepL.of_ints ns)
theorem RepL.bls : ∀ {vs : List V} {ns : List Bool}, RepL K F vs (ns.map D.bl) → vs = ns.map V.bl
  | _, [], h => by
    cases h
    rfl
  | _, n :: ns, h => by
    cases h with
    | cons h1 h2 =>
      cases h1
      rw [RepL.bls h2]
      rfl
/-- strs as the machine has them -/
def ms (x : List Nat) : Str := ⟨x.toArray⟩
def strOk' (x : List Nat) : Bool := x.all (· < 0x110000)
theorem RepL.strs : ∀ {vs : List V} {ns : List (List Nat)}, RepL K F vs (ns.map D.str) → vs = (ns.map ms).map V.str ∧ ∀ x ∈ ns, strOk' x = true
  | _, [], h => by
    cases h
    exact ⟨rfl, fun _ h => nomatch h⟩
  | _, n :: ns, h => by
    cases h with
    | cons h1 h2 =>
      cases h1 with
      | str _ hx =>
        obtain ⟨e, k⟩ := RepL.strs h2
        rw [e]
        refine ⟨rfl, fun x hm => ?_⟩
        rcases List.mem_cons.mp hm with rfl | hm
        · exact hx
        · exact k x hm
theorem RepL.of_strs : ∀ {ns : List (List Nat)}, (∀ x ∈ ns, strOk' x = true) → RepL K F ((ns.map ms).map V.str) (ns.map D.str)
  | [], _ => .nil
  | n :: ns, h => .cons (.str n (h n List.mem_cons_self)) (RepL.of_strs fun x hm => h x (List.mem_cons_of_mem _ hm))
end
mutual
theorem Rep.dp {K : PySem.W.Frag} {F : Hp} : ∀ {v : V} {d : D}, Rep K F v d → d.flat = true → Dp K F v d.py
  | _, _, .non, _ => .non
  | _, _, .bl b, _ => .bl b
  | _, _, .int i, _ => .int i
  | _, _, .str x _, _ => .str _
  | _, _, .tup h l, f => by
    rw [D.py]
    exact .tup h (RepL.dp l (by rw [D.flat] at f; exact f))
  | _, _, .lst h l, f => by
    rw [D.py]
    exact .lst (.inl (.inl h)) (RepL.dp l (by rw [D.flat] at f; exact f))
  | _, _, .obj _ _, f => by
    rw [D.flat] at f
    cases f
  | _, _, .scr _, f => by
    rw [D.flat] at f
    cases f
theorem RepL.dp {K : PySem.W.Frag} {F : Hp} : ∀ {vs : List V} {ds : List D}, RepL K F vs ds → D.flatAll ds = true → DpAll K F vs (D.pyAll ds)
  | _, _, .nil, _ => by
    rw [D.pyAll]
    exact .nil
  | _, _, .cons h t, f => by
    rw [D.flatAll, Bool.and_eq_true] at f
    rw [D.pyAll]
    exact .cons (Rep.dp h f.1) (RepL.dp t f.2)
end
mutual
theorem Rep.can {K : PySem.W.Frag} {F : Hp} : ∀ {v : V} {d : D}, Rep K F v d → d.flat = true → d.py.canLay0 = true
  | _, _, .non, _ => by simp [D.py, PyData.canLay0]
  | _, _, .bl b, _ => by simp [D.py, PyData.canLay0]
  | _, _, .int i, _ => by simp [D.py, PyData.canLay0]
  | _, _, .str x h, _ => by
    simp only [D.py, PyData.canLay0, PyData.strOk]
    simpa using h
  | _, _, .tup h l, f => by
    simp only [D.py, PyData.canLay0]
    exact RepL.can l (by rw [D.flat] at f; exact f)
  | _, _, .lst h l, f => by
    simp only [D.py, PyData.canLay0]
    exact RepL.can l (by rw [D.flat] at f; exact f)
  | _, _, .obj _ _, f => by
    rw [D.flat] at f
    cases f
  | _, _, .scr _, f => by
    rw [D.flat] at f
    cases f
theorem RepL.can {K : PySem.W.Frag} {F : Hp} : ∀ {vs : List V} {ds : List D}, RepL K F vs ds → D.flatAll ds = true → PyData.canLayAll0 (D.pyAll ds) = true
  | _, _, .nil, _ => by simp [D.pyAll, PyData.canLayAll0]
  | _, _, .cons h t, f => by
    rw [D.flatAll, Bool.and_eq_true] at f
    simp only [D.pyAll, PyData.canLayAll0, Bool.and_eq_true]
    exact ⟨Rep.can h f.1, RepL.can t f.2⟩
end
mutual
theorem D.py_depth : ∀ d : D, d.py.depth = d.dep
  | .non => by simp [D.py, PyData.depth, D.dep]
  | .bl b => by simp [D.py, PyData.depth, D.dep]
  | .int b => by simp [D.py, PyData.depth, D.dep]
  | .str b => by simp [D.py, PyData.depth, D.dep]
  | .dic b => by simp [D.py, PyData.depth, D.dep]
  | .obj b _ => by simp [D.py, PyData.depth, D.dep]
  | .scr _ => by simp [D.py, PyData.depth, D.dep]
  | .tup xs => by simp only [D.py, PyData.depth, D.dep]; rw [D.pyAll_depth xs]
  | .lst xs => by simp only [D.py, PyData.depth, D.dep]; rw [D.pyAll_depth xs]
theorem D.pyAll_depth : ∀ ds : List D, PyData.depthAll (D.pyAll ds) = D.depAll ds
  | [] => by simp [D.pyAll, PyData.depthAll, D.depAll]
  | d :: ds => by simp only [D.pyAll, PyData.depthAll, D.depAll]; rw [D.py_depth d, D.pyAll_depth ds]
end
theorem Rep.shaped {K : PySem.W.Frag} {F : Hp} {v : V} {d : D} (r : Rep K F v d) (h : d.cmpOk = true) : SeqAt.shaped d.py = true := by
  unfold D.cmpOk at h
  rw [Bool.and_eq_true, decide_eq_true_eq] at h
  unfold SeqAt.shaped
  rw [Bool.and_eq_true, decide_eq_true_eq, D.py_depth]
  exact ⟨Rep.can r h.1, by omega⟩
theorem str_beq (x y : List Nat) : ((⟨x.toArray⟩ : Str) == (⟨y.toArray⟩ : Str)) = (x == y) := by
  by_cases h : x = y
  · subst h
    simp
  · have h2 : ¬ (⟨x.toArray⟩ : Str) = ⟨y.toArray⟩ := fun e => h (by simpa using e)
    rw [beq_false_of_ne h, beq_false_of_ne h2]
mutual
theorem D.py_eqv : ∀ d e : D, d.flat = true → e.flat = true → PyData.eqv d.py e.py = D.eqv d e
  | .dic _, _, h, _ => by rw [D.flat] at h; cases h
  | .obj _ _, _, h, _ => by rw [D.flat] at h; cases h
  | .scr _, _, h, _ => by rw [D.flat] at h; cases h
  | .non, e, _, h => by cases e <;> first | (rw [D.flat] at h; cases h; done) | simp [D.py, PyData.eqv, D.eqv]
  | .bl _, e, _, h => by cases e <;> first | (rw [D.flat] at h; cases h; done) | simp [D.py, PyData.eqv, D.eqv]
  | .int _, e, _, h => by cases e <;> first | (rw [D.flat] at h; cases h; done) | simp [D.py, PyData.eqv, D.eqv]
  | .str x, e, _, h => by
    cases e <;> first | (rw [D.flat] at h; cases h; done) | (simp only [D.py, PyData.eqv, D.eqv]; done) | (simp only [D.py, PyData.eqv, D.eqv]; exact str_beq _ _)
  | .tup xs, e, h1, h => by
    cases e <;> first | (rw [D.flat] at h; cases h; done) | (simp only [D.py, PyData.eqv, D.eqv]; done) | (simp only [D.py, PyData.eqv, D.eqv]; rw [D.flat] at h h1; exact D.pyAll_eqv _ _ h1 h)
  | .lst xs, e, h1, h => by
    cases e <;> first | (rw [D.flat] at h; cases h; done) | (simp only [D.py, PyData.eqv, D.eqv]; done) | (simp only [D.py, PyData.eqv, D.eqv]; rw [D.flat] at h h1; exact D.pyAll_eqv _ _ h1 h)
theorem D.pyAll_eqv : ∀ ds es : List D, D.flatAll ds = true → D.flatAll es = true → PyData.eqvAll (D.pyAll ds) (D.pyAll es) = D.eqvAll ds es
  | [], [], _, _ => by simp [D.pyAll, PyData.eqvAll, D.eqvAll]
  | [], _ :: _, _, _ => by simp [D.pyAll, PyData.eqvAll, D.eqvAll]
  | _ :: _, [], _, _ => by simp [D.pyAll, PyData.eqvAll, D.eqvAll]
  | d :: ds, e :: es, h1, h2 => by
    rw [D.flatAll, Bool.and_eq_true] at h1 h2
    simp only [D.pyAll, PyData.eqvAll, D.eqvAll]
    rw [D.py_eqv d e h1.1 h2.1, D.pyAll_eqv ds es h1.2 h2.2]
end
end VM

namespace VM
open PySem PySem.Spec PyProof.Rows L2

/-! ### how the slots lie -/
inductive Own (K : PySem.W.Frag) (F H : Hp) (a : Addr) : D → Prop
  | lst {vs : List V} {ds : List D} : H a = some (.lst vs) → RepL K F vs ds → Own K F H a (.lst ds)
  | obj {dx : Addr} {c : Str} {fv : List (Str × V)} {fs : List (Str × D)} : H a = some (.ins (He.ga K c) dx fv) → RepF K F fv fs → Own K F H a (.obj c fs)
theorem Own.some {K : PySem.W.Frag} {F H : Hp} {a : Addr} {d : D} (h : Own K F H a d) : ∃ o, H a = some o := by
  cases h with
  | lst h _ => exact ⟨_, h⟩
  | obj h _ => exact ⟨_, h⟩
theorem Own.mono {K : PySem.W.Frag} {F F' H H' : Hp} {a : Addr} {d : D} (gf : Gr F F') (gh : Gr H H') (h : Own K F H a d) : Own K F' H' a d := by
  cases h with
  | lst h l => exact .lst (gh _ _ h) (l.mono gf)
  | obj h l => exact .obj (gh _ _ h) (l.mono gf)
structure Step (F H F' H' : Hp) : Prop where
  gf : Gr F F'
  gh : Gr H H'
  sub : Gr F' H'
  new : ∀ a o, F' a = some o → F a = some o ∨ H a = none
theorem Step.refl {F H : Hp} (h : Gr F H) : Step F H F H := ⟨.refl F, .refl H, h, fun _ _ e => .inl e⟩
theorem Step.trans {F H F1 H1 F2 H2 : Hp} (a : Step F H F1 H1) (b : Step F1 H1 F2 H2) : Step F H F2 H2 :=
  ⟨a.gf.trans b.gf, a.gh.trans b.gh, b.sub, fun x o e => by
    rcases b.new x o e with z | z
    · exact a.new x o z
    · exact .inr (a.gh.free z)⟩
/-- a new object, not frozen -/
theorem Step.newH {F H : Hp} {p : Addr} {o : HO} (g : Gr F H) (h : H p = none) : Step F H F (upd H p o) :=
  ⟨.refl F, .new h, g.trans (.new h), fun _ _ e => .inl e⟩
/-- a new object, frozen -/
theorem Step.newF {F H : Hp} {p : Addr} {o : HO} (g : Gr F H) (h : H p = none) : Step F H (upd F p o) (upd H p o) :=
  ⟨.new (g.free h), .new h, fun a u e => by
    by_cases hp : a = p
    · subst hp
      rw [upd_same] at e ⊢
      exact e
    · rw [upd_ne hp] at e ⊢
      exact g a u e, fun a u e => by
    by_cases hp : a = p
    · subst hp
      exact .inr h
    · rw [upd_ne hp] at e
      exact .inl e⟩
structure Cp (K : PySem.W.Frag) (F : Hp) (S : Ss) (σ : L2.St) (H : Hp) : Prop where
  sub : Gr F H
  len : S.length = σ.length
  fz : ∀ (i : Nat) (d : D), S[i]? = some (.fz d) → ∃ v, σ[i]? = some (some v) ∧ Rep K F v d
  own : ∀ (i : Nat) (d : D), S[i]? = some (.own d) → ∃ a, σ[i]? = some (some (.ref a)) ∧ Own K F H a d ∧ F a = none
  dis : ∀ (i j : Nat) (di dj : D) (a : Addr), i ≠ j → S[i]? = some (.own di) → S[j]? = some (.own dj) → σ[i]? = some (some (.ref a)) → σ[j]? = some (some (.ref a)) → False
section
variable {K : PySem.W.Frag} {F F' H H' : Hp} {S : Ss} {σ : L2.St}
theorem Cp.step (c : Cp K F S σ H) (t : Step F H F' H') : Cp K F' S σ H' where
  sub := t.sub
  len := c.len
  fz := fun i d e => by
    obtain ⟨v, h1, h2⟩ := c.fz i d e
    exact ⟨v, h1, h2.mono t.gf⟩
  own := fun i d e => by
    obtain ⟨a, h1, h2, h3⟩ := c.own i d e
    refine ⟨a, h1, h2.mono t.gf t.gh, ?_⟩
    cases q : F' a with
    | none => rfl
    | some o =>
      obtain ⟨o', z⟩ := h2.some
      rcases t.new a o q with y | y
      · rw [h3] at y
        cases y
      · rw [z] at y
        cases y
  dis := c.dis
/-- a value held by a slot, or frozen -/
def Vw (K : PySem.W.Frag) (F : Hp) (S : Ss) (σ : L2.St) (v : V) (d : D) : Prop := Rep K F v d ∨ ∃ i : Nat, S[i]? = some (.own d) ∧ σ[i]? = some (some v)
theorem Vw.mono {v : V} {d : D} (e : Gr F F') (h : Vw K F S σ v d) : Vw K F' S σ v d := h.imp (fun z => z.mono e) id
theorem Vw.lst {v : V} {ds : List D} (h : Vw K F S σ v (.lst ds)) (c : Cp K F S σ H) : ∃ a vs, v = .ref a ∧ H a = some (.lst vs) ∧ RepL K F vs ds := by
  rcases h with h | ⟨i, h1, h2⟩
  · cases h with
    | lst h l => exact ⟨_, _, rfl, c.sub _ _ h, l⟩
  · obtain ⟨a, e, o, _⟩ := c.own i _ h1
    rw [h2] at e
    cases e
    cases o with
    | lst h l => exact ⟨_, _, rfl, h, l⟩
theorem Vw.scr {v : V} {ns : List Int} (h : Vw K F S σ v (.scr ns)) (c : Cp K F S σ H) : ∃ a, v = .ref a ∧ SqL K H a (ns.map V.int) := by
  rcases h with h | ⟨i, h1, h2⟩
  · cases h with
    | scr h => exact ⟨_, rfl, gr_l c.sub h⟩
  · obtain ⟨a, e, o, _⟩ := c.own i _ h1
    cases o
theorem Vw.tup {v : V} {ds : List D} (h : Vw K F S σ v (.tup ds)) (c : Cp K F S σ H) : ∃ a vs, v = .ref a ∧ SqT K F a vs ∧ SqT K H a vs ∧ RepL K F vs ds := by
  rcases h with h | ⟨i, h1, h2⟩
  · cases h with
    | tup h l => exact ⟨_, _, rfl, h, gr_t c.sub h, l⟩
  · obtain ⟨a, e, o, _⟩ := c.own i _ h1
    cases o
theorem Vw.int {v : V} {n : Int} (h : Vw K F S σ v (.int n)) (c : Cp K F S σ H) : v = .int n := by
  rcases h with h | ⟨i, h1, h2⟩
  · cases h
    rfl
  · obtain ⟨a, e, o, _⟩ := c.own i _ h1
    cases o
theorem Vw.bl {v : V} {n : Bool} (h : Vw K F S σ v (.bl n)) (c : Cp K F S σ H) : v = .bl n := by
  rcases h with h | ⟨i, h1, h2⟩
  · cases h
    rfl
  · obtain ⟨a, e, o, _⟩ := c.own i _ h1
    cases o
theorem Vw.non {v : V} (h : Vw K F S σ v .non) (c : Cp K F S σ H) : v = .non := by
  rcases h with h | ⟨i, h1, h2⟩
  · cases h
    rfl
  · obtain ⟨a, e, o, _⟩ := c.own i _ h1
    cases o
theorem Vw.str {v : V} {x : List Nat} (h : Vw K F S σ v (.str x)) (c : Cp K F S σ H) : v = .str (ms x) ∧ strOk' x = true := by
  rcases h with h | ⟨i, h1, h2⟩
  · cases h with
    | str _ h => exact ⟨rfl, h⟩
  · obtain ⟨a, e, o, _⟩ := c.own i _ h1
    cases o
/-- frozen or held: it may be read as data over the whole heap -/
theorem Vw.repH {v : V} {d : D} (h : Vw K F S σ v d) (c : Cp K F S σ H) : Rep K H v d := by
  rcases h with h | ⟨i, h1, h2⟩
  · exact h.mono c.sub
  · obtain ⟨a, e, o, _⟩ := c.own i _ h1
    rw [h2] at e
    cases e
    cases o with
    | lst h l => exact .lst h (l.mono c.sub)
    | obj h l => exact .obj h (l.mono c.sub)
end

/-! ### exceptions -/
def IsExc (K : PySem.W.Frag) (F H : Hp) (fs : List (Str × D)) (d : Option Addr) : Prop := (fs = [] ∧ d = none) ∨ ∃ a fv, d = some a ∧ H a = some (.xd fv) ∧ RepF K F fv fs
def Fin {α : Type} (K : PySem.W.Frag) (W : WX) (F H : Hp) (σ : L2.St) (o : Out α) (k : α → Hp → Hp → Prop) : Prop := match o with
  | .no => False
  | .exc c fs => ∀ F' H' d, Step F H F' H' → IsExc K F' H' fs d → W (.ref (He.ga K c)) d σ H'
  | .ok a => ∀ F' H', Step F H F' H' → k a F' H'
section
variable {α β : Type} {K : PySem.W.Frag} {W : WX} {F F' H H' : Hp} {σ : L2.St}
theorem Fin.step {o : Out α} {k : α → Hp → Hp → Prop} (t : Step F H F' H') (h : Fin K W F H σ o k) : Fin K W F' H' σ o k := by
  cases o with
  | no => exact h
  | exc c fs => exact fun F2 H2 d s e => h F2 H2 d (t.trans s) e
  | ok a => exact fun F2 H2 s => h F2 H2 (t.trans s)
theorem Fin.imp {o : Out α} {k k' : α → Hp → Hp → Prop} (h : Fin K W F H σ o k) (f : ∀ a F' H', Step F H F' H' → k a F' H' → k' a F' H') : Fin K W F H σ o k' := by
  cases o with
  | no => exact h
  | exc c fs => exact h
  | ok a => exact fun F2 H2 s => f a F2 H2 s (h F2 H2 s)
/-- one thing behind another -/
theorem Fin.bind {o : Out α} {f : α → Out β} {k : β → Hp → Hp → Prop} (h : Fin K W F H σ (o.bind f) k) : Fin K W F H σ o fun a F' H' => Fin K W F' H' σ (f a) k := by
  cases o with
  | no => exact h
  | exc c fs => exact h
  | ok a => exact fun F2 H2 s => Fin.step (o := f a) s h
theorem Fin.now {a : α} {k : α → Hp → Hp → Prop} (g : Gr F H) (h : Fin K W F H σ (.ok a) k) : k a F H := h F H (.refl g)
end
def RepR (K : PySem.W.Frag) (F' H' H : Hp) (v : V) (r : R) : Prop := (r.own = false ∧ Rep K F' v r.d) ∨ (r.own = true ∧ ∃ a, v = .ref a ∧ Own K F' H' a r.d ∧ H a = none ∧ F' a = none)

/-! ### judgements -/
abbrev ME := Ss → Out R
abbrev MV := Ss → Out D
abbrev MA := Ss → Out (List D)
abbrev MT := Ss → Out Bool
def tI (K : PySem.W.Frag) (W : WX) (m : ME) : TE := fun σ H Q => ∃ F S, Cp K F S σ H ∧ Fin K W F H σ (m S) fun r F' H' => ∀ v, RepR K F' H' H v r → Q v H'
def tZ (K : PySem.W.Frag) (W : WX) (m : MV) : TE := fun σ H Q => ∃ F S, Cp K F S σ H ∧ Fin K W F H σ (m S) fun d F' H' => ∀ v, Rep K F' v d → Q v H'
def tV (K : PySem.W.Frag) (W : WX) (m : MV) : TE := fun σ H Q => ∃ F S, Cp K F S σ H ∧ Fin K W F H σ (m S) fun d F' H' => ∀ v, Vw K F' S σ v d → Q v H'
def tT (K : PySem.W.Frag) (W : WX) (m : MT) : TT := fun σ H Q => ∃ F S, Cp K F S σ H ∧ Fin K W F H σ (m S) fun b F' H' => Q b H'
/-- arguments: frozen; held or frozen -/
def tA (K : PySem.W.Frag) (W : WX) (m : MA) : TA := fun σ H Q => ∃ F S, Cp K F S σ H ∧ Fin K W F H σ (m S) fun ds F' H' => ∀ vs, RepL K F' vs ds → Q vs H'
inductive VwL (K : PySem.W.Frag) (F : Hp) (S : Ss) (σ : L2.St) : List V → List D → Prop
  | nil : VwL K F S σ [] []
  | cons {v : V} {vs : List V} {d : D} {ds : List D} : Vw K F S σ v d → VwL K F S σ vs ds → VwL K F S σ (v :: vs) (d :: ds)
def tW (K : PySem.W.Frag) (W : WX) (m : MA) : TA := fun σ H Q => ∃ F S, Cp K F S σ H ∧ Fin K W F H σ (m S) fun ds F' H' => ∀ vs, VwL K F' S σ vs ds → Q vs H'
/-- e gives a result; a frozen value; a value to look at -/
structure JE (X : Cx) (W : WX) (e : Expr) (m : ME) : Prop where
  pe : PE X e (tI X.K W m)
structure JZ (X : Cx) (W : WX) (e : Expr) (m : MV) : Prop where
  pe : PE X e (tZ X.K W m)
structure JV (X : Cx) (W : WX) (e : Expr) (m : MV) : Prop where
  pe : PE X e (tV X.K W m)
structure JT (X : Cx) (W : WX) (e : Expr) (m : MT) : Prop where
  pt : PT X e (tT X.K W m)
structure JA (X : Cx) (W : WX) (es : List Expr) (m : MA) : Prop where
  pa : PA X es (tA X.K W m)
structure JW (X : Cx) (W : WX) (es : List Expr) (m : MA) : Prop where
  pa : PA X es (tW X.K W m)
theorem pe_imp {X : Cx} {e : Expr} {t t' : TE} (h : PE X e t) (f : ∀ σ H Q, t' σ H Q → t σ H Q) : PE X e t' := ⟨fun pins s σ H Q I q => h.run pins s σ H Q I (f σ H Q q)⟩
theorem pt_imp {X : Cx} {e : Expr} {t t' : TT} (h : PT X e t) (f : ∀ σ H Q, t' σ H Q → t σ H Q) : PT X e t' := ⟨fun pins s σ H Q I q => h.run pins s σ H Q I (f σ H Q q)⟩
theorem pa_imp {X : Cx} {e : List Expr} {t t' : TA} (h : PA X e t) (f : ∀ σ H Q, t' σ H Q → t σ H Q) : PA X e t' := ⟨fun pos pins s σ H Q I q => h.run pos pins s σ H Q I (f σ H Q q)⟩
theorem ps_imp {X : Cx} {e : Stmt} {t t' : TS} (h : PS X e t) (f : ∀ D σ H, t' D σ H → t D σ H) : PS X e t' := ⟨fun pins s σ H D I q => h.run pins s σ H D I (f D σ H q)⟩
theorem pss_imp {X : Cx} {e : List Stmt} {t t' : TS} (h : PSs X e t) (f : ∀ D σ H, t' D σ H → t D σ H) : PSs X e t' := ⟨fun pins s σ H D I q => h.run pins s σ H D I (f D σ H q)⟩

/-! ### from one to the other -/
/-- what is held alone is frozen -/
theorem freeze {K : PySem.W.Frag} {F H H0 : Hp} {a : Addr} {d : D} (g : Gr F H) (o : Own K F H a d) (hf : F a = none) : ∃ F2, Gr F F2 ∧ Gr F2 H ∧ (∀ b u, F2 b = some u → F b = some u ∨ b = a) ∧ Rep K F2 (.ref a) d := by
  obtain ⟨u, hu⟩ := o.some
  refine ⟨upd F a u, .new hf, fun b w e => ?_, fun b w e => ?_, ?_⟩
  · by_cases hb : b = a
    · subst hb
      rw [upd_same] at e
      cases e
      exact hu
    · rw [upd_ne hb] at e
      exact g b w e
  · by_cases hb : b = a
    · exact .inr hb
    · rw [upd_ne hb] at e
      exact .inl e
  · cases o with
    | lst h l =>
      rw [h] at hu
      cases hu
      exact .lst upd_same (l.mono (.new hf))
    | obj h l =>
      rw [h] at hu
      cases hu
      exact .obj upd_same (l.mono (.new hf))
/-- a result taken as a frozen value -/
theorem RepR.fz {K : PySem.W.Frag} {F H F' H' : Hp} {v : V} {r : R} (t : Step F H F' H') (h : RepR K F' H' H v r) : ∃ F2, Step F H F2 H' ∧ Gr F' F2 ∧ Rep K F2 v r.d := by
  rcases h with ⟨_, h⟩ | ⟨_, a, rfl, o, hn, hf⟩
  · exact ⟨F', t, .refl _, h⟩
  · obtain ⟨F2, g1, g2, g3, rp⟩ := freeze (H0 := H) t.sub o hf
    refine ⟨F2, ⟨t.gf.trans g1, t.gh, g2, fun b u e => ?_⟩, g1, rp⟩
    rcases g3 b u e with z | z
    · exact t.new b u z
    · rw [z]
      exact .inr hn
def mZ (m : ME) : MV := fun S => (m S).bind fun r => .ok r.d
def vE (m : ME) : MV := mZ m
def vVar (i : Nat) : MV := fun S => match S[i]? with
  | some (.fz d) => .ok d
  | some (.own d) => .ok d
  | _ => .no
def mVar (i : Nat) : ME := fun S => match S[i]? with
  | some (.fz d) => .ok ⟨false, d⟩
  | _ => .no
section
variable {X : Cx} {W : WX} {e : Expr} {pos : Pos}
theorem JE.z {m : ME} (h : JE X W e m) : JZ X W e (mZ m) := ⟨pe_imp h.pe fun σ H Q ⟨F, S, c, q⟩ => ⟨F, S, c, by
  unfold mZ at q
  cases hm : m S with
  | no =>
    rw [hm] at q
    exact q
  | exc x fs =>
    rw [hm] at q
    exact q
  | ok r =>
    rw [hm] at q
    intro F1 H1 t v rp
    obtain ⟨F2, t2, g, rp2⟩ := rp.fz t
    exact q F2 H1 t2 v rp2⟩⟩
theorem JE.v {m : ME} (h : JE X W e m) : JV X W e (vE m) := ⟨pe_imp h.z.pe fun σ H Q ⟨F, S, c, q⟩ => ⟨F, S, c, Fin.imp q fun d F1 H1 t z v rp => z v (.inl rp)⟩⟩
theorem jv_var {i : Nat} {x : Str} (h : PE X (.Name x pos) (tVar i)) : JV X W (.Name x pos) (vVar i) := ⟨pe_imp h fun σ H Q ⟨F, S, c, q⟩ => by
  unfold vVar at q
  cases hs : S[i]? with
  | none =>
    rw [hs] at q
    exact q.elim
  | some sl =>
    rw [hs] at q
    cases sl with
    | no => exact q.elim
    | fz d =>
      obtain ⟨v, h1, h2⟩ := c.fz i d hs
      exact ⟨v, h1, Fin.now c.sub q v (.inl h2)⟩
    | own d =>
      obtain ⟨a, h1, h2, h3⟩ := c.own i d hs
      exact ⟨.ref a, h1, Fin.now c.sub q _ (.inr ⟨i, hs, h1⟩)⟩⟩
theorem je_var {i : Nat} {x : Str} (h : PE X (.Name x pos) (tVar i)) : JE X W (.Name x pos) (mVar i) := ⟨pe_imp h fun σ H Q ⟨F, S, c, q⟩ => by
  unfold mVar at q
  cases hs : S[i]? with
  | none =>
    rw [hs] at q
    exact q.elim
  | some sl =>
    rw [hs] at q
    cases sl with
    | no => exact q.elim
    | fz d =>
      obtain ⟨v, h1, h2⟩ := c.fz i d hs
      exact ⟨v, h1, Fin.now c.sub q v (.inl ⟨rfl, h2⟩)⟩
    | own d => exact q.elim⟩
/-- a value that is known: a constant, a name of the module -/
def mC (d : D) : ME := fun _ => .ok ⟨false, d⟩
theorem je_c {v : V} {d : D} (h : PE X e (tC v)) (r : ∀ F, Rep X.K F v d) : JE X W e (mC d) := ⟨pe_imp h fun σ H Q ⟨F, S, c, q⟩ => Fin.now c.sub q v (.inl ⟨rfl, r F⟩)⟩

/-! ### arguments -/
def aNil : MA := fun _ => .ok []
def aCons (m : MV) (ms : MA) : MA := fun S => (m S).bind fun d => (ms S).bind fun ds => .ok (d :: ds)
theorem ja_nil : JA X W [] aNil := ⟨pa_imp pa_nil fun σ H Q ⟨F, S, c, q⟩ => Fin.now c.sub q [] .nil⟩
theorem jw_nil : JW X W [] aNil := ⟨pa_imp pa_nil fun σ H Q ⟨F, S, c, q⟩ => Fin.now c.sub q [] .nil⟩
theorem ja_cons {es : List Expr} {m : MV} {ms : MA} (h : JZ X W e m) (t : JA X W es ms) (hs : starEach (e :: es) X.env = (false, eval e X.env) :: starEach es X.env := by rfl) : JA X W (e :: es) (aCons m ms) :=
  ⟨pa_imp (pa_cons h.pe t.pa hs) fun σ H Q ⟨F, S, c, q⟩ => ⟨F, S, c, Fin.imp (Fin.bind q) fun d F1 H1 t1 z v rp => ⟨F1, S, c.step t1, Fin.imp (Fin.bind z) fun ds F2 H2 t2 z2 vs rps => Fin.now t2.sub z2 _ (.cons (rp.mono t2.gf) rps)⟩⟩⟩
theorem jw_cons {es : List Expr} {m : MV} {ms : MA} (h : JV X W e m) (t : JW X W es ms) (hs : starEach (e :: es) X.env = (false, eval e X.env) :: starEach es X.env := by rfl) : JW X W (e :: es) (aCons m ms) :=
  ⟨pa_imp (pa_cons h.pe t.pa hs) fun σ H Q ⟨F, S, c, q⟩ => ⟨F, S, c, Fin.imp (Fin.bind q) fun d F1 H1 t1 z v rp => ⟨F1, S, c.step t1, Fin.imp (Fin.bind z) fun ds F2 H2 t2 z2 vs rps => Fin.now t2.sub z2 _ (.cons (rp.mono t2.gf) rps)⟩⟩⟩

/-! ### operations on values -/
def kE (K : PySem.W.Frag) (H : Hp) (Q : VK) : R → Hp → Hp → Prop := fun r F' H' => ∀ v, RepR K F' H' H v r → Q v H'
theorem kE_mono {K : PySem.W.Frag} {H H1 : Hp} {Q : VK} (g : Gr H H1) {r : R} {F' H' : Hp} (h : kE K H Q r F' H') : kE K H1 Q r F' H' := fun v rp => h v (rp.imp id fun ⟨h1, a, h2, h3, h4, h5⟩ => ⟨h1, a, h2, h3, g.free h4, h5⟩)
theorem Fin.kE_mono {K : PySem.W.Frag} {F H H1 : Hp} {σ : L2.St} {Q : VK} {o : Out R} (g : Gr H H1) (h : Fin K W F H1 σ o (kE K H Q)) : Fin K W F H1 σ o (kE K H1 Q) := Fin.imp h fun _ _ _ _ z => VM.kE_mono g z
structure OpD (X : Cx) (W : WX) (f : Value → Value → Sem Value) (g : D → D → Out R) : Prop where
  ex : ∃ r : R2, OpR X f r ∧ ∀ F S σ H x y dx dy Q, Cp X.K F S σ H → Vw X.K F S σ x dx → Vw X.K F S σ y dy → Fin X.K W F H σ (g dx dy) (kE X.K H Q) → r x y H Q
structure UnD (X : Cx) (W : WX) (f : Value → Sem Value) (g : D → Out R) : Prop where
  ex : ∃ r : V → Hp → VK → Prop, UnR X f r ∧ ∀ F S σ H x dx Q, Cp X.K F S σ H → Vw X.K F S σ x dx → Fin X.K W F H σ (g dx) (kE X.K H Q) → r x H Q
structure CaD (X : Cx) (W : WX) (f : Value) (g : List D → Out R) : Prop where
  ex : ∃ r : List V → Hp → VK → Prop, CallR X f r ∧ ∀ F S σ H xs dxs Q, Cp X.K F S σ H → VwL X.K F S σ xs dxs → Fin X.K W F H σ (g dxs) (kE X.K H Q) → r xs H Q
def m2 (g : D → D → Out R) (a b : MV) : ME := fun S => (a S).bind fun x => (b S).bind fun y => g x y
def m1 (g : D → Out R) (a : MV) : ME := fun S => (a S).bind fun x => g x
def mN (g : List D → Out R) (a : MA) : ME := fun S => (a S).bind fun x => g x
theorem bin_imp {K : PySem.W.Frag} {W : WX} {r : R2} {g : D → D → Out R} {ma mb : MV} (hr : ∀ F S σ H x y dx dy Q, Cp K F S σ H → Vw K F S σ x dx → Vw K F S σ y dy → Fin K W F H σ (g dx dy) (kE K H Q) → r x y H Q)
    (σ : L2.St) (H : Hp) (Q : VK) (h : tI K W (m2 g ma mb) σ H Q) : tOp r (tV K W ma) (tV K W mb) σ H Q := by
  obtain ⟨F, S, c, q⟩ := h
  exact ⟨F, S, c, Fin.imp (Fin.bind q) fun x F1 H1 t1 z1 v1 r1 => ⟨F1, S, c.step t1, Fin.imp (Fin.bind z1) fun y F2 H2 t2 z2 v2 r2 => hr F2 S σ H2 v1 v2 x y Q ((c.step t1).step t2) (r1.mono t2.gf) r2 (Fin.kE_mono (t1.gh.trans t2.gh) z2)⟩⟩
theorem je_op {op : Operator} {a b : Expr} {g : D → D → Out R} {ma mb : MV} (ho : OpD X W (binaryOp op) g) (ha : JV X W a ma) (hb : JV X W b mb) : JE X W (.BinOp a op b pos) (m2 g ma mb) := by
  obtain ⟨r, h1, h2⟩ := ho.ex
  exact ⟨pe_imp (pe_op h1 ha.pe hb.pe) (bin_imp h2)⟩
theorem je_cmp {op : CmpOp} {a b : Expr} {g : D → D → Out R} {ma mb : MV} (ho : OpD X W (compareOp op) g) (ha : JV X W a ma) (hb : JV X W b mb) (hm : behindInMarks op b = false) : JE X W (.Compare a [op] [b] pos) (m2 g ma mb) := by
  obtain ⟨r, h1, h2⟩ := ho.ex
  exact ⟨pe_imp (pe_cmpR h1 ha.pe hb.pe hm) (bin_imp h2)⟩
theorem je_ix {a b : Expr} {g : D → D → Out R} {ma mb : MV} {r : R2} (h1 : IxR X r) (h2 : ∀ F S σ H x y dx dy Q, Cp X.K F S σ H → Vw X.K F S σ x dx → Vw X.K F S σ y dy → Fin X.K W F H σ (g dx dy) (kE X.K H Q) → r x y H Q)
    (ha : JV X W a ma) (hb : JV X W b mb) (hs : PlainIx b) : JE X W (.Subscript a b pos) (m2 g ma mb) := ⟨pe_imp (pe_ix h1 ha.pe hb.pe hs) (bin_imp h2)⟩
theorem je_un {op : UnaryOp} {a : Expr} {g : D → Out R} {ma : MV} (ho : UnD X W (unaryOp op) g) (ha : JV X W a ma) : JE X W (.UnaryOp op a pos) (m1 g ma) := by
  obtain ⟨r, h1, h2⟩ := ho.ex
  refine ⟨pe_imp (pe_un h1 ha.pe) fun σ H Q ⟨F, S, c, q⟩ => ⟨F, S, c, Fin.imp (Fin.bind q) fun x F1 H1 t1 z1 v1 r1 => h2 F1 S σ H1 v1 x Q (c.step t1) r1 (Fin.kE_mono t1.gh z1)⟩⟩
theorem ca_imp {K : PySem.W.Frag} {W : WX} {r : List V → Hp → VK → Prop} {g : List D → Out R} {ma : MA} (hr : ∀ F S σ H xs dxs Q, Cp K F S σ H → VwL K F S σ xs dxs → Fin K W F H σ (g dxs) (kE K H Q) → r xs H Q)
    (σ : L2.St) (H : Hp) (Q : VK) (h : tI K W (mN g ma) σ H Q) : tCB r (tW K W ma) σ H Q := by
  obtain ⟨F, S, c, q⟩ := h
  exact ⟨F, S, c, Fin.imp (Fin.bind q) fun x F1 H1 t1 z1 v1 r1 => hr F1 S σ H1 v1 x Q (c.step t1) r1 (Fin.kE_mono t1.gh z1)⟩
theorem je_callB {x : Str} {p : Pos} {id : String} {es : List Expr} {g : List D → Out R} {ma : MA} (hc : CaD X W (.builtin id) g) (hg : Gl X x) (hm : X.mg x = none) (hv : bootBuiltins x = some (.builtin id)) (ha : JW X W (e :: es) ma)
    (hn : x ≠ "__name__" := by decide) (hdb : (x == ("__debug__" : Str)) = false := by decide) (he : starEach (e :: es) X.env = (false, eval e X.env) :: starEach es X.env := by rfl) (hpl : (backTo pos (starEach es X.env)).any (·.1) = false := by rfl) :
    JE X W (.Call (.Name x p) (e :: es) [] pos) (mN g ma) := by
  obtain ⟨r, h1, h2⟩ := hc.ex
  exact ⟨pe_imp (pe_callB h1 hg hm hv ha.pa hn hdb he hpl) (ca_imp h2)⟩
theorem je_callTy {x : Str} {p : Pos} {T : String} {es : List Expr} {g : List D → Out R} {ma : MA} (hc : CaD X W (.type T) g) (hg : Gl X x) (hm : X.mg x = none) (hv : bootBuiltins x = some (.type T)) (ha : JW X W (e :: es) ma)
    (hn : x ≠ "__name__" := by decide) (hdb : (x == ("__debug__" : Str)) = false := by decide) (he : starEach (e :: es) X.env = (false, eval e X.env) :: starEach es X.env := by rfl) (hpl : (backTo pos (starEach es X.env)).any (·.1) = false := by rfl) :
    JE X W (.Call (.Name x p) (e :: es) [] pos) (mN g ma) := by
  obtain ⟨r, h1, h2⟩ := hc.ex
  exact ⟨pe_imp (pe_callTy h1 hg hm hv ha.pa hn hdb he hpl) (ca_imp h2)⟩
end
end VM

namespace VM
open PySem PySem.Spec PyProof.Rows L2

/-! ### statements -/
/-- the entry of the def that runs: what was frozen, what was tracked -/
structure Ct where
  F0 : Hp
  H0 : Hp
structure Bs (K : PySem.W.Frag) (C : Ct) (F : Hp) (S : Ss) (σ : L2.St) (H : Hp) : Prop where
  cp : Cp K F S σ H
  st : Step C.F0 C.H0 F H
  fr : ∀ (i : Nat) (d : D) (a : Addr), S[i]? = some (.own d) → σ[i]? = some (some (.ref a)) → C.H0 a = none
inductive SOut where
  | no
  | nx (S : Ss)
  | ret (r : R)
  | bk (S : Ss)
  | ct (S : Ss)
  | exc (S : Ss) (c : Str) (fs : List (Str × D))
abbrev MS := Ss → SOut
def FinS (K : PySem.W.Frag) (W : WX) (C : Ct) (D : Ends) (F : Hp) (o : SOut) : Prop := match o with
  | .no => False
  | .nx S => ∀ F' σ' H', Bs K C F' S σ' H' → Gr F F' → D.nx σ' H'
  | .bk S => ∀ F' σ' H', Bs K C F' S σ' H' → Gr F F' → D.bk σ' H'
  | .ct S => ∀ F' σ' H', Bs K C F' S σ' H' → Gr F F' → D.ct σ' H'
  | .ret r => ∀ v F' H', Step C.F0 C.H0 F' H' → RepR K F' H' C.H0 v r → D.rt v H'
  | .exc S c fs => ∀ F' σ' H' d, Bs K C F' S σ' H' → IsExc K F' H' fs d → W (.ref (He.ga K c)) d σ' H'
def tS (K : PySem.W.Frag) (W : WX) (C : Ct) (m : MS) : TS := fun D σ H => ∃ F S, Bs K C F S σ H ∧ FinS K W C D F (m S)
structure JS (X : Cx) (W : WX) (st : Stmt) (m : MS) : Prop where
  ps : ∀ C, PS X st (tS X.K W C m)
structure JSs (X : Cx) (W : WX) (st : List Stmt) (m : MS) : Prop where
  pss : ∀ C, PSs X st (tS X.K W C m)
section
variable {K : PySem.W.Frag} {W : WX} {C : Ct} {D : Ends} {F F' H H' : Hp} {S : Ss} {σ : L2.St}
theorem Bs.step (b : Bs K C F S σ H) (t : Step F H F' H') : Bs K C F' S σ H' := ⟨b.cp.step t, b.st.trans t, b.fr⟩
theorem FinS.mono {o : SOut} (g : Gr F F') (h : FinS K W C D F o) : FinS K W C D F' o := by
  cases o with
  | no => exact h
  | nx S => exact fun F2 σ2 H2 b g2 => h F2 σ2 H2 b (g.trans g2)
  | bk S => exact fun F2 σ2 H2 b g2 => h F2 σ2 H2 b (g.trans g2)
  | ct S => exact fun F2 σ2 H2 b g2 => h F2 σ2 H2 b (g.trans g2)
  | ret r => exact h
  | exc S c fs => exact h
/-- the end of a statement through its expression's outcome -/
def ofOut {α : Type} (S : Ss) (o : Out α) (k : α → SOut) : SOut := match o with
  | .no => .no
  | .exc c fs => .exc S c fs
  | .ok a => k a
theorem FinS.out {α : Type} {o : Out α} {k : α → SOut} (b : Bs K C F S σ H) (h : FinS K W C D F (ofOut S o k)) : Fin K W F H σ o fun a F' H' => FinS K W C D F' (k a) := by
  cases o with
  | no => exact h
  | exc c fs => exact fun F2 H2 d t e => h F2 σ H2 d (b.step t) e
  | ok a => exact fun F2 H2 t => FinS.mono (o := k a) t.gf h

/-! ### slots stored -/
def slR (r : R) : Sl := if r.own then .own r.d else .fz r.d
theorem set_lt {α : Type} {l : List α} {i : Nat} {a b : α} (h : (l.set i a)[i]? = some b) : i < l.length := by
  have := (List.getElem?_eq_some_iff.mp h).1
  simpa using this
theorem set_self {α : Type} {l : List α} {i : Nat} {a b : α} (h : (l.set i a)[i]? = some b) : a = b := by
  have h1 := set_lt h
  rw [List.getElem?_set_self h1] at h
  exact Option.some.inj h
theorem Bs.set (b : Bs K C F S σ H) {v : V} {sl : Sl} (i : Nat) (h : match sl with
    | .no => True
    | .fz d => Rep K F v d
    | .own d => ∃ a, v = .ref a ∧ Own K F H a d ∧ F a = none ∧ C.H0 a = none ∧ ∀ (j : Nat) (d' : VM.D), j ≠ i → S[j]? = some (.own d') → σ[j]? ≠ some (some (.ref a))) : Bs K C F (S.set i sl) (σ.set i (some v)) H := by
  have hl : S.length = σ.length := b.cp.len
  refine ⟨⟨b.cp.sub, by simpa using hl, fun j d e => ?_, fun j d e => ?_, fun j k dj dk a ne ej ek aj ak => ?_⟩, b.st, fun j d a e ea => ?_⟩
  · by_cases hj : j = i
    · subst hj
      have e2 := set_self e
      subst e2
      refine ⟨v, ?_, h⟩
      rw [List.getElem?_set_self (by rw [← hl]; exact set_lt e)]
    · rw [List.getElem?_set_ne (Ne.symm hj)] at e ⊢
      exact b.cp.fz j d e
  · by_cases hj : j = i
    · subst hj
      have e2 := set_self e
      subst e2
      obtain ⟨a, rfl, o, hf, _, _⟩ := h
      refine ⟨a, ?_, o, hf⟩
      rw [List.getElem?_set_self (by rw [← hl]; exact set_lt e)]
    · rw [List.getElem?_set_ne (Ne.symm hj)] at e ⊢
      exact b.cp.own j d e
  · have key : ∀ (p q : Nat) (dp dq : VM.D), p ≠ q → p = i → (S.set i sl)[p]? = some (.own dp) → (S.set i sl)[q]? = some (.own dq) → (σ.set i (some v))[p]? = some (some (.ref a)) → (σ.set i (some v))[q]? = some (some (.ref a)) → False := fun p q dp dq npq hp ep eq ap aq => by
      subst hp
      have e2 := set_self ep
      subst e2
      obtain ⟨a', rfl, o, hf, _, ap'⟩ := h
      have hq : q ≠ p := Ne.symm npq
      rw [List.getElem?_set_ne npq] at eq aq
      have z := set_self ap
      cases z
      exact ap' q dq hq eq aq
    by_cases hj : j = i
    · exact key j k dj dk ne hj ej ek aj ak
    · by_cases hk : k = i
      · exact key k j dk dj (Ne.symm ne) hk ek ej ak aj
      · rw [List.getElem?_set_ne (Ne.symm hj)] at ej aj
        rw [List.getElem?_set_ne (Ne.symm hk)] at ek ak
        exact b.cp.dis j k dj dk a ne ej ek aj ak
  · by_cases hj : j = i
    · subst hj
      have e2 := set_self e
      subst e2
      obtain ⟨a', rfl, o, hf, h0, _⟩ := h
      have z := set_self ea
      cases z
      exact h0
    · rw [List.getElem?_set_ne (Ne.symm hj)] at e ea
      exact b.fr j d a e ea
/-- a result is stored -/
theorem Bs.setR (b : Bs K C F S σ H) (t : Step F H F' H') {v : V} {r : R} (i : Nat) (rp : RepR K F' H' H v r) : Bs K C F' (S.set i (slR r)) (σ.set i (some v)) H' := by
  refine (b.step t).set i ?_
  unfold slR
  rcases rp with ⟨e, h⟩ | ⟨e, a, rfl, o, hn, hf⟩
  · rw [e]
    exact h
  · rw [e]
    refine ⟨a, rfl, o, hf, b.st.gh.free hn, fun j d' _ ej aj => ?_⟩
    obtain ⟨a', h1, h2, _⟩ := b.cp.own j d' ej
    rw [aj] at h1
    cases h1
    obtain ⟨u, hu⟩ := h2.some
    rw [hn] at hu
    cases hu
/-- a held object is changed -/
theorem Bs.mut (b : Bs K C F S σ H) {i : Nat} {a : Addr} {d d' : VM.D} {o' : HO} (hs : S[i]? = some (.own d)) (ha : σ[i]? = some (some (.ref a))) (new : Own K F (upd H a o') a d') : Bs K C F (S.set i (.own d')) σ (upd H a o') := by
  have h0 := b.fr i d a hs ha
  obtain ⟨a2, e2, ow, hf⟩ := b.cp.own i d hs
  rw [ha] at e2
  cases e2
  have hil : i < S.length := (List.getElem?_eq_some_iff.mp hs).1
  have up : ∀ (G : Hp), G a = none → Gr G H → Gr G (upd H a o') := fun G hg g x u e => by
    by_cases hx : x = a
    · subst hx
      rw [hg] at e
      cases e
    · rw [upd_ne hx]
      exact g x u e
  have oth : ∀ (j : Nat) (dj : VM.D) (c : Addr), j ≠ i → S[j]? = some (.own dj) → σ[j]? = some (some (.ref c)) → c ≠ a := fun j dj c hj ej ec z => by
    subst z
    exact b.cp.dis j i dj d c hj ej hs ec ha
  refine ⟨⟨up F hf b.cp.sub, by simpa using b.cp.len, fun j dj e => ?_, fun j dj e => ?_, fun j k dj dk c ne ej ek cj ck => ?_⟩, ⟨b.st.gf, up _ h0 b.st.gh, up F hf b.st.sub, b.st.new⟩, fun j dj c e ec => ?_⟩
  · by_cases hj : j = i
    · subst hj
      have e2 := set_self e
      cases e2
    · rw [List.getElem?_set_ne (Ne.symm hj)] at e
      exact b.cp.fz j dj e
  · by_cases hj : j = i
    · subst hj
      have e2 := set_self e
      cases e2
      exact ⟨a, ha, new, hf⟩
    · rw [List.getElem?_set_ne (Ne.symm hj)] at e
      obtain ⟨c, h1, h2, h3⟩ := b.cp.own j dj e
      have nc := oth j dj c hj e h1
      refine ⟨c, h1, ?_, h3⟩
      cases h2 with
      | lst h l => exact .lst (by rw [upd_ne nc]; exact h) l
      | obj h l => exact .obj (by rw [upd_ne nc]; exact h) l
  · have key : ∀ (p : Nat) (dp : VM.D), (S.set i (.own d'))[p]? = some (.own dp) → ∃ dp', S[p]? = some (.own dp') := fun p dp ep => by
      by_cases hp : p = i
      · subst hp
        exact ⟨d, hs⟩
      · rw [List.getElem?_set_ne (Ne.symm hp)] at ep
        exact ⟨dp, ep⟩
    obtain ⟨dj', ej'⟩ := key j dj ej
    obtain ⟨dk', ek'⟩ := key k dk ek
    exact b.cp.dis j k dj' dk' c ne ej' ek' cj ck
  · by_cases hj : j = i
    · subst hj
      rw [ha] at ec
      cases ec
      exact h0
    · rw [List.getElem?_set_ne (Ne.symm hj)] at e
      exact b.fr j dj c e ec
/-- slots forgotten -/
def wipeS (S : Ss) : List Nat → Ss
  | [] => S
  | i :: is => (wipeS S is).set i .no
theorem wipeS_len (S : Ss) : ∀ is, (wipeS S is).length = S.length
  | [] => rfl
  | i :: is => by
    unfold wipeS
    rw [List.length_set, wipeS_len S is]
theorem wipeS_get {i : Nat} {sl : Sl} : ∀ {is : List Nat}, (wipeS S is)[i]? = some sl → sl = .no ∨ S[i]? = some sl
  | [], h => .inr h
  | j :: is, h => by
    unfold wipeS at h
    by_cases hj : i = j
    · subst hj
      exact .inl (set_self h).symm
    · rw [List.getElem?_set_ne (Ne.symm hj)] at h
      exact wipeS_get h
theorem Cp.weak {S' : Ss} (c : Cp K F S σ H) (hl : S'.length = S.length) (h : ∀ (i : Nat) (sl : Sl), S'[i]? = some sl → sl = .no ∨ S[i]? = some sl) : Cp K F S' σ H := by
  have f : ∀ (i : Nat) (d : VM.D), S'[i]? = some (.fz d) → S[i]? = some (.fz d) := fun i d e => (h i _ e).elim (fun z => nomatch z) id
  have o : ∀ (i : Nat) (d : VM.D), S'[i]? = some (.own d) → S[i]? = some (.own d) := fun i d e => (h i _ e).elim (fun z => nomatch z) id
  exact ⟨c.sub, hl.trans c.len, fun i d e => c.fz i d (f i d e), fun i d e => c.own i d (o i d e), fun i j di dj a ne ei ej => c.dis i j di dj a ne (o i di ei) (o j dj ej)⟩
theorem Bs.weak {S' : Ss} (b : Bs K C F S σ H) (hl : S'.length = S.length) (h : ∀ (i : Nat) (sl : Sl), S'[i]? = some sl → sl = .no ∨ S[i]? = some sl) : Bs K C F S' σ H :=
  ⟨b.cp.weak hl h, b.st, fun i d a e => b.fr i d a ((h i _ e).elim (fun z => nomatch z) id)⟩
theorem Bs.wipe (b : Bs K C F S σ H) (is : List Nat) : Bs K C F (wipeS S is) σ H := b.weak (wipeS_len S is) fun _ _ e => wipeS_get e
/-- slots frozen -/
def frz1 (S : Ss) (i : Nat) : Ss := match S[i]? with
  | some (.own d) => S.set i (.fz d)
  | _ => S
def frzS (S : Ss) : List Nat → Ss
  | [] => S
  | i :: is => frzS (frz1 S i) is
theorem Bs.frz1 (b : Bs K C F S σ H) (i : Nat) : ∃ F2, Gr F F2 ∧ Bs K C F2 (frz1 S i) σ H := by
  unfold VM.frz1
  cases hs : S[i]? with
  | none => exact ⟨F, .refl F, b⟩
  | some sl =>
    cases sl with
    | no => exact ⟨F, .refl F, b⟩
    | fz d => exact ⟨F, .refl F, b⟩
    | own d =>
      obtain ⟨a, ha, ow, hf⟩ := b.cp.own i d hs
      have h0 := b.fr i d a hs ha
      obtain ⟨F2, g1, g2, g3, rp⟩ := freeze (H0 := H) b.cp.sub ow hf
      have oth : ∀ (j : Nat) (dj : VM.D) (c : Addr), j ≠ i → S[j]? = some (.own dj) → σ[j]? = some (some (.ref c)) → c ≠ a := fun j dj c hj ej ec z => by
        subst z
        exact b.cp.dis j i dj d c hj ej hs ec ha
      refine ⟨F2, g1, ⟨⟨g2, by simpa using b.cp.len, fun j dj e => ?_, fun j dj e => ?_, fun j k dj dk c ne ej ek cj ck => ?_⟩, ⟨b.st.gf.trans g1, b.st.gh, g2, fun c u e => ?_⟩, fun j dj c e ec => ?_⟩⟩
      · by_cases hj : j = i
        · subst hj
          have e2 := set_self e
          cases e2
          exact ⟨_, ha, rp⟩
        · rw [List.getElem?_set_ne (Ne.symm hj)] at e
          obtain ⟨v, h1, h2⟩ := b.cp.fz j dj e
          exact ⟨v, h1, h2.mono g1⟩
      · by_cases hj : j = i
        · subst hj
          have e2 := set_self e
          cases e2
        · rw [List.getElem?_set_ne (Ne.symm hj)] at e
          obtain ⟨c, h1, h2, h3⟩ := b.cp.own j dj e
          refine ⟨c, h1, h2.mono g1 (.refl H), ?_⟩
          cases q : F2 c with
          | none => rfl
          | some u =>
            rcases g3 c u q with z | z
            · rw [h3] at z
              cases z
            · exact absurd z (oth j dj c hj e h1)
      · have key : ∀ (p : Nat) (dp : VM.D), (S.set i (.fz d))[p]? = some (.own dp) → S[p]? = some (.own dp) := fun p dp ep => by
          by_cases hp : p = i
          · subst hp
            have e2 := set_self ep
            cases e2
          · rw [List.getElem?_set_ne (Ne.symm hp)] at ep
            exact ep
        exact b.cp.dis j k dj dk c ne (key j dj ej) (key k dk ek) cj ck
      · rcases g3 c u e with z | z
        · exact b.st.new c u z
        · rw [z]
          exact .inr h0
      · by_cases hj : j = i
        · subst hj
          have e2 := set_self e
          cases e2
        · rw [List.getElem?_set_ne (Ne.symm hj)] at e
          exact b.fr j dj c e ec
theorem Bs.frz : ∀ (is : List Nat) {F : Hp} {S : Ss}, Bs K C F S σ H → ∃ F2, Gr F F2 ∧ Bs K C F2 (frzS S is) σ H
  | [], F, S, b => ⟨F, .refl F, b⟩
  | i :: is, F, S, b => by
    obtain ⟨F1, g1, b1⟩ := b.frz1 i
    obtain ⟨F2, g2, b2⟩ := Bs.frz is b1
    exact ⟨F2, g1.trans g2, b2⟩
end

/-! ### rules for statements -/
def seqS (a b : MS) : MS := fun S => match a S with
  | .nx S1 => b S1
  | o => o
def nxS : MS := fun S => .nx S
section
variable {X : Cx} {W : WX} {pos : Pos}
theorem jss_nil : JSs X W [] nxS := ⟨fun C => pss_imp pss_nil fun D σ H ⟨F, S, b, q⟩ => q F σ H b (.refl F)⟩
theorem jss_one {st : Stmt} {m : MS} (h : JS X W st m) : JSs X W [st] m := ⟨fun C => pss_one (h.ps C)⟩
theorem jss_cons {st : Stmt} {rest : List Stmt} {m ms : MS} (h : JS X W st m) (t : JSs X W rest ms) : JSs X W (st :: rest) (seqS m ms) := ⟨fun C => pss_imp (pss_cons (h.ps C) (t.pss C)) fun D σ H ⟨F, S, b, q⟩ => ⟨F, S, b, by
  unfold seqS at q
  cases hm : m S with
  | nx S1 =>
    rw [hm] at q
    exact fun F' σ' H' b' g => ⟨F', S1, b', FinS.mono g q⟩
  | no =>
    rw [hm] at q
    exact q
  | ret r =>
    rw [hm] at q
    exact q
  | bk r =>
    rw [hm] at q
    exact q
  | ct r =>
    rw [hm] at q
    exact q
  | exc r c fs =>
    rw [hm] at q
    exact q⟩⟩
/-- slots frozen, forgotten ahead of a statement -/
theorem js_frz {st : Stmt} {m : MS} (is : List Nat) (h : JS X W st m) : JS X W st (fun S => m (frzS S is)) := ⟨fun C => ps_imp (h.ps C) fun D σ H ⟨F, S, b, q⟩ => by
  obtain ⟨F2, g, b2⟩ := Bs.frz is b
  exact ⟨F2, _, b2, FinS.mono g q⟩⟩
theorem jss_wipe {st : List Stmt} {m : MS} (is : List Nat) (h : JSs X W st m) : JSs X W st (fun S => m (wipeS S is)) := ⟨fun C => pss_imp (h.pss C) fun D σ H ⟨F, S, b, q⟩ => ⟨F, _, b.wipe is, q⟩⟩
theorem js_pass : JS X W (.Pass pos) nxS := ⟨fun C => ps_imp ps_pass fun D σ H ⟨F, S, b, q⟩ => q F σ H b (.refl F)⟩
def bkS : MS := fun S => .bk S
def ctS : MS := fun S => .ct S
theorem js_break : JS X W (.Break pos) bkS := ⟨fun C => ps_imp ps_break fun D σ H ⟨F, S, b, q⟩ => q F σ H b (.refl F)⟩
theorem js_cont : JS X W (.Continue pos) ctS := ⟨fun C => ps_imp ps_continue fun D σ H ⟨F, S, b, q⟩ => q F σ H b (.refl F)⟩
def noS : MS := fun _ => .no
theorem js_never {st : Stmt} : JS X W st noS := ⟨fun C => ps_imp ps_never fun D σ H ⟨F, S, b, q⟩ => q⟩
/-- e alone -/
def drS (m : ME) : MS := fun S => ofOut S (m S) fun _ => .nx S
theorem js_expr {e : Expr} {m : ME} (h : JE X W e m) (hs : swapsWith e none pos.line X.env = pure false := by rfl) : JS X W (.Expr e pos) (drS m) := ⟨fun C => ps_imp (ps_expr h.pe hs) fun D σ H ⟨F, S, b, q⟩ =>
  ⟨F, S, b.cp, Fin.imp (FinS.out b q) fun r F1 H1 t z v rp => z F1 σ H1 (b.step t) (.refl _)⟩⟩
/-! targets -/
def tG (K : PySem.W.Frag) (is : List Nat) (tg : D → Ss → Option Ss) : TG := fun v σ H Q => ∃ C F S d S', Bs K C F S σ H ∧ Rep K F v d ∧ tg d S = some S' ∧ ∀ σ', Bs K C F S' σ' H → (∀ vs, (∀ i ∈ is, i ∈ vs) → wipe σ' vs = wipe σ vs) → Q σ' H
def tGs (K : PySem.W.Frag) (is : List Nat) (tg : List D → Ss → Option Ss) : TGs := fun vs σ H Q => ∃ C F S ds S', Bs K C F S σ H ∧ RepL K F vs ds ∧ tg ds S = some S' ∧ ∀ σ', Bs K C F S' σ' H → (∀ vs, (∀ i ∈ is, i ∈ vs) → wipe σ' vs = wipe σ vs) → Q σ' H
theorem wipe_get {σ : L2.St} {i : Nat} : ∀ {vs : List Nat}, (wipe σ vs)[i]? = if i ∈ vs then (if i < σ.length then some none else none) else σ[i]?
  | [] => by simp [wipe]
  | v :: vs => by
    unfold wipe
    by_cases h : v = i
    · subst h
      by_cases h2 : v < σ.length
      · rw [List.getElem?_set_self (by rw [wipe_length]; exact h2)]
        simp [h2]
      · rw [List.getElem?_eq_none (by rw [List.length_set, wipe_length]; omega)]
        simp [h2]
    · rw [List.getElem?_set_ne h, wipe_get (vs := vs)]
      have h' : ¬ i = v := fun e => h e.symm
      simp [h']
theorem wipe_set {σ : L2.St} {i : Nat} {x : Option V} {vs : List Nat} (h : i ∈ vs) : wipe (σ.set i x) vs = wipe σ vs := by
  refine List.ext_getElem? fun j => ?_
  rw [wipe_get, wipe_get, List.length_set]
  by_cases hj : j ∈ vs
  · rw [if_pos hj, if_pos hj]
  · rw [if_neg hj, if_neg hj, List.getElem?_set_ne]
    intro e
    subst e
    exact hj h
theorem wipe_wipe {σ : L2.St} {vs : List Nat} : wipe (wipe σ vs) vs = wipe σ vs := by
  refine List.ext_getElem? fun j => ?_
  rw [wipe_get, wipe_get, wipe_length]
  by_cases hj : j ∈ vs
  · simp only [if_pos hj]
  · simp only [if_neg hj]
structure JG (X : Cx) (e : Expr) (is : List Nat) (tg : D → Ss → Option Ss) : Prop where
  pg : PG X e (tG X.K is tg)
structure JGs (X : Cx) (es : List Expr) (is : List Nat) (tg : List D → Ss → Option Ss) : Prop where
  pgs : PGs X es (tGs X.K is tg)
theorem pg_imp {e : Expr} {t t' : TG} (h : PG X e t) (f : ∀ v σ H Q, t' v σ H Q → t v σ H Q) : PG X e t' := ⟨fun pins s σ H v u Q I r q => h.run pins s σ H v u Q I r (f v σ H Q q)⟩
theorem pgs_imp {e : List Expr} {t t' : TGs} (h : PGs X e t) (f : ∀ v σ H Q, t' v σ H Q → t v σ H Q) : PGs X e t' := ⟨fun pins s σ H v u Q I r q => h.run pins s σ H v u Q I r (f v σ H Q q)⟩
def gN (i : Nat) : D → Ss → Option Ss := fun d S => some (S.set i (.fz d))
theorem jg_name {i : Nat} {x : Str} (h : PG X (.Name x pos) (gName i)) : JG X (.Name x pos) [i] (gN i) := ⟨pg_imp h fun v σ H Q ⟨C, F, S, d, S', b, r, e, q⟩ => by
  cases e
  exact q _ (b.set (sl := .fz d) i r) fun vs hv => wipe_set (hv i List.mem_cons_self)⟩
def gsNil : List D → Ss → Option Ss := fun ds S => match ds with
  | [] => some S
  | _ => none
def gsCons (t : D → Ss → Option Ss) (u : List D → Ss → Option Ss) : List D → Ss → Option Ss := fun ds S => match ds with
  | d :: ds => (t d S).bind (u ds)
  | [] => none
def gT (t : List D → Ss → Option Ss) : D → Ss → Option Ss := fun d S => match d with
  | .tup ds => t ds S
  | _ => none
theorem jgs_nil : JGs X [] [] gsNil := ⟨pgs_imp pgs_nil fun v σ H Q ⟨C, F, S, ds, S', b, r, e, q⟩ => by
  cases ds with
  | nil =>
    cases r
    cases e
    exact ⟨rfl, q _ b fun _ _ => rfl⟩
  | cons d ds => cases e⟩
theorem jgs_cons {e : Expr} {es : List Expr} {is js : List Nat} {t : D → Ss → Option Ss} {u : List D → Ss → Option Ss} (h1 : JG X e is t) (h2 : JGs X es js u)
    (hs : (assignEach (e :: es) X.env).map (·.2) = assign e X.env :: (assignEach es X.env).map (·.2) := by rfl) : JGs X (e :: es) (is ++ js) (gsCons t u) := ⟨pgs_imp (pgs_cons h1.pg h2.pgs hs) fun v σ H Q ⟨C, F, S, ds, S', b, r, e, q⟩ => by
  cases ds with
  | nil => cases e
  | cons d ds =>
    cases r with
    | cons r1 r2 =>
      unfold gsCons at e
      simp only at e
      cases h : t d S with
      | none =>
        rw [h] at e
        cases e
      | some S1 =>
        rw [h] at e
        exact ⟨_, _, rfl, C, F, S, d, S1, b, r1, h, fun σ1 b1 w1 => ⟨C, F, S1, ds, S', b1, r2, e, fun σ2 b2 w2 => q σ2 b2 fun vs hv => (w2 vs fun i hi => hv i (List.mem_append_right _ hi)).trans (w1 vs fun i hi => hv i (List.mem_append_left _ hi))⟩⟩⟩
theorem gsLen {n : Nat} {u : List D → Ss → Option Ss} (h : ∀ ds S S', u ds S = some S' → ds.length = n) (t : D → Ss → Option Ss) : ∀ ds S S', gsCons t u ds S = some S' → ds.length = n + 1 := fun ds S S' e => by
  cases ds with
  | nil => cases e
  | cons d ds =>
    unfold gsCons at e
    simp only at e
    cases ht : t d S with
    | none =>
      rw [ht] at e
      cases e
    | some S1 =>
      rw [ht] at e
      exact congrArg Nat.succ (h ds S1 S' e)
theorem gsLen0 : ∀ ds S S', gsNil ds S = some S' → ds.length = 0 := fun ds S S' e => by
  cases ds with
  | nil => rfl
  | cons d ds => cases e
theorem jg_tup {es : List Expr} {k : Nat} {is : List Nat} {t : List D → Ss → Option Ss} {n : Nat} (hc : X.calm = true) (h : JGs X es is t) (hl : ∀ ds S S', t ds S = some S' → ds.length = n)
    (hn : (assignEach es X.env).length = n := by rfl) (hst : (assignEach es X.env).findIdx? (·.1) = none := by rfl) : JG X (.Tuple es k pos) is (gT t) := ⟨pg_imp (pg_tup hc h.pgs hn hst) fun v σ H Q ⟨C, F, S, d, S', b, r, e, q⟩ => by
  cases r with
  | tup hs hl' => exact ⟨_, _, rfl, gr_t b.cp.sub hs, hl'.len.trans (hl _ _ _ e), C, F, S, _, S', b, hl', e, q⟩
  | _ => cases e⟩
/-- x = e -/
def asS (i : Nat) (m : ME) : MS := fun S => ofOut S (m S) fun r => .nx (S.set i (slR r))
theorem js_set {i : Nat} {x : Str} {e : Expr} {m : ME} {pos' : Pos} (hN : X.N.Nodup) (hi : X.N[i]? = some x) (hx : Loc X.env.scope x) (h : JE X W e m) (hs : swapsWith e (some (.Name x pos')) pos.line X.env = pure false := by rfl) (hf : X.fn x = true ∨ X.env.scope.names.lookup x = some .local := by first | exact .inl rfl | exact .inr rfl | assumption) :
    JS X W (.Assign [.Name x pos'] e pos) (asS i m) := ⟨fun C => ps_imp (ps_set hN hi hx h.pe hs hf) fun D σ H ⟨F, S, b, q⟩ =>
  ⟨F, S, b.cp, Fin.imp (FinS.out b q) fun r F1 H1 t z v rp => z F1 _ H1 (b.setR t i rp) (.refl _)⟩⟩
/-- a, b = e -/
def agS (tg : D → Ss → Option Ss) (m : MV) : MS := fun S => ofOut S (m S) fun d => match tg d S with
  | some S1 => .nx S1
  | none => .no
theorem js_asg {tg e : Expr} {is : List Nat} {m : MV} {g : D → Ss → Option Ss} (h : JZ X W e m) (hg : JG X tg is g) (hs : swapsWithSole [tg] e pos.line X.env = pure false := by rfl) (hw : swappedStores [tg] e X.env = pure none := by rfl) (h1 : (assignEach [tg] X.env).map (·.2) = [assign tg X.env] := by rfl) : JS X W (.Assign [tg] e pos) (agS g m) := ⟨fun C => ps_imp (ps_asg h.pe hg.pg hs hw h1) fun D σ H ⟨F, S, b, q⟩ =>
  ⟨F, S, b.cp, Fin.imp (FinS.out b q) fun d F1 H1 t z v rp => by
    cases hg1 : g d S with
    | none =>
      rw [hg1] at z
      exact z.elim
    | some S1 =>
      rw [hg1] at z
      exact ⟨C, F1, S, d, S1, b.step t, rp, hg1, fun σ' b' _ => z F1 σ' H1 b' (.refl _)⟩⟩⟩
/-- return e; return x, x held; return -/
def reS (m : ME) : MS := fun S => ofOut S (m S) fun r => .ret r
theorem js_ret {e : Expr} {m : ME} (h : JE X W e m) : JS X W (.Return (some e) pos) (reS m) := ⟨fun C => ps_imp (ps_ret h.pe) fun D σ H ⟨F, S, b, q⟩ =>
  ⟨F, S, b.cp, Fin.imp (FinS.out b q) fun r F1 H1 t z v rp => z v F1 H1 (b.st.trans t) (rp.imp id fun ⟨h1, a, h2, h3, h4, h5⟩ => ⟨h1, a, h2, h3, b.st.gh.free h4, h5⟩)⟩⟩
def rvS (i : Nat) : MS := fun S => match S[i]? with
  | some (.fz d) => .ret ⟨false, d⟩
  | some (.own d) => .ret ⟨true, d⟩
  | _ => .no
theorem js_retv {i : Nat} {x : Str} {p : Pos} (h : PE X (.Name x p) (tVar i)) : JS X W (.Return (some (.Name x p)) pos) (rvS i) := ⟨fun C => ps_imp (ps_ret h) fun D σ H ⟨F, S, b, q⟩ => by
  unfold rvS at q
  cases hs : S[i]? with
  | none =>
    rw [hs] at q
    exact q.elim
  | some sl =>
    rw [hs] at q
    cases sl with
    | no => exact q.elim
    | fz d =>
      obtain ⟨v, h1, h2⟩ := b.cp.fz i d hs
      exact ⟨v, h1, q v F H b.st (.inl ⟨rfl, h2⟩)⟩
    | own d =>
      obtain ⟨a, h1, h2, h3⟩ := b.cp.own i d hs
      exact ⟨.ref a, h1, q _ F H b.st (.inr ⟨rfl, a, rfl, h2, b.fr i d a hs h1, h3⟩)⟩⟩
def rnS : MS := fun _ => .ret ⟨false, .non⟩
theorem js_retn : JS X W (.Return none pos) rnS := ⟨fun C => ps_imp ps_retN fun D σ H ⟨F, S, b, q⟩ => q _ F H b.st (.inl ⟨rfl, .non⟩)⟩
def ifS (t : MT) (a b : MS) : MS := fun S => ofOut S (t S) fun k => if k then a S else b S
theorem js_if {c : Expr} {a b : List Stmt} {t : MT} {ma mb : MS} (hc : JT X W c t) (ha : JSs X W a ma) (hb : JSs X W b mb) : JS X W (.If c a b pos) (ifS t ma mb) := ⟨fun C => ps_imp (ps_if hc.pt (ha.pss C) (hb.pss C)) fun D σ H ⟨F, S, b, q⟩ =>
  ⟨F, S, b.cp, Fin.imp (FinS.out b q) fun k F1 H1 t z => by
    cases k with
    | true => exact ⟨F1, S, b.step t, z⟩
    | false => exact ⟨F1, S, b.step t, z⟩⟩⟩
/-! while -/
def whL (ks : List Nat) (t : MT) (body : MS) : Nat → MS
  | 0 => noS
  | n + 1 => fun S => ofOut S (t S) fun k => if k then (match body S with
      | .nx S1 => whL ks t body n (wipeS S1 ks)
      | .ct S1 => whL ks t body n (wipeS S1 ks)
      | .bk S1 => .nx (wipeS S1 ks)
      | o => o) else .nx S
def whS (n : Nat) (ks : List Nat) (t : MT) (body : MS) : MS := fun S => whL ks t body n (wipeS S ks)
theorem js_while (n : Nat) (ks : List Nat) {c : Expr} {body : List Stmt} {t : MT} {m : MS} (hp : PassesOwn (model X.prog X.w) X.A X.env X.xe) (hc : JT X W c t) (hb : JSs X W body m) : JS X W (.While c body [] pos) (whS n ks t m) := ⟨fun C => ps_imp (ps_while hp hc.pt (hb.pss C)) fun D σ H ⟨F, S, b, q⟩ => by
  refine ⟨fun k σ H => ∃ F S, Bs X.K C F S σ H ∧ FinS X.K W C D F (whL ks t m k S), ⟨n, F, _, b.wipe ks, q⟩, ?_⟩
  rintro k σ H ⟨F, S, b, q⟩
  cases k with
  | zero => exact q.elim
  | succ k =>
    unfold whL at q
    refine ⟨F, S, b.cp, Fin.imp (FinS.out b q) fun y F1 H1 t1 z => ?_⟩
    have b1 := b.step t1
    cases y with
    | false => exact z F1 σ H1 b1 (.refl _)
    | true =>
      refine ⟨fun σ' H' => ∃ F S, Bs X.K C F S σ' H' ∧ FinS X.K W C D F (whL ks t m k S), fun σ' H' w => ⟨k, Nat.lt_succ_self k, w⟩, ?_⟩
      simp only [if_true] at z ⊢
      refine ⟨F1, S, b1, ?_⟩
      cases hm : m S with
      | no =>
        rw [hm] at z
        exact z
      | nx S1 =>
        rw [hm] at z
        exact fun F' σ' H' b' g => ⟨F', _, b'.wipe ks, FinS.mono g z⟩
      | ct S1 =>
        rw [hm] at z
        exact fun F' σ' H' b' g => ⟨F', _, b'.wipe ks, FinS.mono g z⟩
      | bk S1 =>
        rw [hm] at z
        exact fun F' σ' H' b' g => z F' σ' H' (b'.wipe ks) g
      | ret r =>
        rw [hm] at z
        exact z
      | exc r c fs =>
        rw [hm] at z
        exact z⟩
/-! for -/
/-- what is walked gives these -/
def ItOk (K : PySem.W.Frag) (F1 : Hp) (J : It) (ds : List D) : Prop := ∀ F H, Gr F1 F → Gr F H → (∀ (i : Nat) (d : D), ds[i]? = some d → J.go i H ∧ ∀ x H', J.yld i H x H' → ∃ F', Step F H F' H' ∧ Rep K F' x d) ∧ ∀ i, ds.length ≤ i → J.stop i H
structure JI (X : Cx) (W : WX) (tg iter : Expr) (m : MA) : Prop where
  ex : ∃ wi, PI X tg iter wi ∧ ∀ F S σ H R, Cp X.K F S σ H → Fin X.K W F H σ (m S) (fun ds F1 H1 => ∀ J, ItOk X.K F1 J ds → R J H1) → wi σ H R
def foL (ks : List Nat) (tg : D → Ss → Option Ss) (body : MS) : List D → MS
  | [] => fun S => .nx S
  | d :: ds => fun S => match tg d S with
    | none => .no
    | some S1 => match body S1 with
      | .nx S2 => foL ks tg body ds (wipeS S2 ks)
      | .ct S2 => foL ks tg body ds (wipeS S2 ks)
      | .bk S2 => .nx (wipeS S2 ks)
      | o => o
def foS (ks : List Nat) (tg : D → Ss → Option Ss) (it : MA) (body : MS) : MS := fun S => ofOut S (it S) fun ds => foL ks tg body ds (wipeS S ks)
theorem js_for (ks : List Nat) {is : List Nat} {tg iter : Expr} {body : List Stmt} {mi : MA} {g : D → Ss → Option Ss} {m : MS} (hp : PassesOwn (model X.prog X.w) X.A X.env X.xe) (hc : X.calm = true) (hi : JI X W tg iter mi) (hg : JG X tg is g) (hb : JSs X W body m)
    (hs : ∀ x, foldedSetIterable iter X.env x = pure x := by intro _; rfl) : JS X W (.For tg iter body [] pos) (foS ks g mi m) := ⟨fun C => by
  obtain ⟨wi, h1, h2⟩ := hi.ex
  refine ps_imp (ps_for hp hc h1 hg.pg (hb.pss C) hs) fun D σ H ⟨F, S, b, q⟩ => ?_
  refine h2 F S σ H _ b.cp (Fin.imp (FinS.out b q) fun ds F1 H1 t1 z J ok => ?_)
  have b1 := b.step t1
  refine ⟨fun i k σ H => k = ds.length - i ∧ i ≤ ds.length ∧ ∃ F S, Gr F1 F ∧ Bs X.K C F S σ H ∧ FinS X.K W C D F (foL ks g m (ds.drop i) S), ⟨ds.length, by simp, Nat.zero_le _, F1, _, .refl _, b1.wipe ks, by simpa using z⟩, ?_⟩
  rintro i k σ H ⟨rfl, hi, F, S, g1, b, q⟩
  obtain ⟨ok1, ok2⟩ := ok F H g1 b.cp.sub
  by_cases hlt : i < ds.length
  · have hd : ds[i]? = some ds[i] := List.getElem?_eq_getElem hlt
    obtain ⟨go, yl⟩ := ok1 i _ hd
    refine .inr ⟨go, fun σ' H' => ∃ F S, Gr F1 F ∧ Bs X.K C F S σ' H' ∧ FinS X.K W C D F (foL ks g m (ds.drop (i + 1)) S), fun σ' H' w => ⟨ds.length - (i + 1), by omega, rfl, hlt, w⟩, fun x H' y => ?_⟩
    obtain ⟨F2, t2, rp⟩ := yl x H' y
    rw [List.drop_eq_getElem_cons hlt] at q
    unfold foL at q
    cases hg1 : g ds[i] S with
    | none =>
      rw [hg1] at q
      exact q.elim
    | some S1 =>
      rw [hg1] at q
      refine ⟨C, F2, S, ds[i], S1, b.step t2, rp, hg1, fun σ3 b3 _ => ⟨F2, S1, b3, ?_⟩⟩
      have q2 := FinS.mono t2.gf q
      simp only at q2
      cases hm : m S1 with
      | no =>
        rw [hm] at q2
        exact q2
      | nx S2 =>
        rw [hm] at q2
        exact fun F' σ' H' b' gg => ⟨F', _, g1.trans (t2.gf.trans gg), b'.wipe ks, FinS.mono gg q2⟩
      | ct S2 =>
        rw [hm] at q2
        exact fun F' σ' H' b' gg => ⟨F', _, g1.trans (t2.gf.trans gg), b'.wipe ks, FinS.mono gg q2⟩
      | bk S2 =>
        rw [hm] at q2
        exact fun F' σ' H' b' gg => q2 F' σ' H' (b'.wipe ks) gg
      | ret r =>
        rw [hm] at q2
        exact q2
      | exc r c fs =>
        rw [hm] at q2
        exact q2
  · have e : i = ds.length := by omega
    subst e
    refine .inl ⟨ok2 _ (Nat.le_refl _), ?_⟩
    rw [List.drop_length] at q
    exact q F σ H b (.refl _)⟩
end
end VM

namespace VM
open PySem PySem.Spec PyProof.Rows L2

/-! ### defs -/
def finO (o : SOut) : Out R := match o with
  | .nx _ => .ok ⟨false, .non⟩
  | .ret r => .ok r
  | .exc _ c fs => .exc c fs
  | _ => .no
/-- the slots at a def's entry: n names in all -/
def inS (n : Nat) (ds : List D) : Ss := ds.map Sl.fz ++ List.replicate (n - ds.length) Sl.no
/-- what a def of n parameters promises -/
def spD (K : PySem.W.Frag) (n : Nat) (g : List D → Out R) : Sp := fun vs H Q E => ∃ F ds, Gr F H ∧ RepL K F vs ds ∧ ds.length = n ∧ match g ds with
  | .no => False
  | .ok r => ∀ v F' H', Step F H F' H' → RepR K F' H' H v r → Q v H'
  | .exc c fs => ∀ F' H' d, Step F H F' H' → IsExc K F' H' fs d → E (.ref (He.ga K c)) d H'
theorem RepL.slots {K : PySem.W.Frag} {F : Hp} : ∀ {vs : List V} {ds : List D}, RepL K F vs ds → ∀ (i : Nat) (d : D), (ds.map Sl.fz)[i]? = some (.fz d) → ∃ v, (vs.map some)[i]? = some (some v) ∧ Rep K F v d := fun {vs ds} r i d e => by
  rw [List.getElem?_map] at e
  cases h : ds[i]? with
  | none =>
    rw [h] at e
    cases e
  | some d' =>
    rw [h] at e
    cases e
    obtain ⟨v, h1, h2⟩ := r.get h
    exact ⟨v, by rw [List.getElem?_map, h1] <;> rfl, h2⟩
theorem cp_start {K : PySem.W.Frag} {F H : Hp} {N : List Str} {vs : List V} {ds : List D} (g : Gr F H) (r : RepL K F vs ds) : Bs K ⟨F, H⟩ F (inS N.length ds) (L2.start N vs) H := by
  have hl := r.len
  have no : ∀ (i : Nat) (d : D), (inS N.length ds)[i]? ≠ some (.own d) := fun i d e => by
    unfold inS at e
    by_cases hi : i < (ds.map Sl.fz).length
    · rw [List.getElem?_append_left hi, List.getElem?_map] at e
      cases h : ds[i]? with
      | none =>
        rw [h] at e
        cases e
      | some d' =>
        rw [h] at e
        cases e
    · rw [List.getElem?_append_right (Nat.le_of_not_lt hi), List.getElem?_replicate] at e
      split at e <;> cases e
  refine ⟨⟨g, ?_, fun i d e => ?_, fun i d e => absurd e (no i d), fun i j di dj a _ e => absurd e (no i di)⟩, .refl g, fun i d a e => absurd e (no i d)⟩
  · unfold inS L2.start
    rw [List.length_append, List.length_append, List.length_map, List.length_map, List.length_replicate, List.length_replicate, hl]
  · unfold inS at e
    by_cases hi : i < (ds.map Sl.fz).length
    · rw [List.getElem?_append_left hi] at e
      obtain ⟨v, h1, h2⟩ := r.slots i d e
      refine ⟨v, ?_, h2⟩
      unfold L2.start
      rw [List.getElem?_append_left (by rw [List.length_map] at hi ⊢; omega)]
      exact h1
    · rw [List.getElem?_append_right (Nat.le_of_not_lt hi), List.getElem?_replicate] at e
      split at e <;> cases e
section
variable {P : Program} {w : World} {K : PySem.W.Frag} {mg : Str → Option Value} {base : Heap}
/-- a def of the text, by its body's judgement -/
theorem fn_ok {x qual : Str} {params : Arguments} {body : List Stmt} {scope : Scope} {dvs : List V} {kws : List (Str × V)} {f : Addr} {fd : FuncData} {N ps : List Str} {k n : Nat} {m : MS} {g : List D → Out R}
    (F : FunD K x qual params body scope dvs kws f fd) (S : FnScope N ps scope) (hn : ps.length = n) (hg : ∀ ds, ds.length = n → finO (m (inS N.length ds)) = g ds)
    (hb : ∀ (cdv : Value) (A : Around) (outer : List Env) (s : Shared) (H : Hp) (E : XK), Room k (A.deeper (envOfC qual scope s.heap.objs.size f cdv)) →
      JSs (cxOf (L2.CX P w) P w K mg base N qual scope f cdv A outer s H E) (fun cls d _ H' => E cls d H') body m) :
    FnOk P w K mg base (L2.CX P w) (k + 1) f fd ps (spD K n g) := by
  refine F.ok S (fun vs H Q E ⟨F, ds, _, r, hl, _⟩ => by rw [r.len, hl, hn]) fun cdv A outer s H vs Q E hr ⟨F1, ds, g1, r, hl, h⟩ => ?_
  refine ⟨_, (hb cdv A outer s H E hr).pss ⟨F1, H⟩, F1, _, cp_start g1 r, ?_⟩
  have e := hg ds hl
  rw [← e] at h
  cases hm : m (inS N.length ds) with
  | no =>
    rw [hm] at h
    exact h
  | nx S' =>
    rw [hm] at h
    exact fun F' σ' H' b gg => h .non F' H' b.st (.inl ⟨rfl, .non⟩)
  | ret r' =>
    rw [hm] at h
    exact h
  | bk S' =>
    rw [hm] at h
    exact h.elim
  | ct S' =>
    rw [hm] at h
    exact h.elim
  | exc S' c fs =>
    rw [hm] at h
    exact fun F' σ' H' d b ie => h F' H' d b.st ie
end
/-! ### calls -/
section
variable {X : Cx} {W : WX} {pos : Pos}
theorem RepL.appV {K : PySem.W.Frag} {F : Hp} {vs ws : List V} {ds es : List D} (h : RepL K F vs ds) (h2 : ∀ F, RepL K F ws es) : RepL K F (vs ++ ws) (ds ++ es) := h.app (h2 F)
theorem call_imp {K : PySem.W.Frag} {W : WX} {n : Nat} {g : List D → Out R} {ma : MA} {dvs : List V} {dds : List D} (hd : ∀ F, RepL K F dvs dds) (hn : ∀ ds, (∃ S, ma S = .ok ds) → (ds ++ dds).length = n) (σ : L2.St) (H : Hp) (Q : VK)
    (h : tI K W (mN (fun ds => g (ds ++ dds)) ma) σ H Q) : tCallSD (spD K n g) dvs (WE W) (tA K W ma) σ H Q := by
  obtain ⟨F, S, c, q⟩ := h
  refine ⟨F, S, c, ?_⟩
  have q2 := Fin.bind q
  cases hm : ma S with
  | no =>
    rw [hm] at q2
    exact q2
  | exc x fs =>
    rw [hm] at q2
    exact q2
  | ok ds =>
    rw [hm] at q2
    intro F1 H1 t1 vs rp
    have z := q2 F1 H1 t1
    refine ⟨F1, ds ++ dds, t1.sub, rp.app (hd F1), hn ds ⟨S, hm⟩, ?_⟩
    cases hg : g (ds ++ dds) with
    | no =>
      have z : Fin K W F1 H1 σ (g (ds ++ dds)) _ := z
      rw [hg] at z
      exact z
    | exc c fs =>
      have z : Fin K W F1 H1 σ (g (ds ++ dds)) _ := z
      rw [hg] at z
      exact fun F' H' d st ie => z F' H' d st ie
    | ok r =>
      have z : Fin K W F1 H1 σ (g (ds ++ dds)) _ := z
      rw [hg] at z
      exact fun v F' H' st rr => z F' H' st v (rr.imp id fun ⟨h1, a, h2, h3, h4, h5⟩ => ⟨h1, a, h2, h3, t1.gh.free h4, h5⟩)
/-- the number of arguments -/
inductive ALen : MA → Nat → Prop
  | nil : ALen aNil 0
  | cons {m : MV} {ms : MA} {n : Nat} : ALen ms n → ALen (aCons m ms) (n + 1)
theorem ALen.len {ma : MA} {n : Nat} (h : ALen ma n) : ∀ S ds, ma S = .ok ds → ds.length = n := by
  induction h with
  | nil =>
    intro S ds e
    cases e
    rfl
  | cons h ih =>
    rename_i m ms n
    intro S ds e
    unfold aCons at e
    cases h1 : m S with
    | no =>
      rw [h1] at e
      cases e
    | exc c fs =>
      rw [h1] at e
      cases e
    | ok d =>
      rw [h1] at e
      cases h2 : ms S with
      | no =>
        rw [h2] at e
        cases e
      | exc c fs =>
        rw [h2] at e
        cases e
      | ok ds' =>
        rw [h2] at e
        cases e
        exact congrArg Nat.succ (ih S ds' h2)
theorem je_call {k n j : Nat} {f : Addr} {fd : FuncData} {ps : List Str} {g : List D → Out R} {x : Str} {p : Pos} {e : Expr} {es : List Expr} {ma : MA} {ds : List Value} {dvs : List V} {dds : List D}
    (F : FnOk X.prog X.w X.K X.mg X.base (L2.CX X.prog X.w) k f fd ps (spD X.K n g)) (hr : Room k X.A) (hg : Gl X x) (hm : X.mg x = some (.ref f)) (hk : PySem.W.keepIn X.K (.ref f) = true) (hb : Binds X.K fd ps ds) (hd : Vals dvs ds) (tk : Takes X W)
    (hdd : ∀ F, RepL X.K F dvs dds) (ha : JA X W (e :: es) ma) (hl : ALen ma j) (hn : j + dds.length = n) (hdb : (x == ("__debug__" : Str)) = false := by decide) (he : starEach (e :: es) X.env = (false, eval e X.env) :: starEach es X.env := by rfl) (hpl : (backTo pos (starEach es X.env)).any (·.1) = false := by rfl) :
    JE X W (.Call (.Name x p) (e :: es) [] pos) (mN (fun ds => g (ds ++ dds)) ma) :=
  ⟨pe_imp (pe_callSD F hr hg hm hk hb hd (fun σ => passAt tk σ) ha.pa hdb he hpl) (call_imp hdd fun ds ⟨S, e⟩ => by rw [List.length_append, hl.len S ds e, hn])⟩
/-- f(e, ..), every parameter written -/
theorem je_calln {k n : Nat} {f : Addr} {fd : FuncData} {ps : List Str} {g : List D → Out R} {x : Str} {p : Pos} {e : Expr} {es : List Expr} {ma : MA}
    (F : FnOk X.prog X.w X.K X.mg X.base (L2.CX X.prog X.w) k f fd ps (spD X.K n g)) (hr : Room k X.A) (hg : Gl X x) (hm : X.mg x = some (.ref f)) (hk : PySem.W.keepIn X.K (.ref f) = true) (hb : Binds X.K fd ps []) (tk : Takes X W)
    (ha : JA X W (e :: es) ma) (hl : ALen ma n) (hdb : (x == ("__debug__" : Str)) = false := by decide) (he : starEach (e :: es) X.env = (false, eval e X.env) :: starEach es X.env := by rfl) (hpl : (backTo pos (starEach es X.env)).any (·.1) = false := by rfl) :
    JE X W (.Call (.Name x p) (e :: es) [] pos) (mN g ma) := by
  have h := je_call (p := p) (pos := pos) (dds := []) F hr hg hm hk hb .nil tk (fun F => .nil) ha hl rfl hdb he hpl
  have e2 : (fun ds : List D => g (ds ++ [])) = g := funext fun ds => by rw [List.append_nil]
  rw [e2] at h
  exact h
theorem pe_call0SD {k : Nat} {f : Addr} {fd : FuncData} {ps : List Str} {sp : Sp} {E : L2.St → XK} {x : Str} {p : Pos} (F : FnOk X.prog X.w X.K X.mg X.base (L2.CX X.prog X.w) k f fd ps sp) (hr : Room k X.A) (hg : Gl X x) (hm : X.mg x = some (.ref f)) (hk : PySem.W.keepIn X.K (.ref f) = true) (hb : Binds X.K fd ps []) (hx : ∀ σ, PassesAt (L2.CX X.prog X.w) X σ (E σ))
    (hdb : (x == ("__debug__" : Str)) = false := by decide) : PE X (.Call (.Name x p) [] [] pos) (tCallSD sp [] E tNil) := by
  refine ⟨fun pins s σ H Q I h => ?_⟩
  refine wpAny_Call_Name_kw (ld_glob I hg hm ?_ hdb)
  exact PySem.W.callWith_K0 I.kIn hk (run_fnSD (us := []) F hr hb .nil (hx σ) I .nil h)
def mK (g : Out R) : ME := fun _ => g
theorem je_call0 {k : Nat} {f : Addr} {fd : FuncData} {g : List D → Out R} {x : Str} {p : Pos}
    (F : FnOk X.prog X.w X.K X.mg X.base (L2.CX X.prog X.w) k f fd [] (spD X.K 0 g)) (hr : Room k X.A) (hg : Gl X x) (hm : X.mg x = some (.ref f)) (hk : PySem.W.keepIn X.K (.ref f) = true) (hb : Binds X.K fd [] []) (tk : Takes X W)
    (hdb : (x == ("__debug__" : Str)) = false := by decide) : JE X W (.Call (.Name x p) [] [] pos) (mK (g [])) := ⟨pe_imp (pe_call0SD F hr hg hm hk hb (fun σ => passAt tk σ) hdb) fun σ H Q ⟨F, S, c, q⟩ => by
  refine ⟨F, [], c.sub, .nil, rfl, ?_⟩
  unfold mK at q
  cases hg : g [] with
  | no =>
    rw [hg] at q
    exact q
  | exc c fs =>
    rw [hg] at q
    exact fun F' H' d st ie => q F' H' d st ie
  | ok r =>
    rw [hg] at q
    exact fun v F' H' st rr => q F' H' st v rr⟩

/-! ### tests -/
def tB' (m : MV) : MT := fun S => (m S).bind fun d => match d with
  | .bl b => .ok b
  | _ => .no
def tNotB (m : MT) : MT := fun S => (m S).bind fun b => .ok (!b)
def tAndB (m k : MT) : MT := fun S => (m S).bind fun b => if b then k S else .ok false
def tOrB (m k : MT) : MT := fun S => (m S).bind fun b => if b then .ok true else k S
theorem jt_val {e : Expr} {m : ME} (h : JE X W e m) (he : ∀ whole, isTrue e X.env whole = (do let v ← whole; standAt e.pos; holding [v] (truthy v)) := by intro _; rfl) : JT X W e (tB' (mZ m)) := ⟨pt_imp (pt_val h.z.pe he) fun σ H Q ⟨F, S, c, q⟩ => ⟨F, S, c, by
  refine Fin.imp (Fin.bind q) fun d F1 H1 t z v rp => ?_
  cases d with
  | bl b =>
    cases rp
    exact ⟨b, rfl, Fin.now t.sub z⟩
  | _ => exact z.elim⟩⟩
theorem jt_cmp {op : CmpOp} {a b : Expr} {g : D → D → Out R} {ma mb : MV} (ho : OpD X W (compareOp op) g) (ha : JV X W a ma) (hb : JV X W b mb) (hm : behindInMarks op b = false) : JT X W (.Compare a [op] [b] pos) (tB' (mZ (m2 g ma mb))) := by
  obtain ⟨r, h1, h2⟩ := ho.ex
  refine ⟨pt_imp (pt_cmpR h1 ha.pe hb.pe hm) fun σ H Q ⟨F, S, c, q⟩ => ?_⟩
  refine bin_imp h2 σ H _ ⟨F, S, c, ?_⟩
  have q2 := Fin.bind q
  unfold mZ at q2
  cases hm : m2 g ma mb S with
  | no =>
    rw [hm] at q2
    exact q2
  | exc x fs =>
    rw [hm] at q2
    exact q2
  | ok r =>
    rw [hm] at q2
    intro F1 H1 t v rp
    obtain ⟨F2, t2, g2, rp2⟩ := rp.fz t
    have z := q2 F2 H1 t2
    cases hd : r.d with
    | bl b =>
      rw [hd] at z rp2
      cases rp2
      exact ⟨b, rfl, Fin.now t2.sub z⟩
    | _ =>
      rw [hd] at z
      exact z.elim
theorem jt_not {a : Expr} {m : MT} (h : JT X W a m) : JT X W (.UnaryOp .Not a pos) (tNotB m) := ⟨pt_imp (pt_not h.pt) fun σ H Q ⟨F, S, c, q⟩ => ⟨F, S, c, Fin.imp (Fin.bind q) fun b F1 H1 t z => Fin.now t.sub z⟩⟩
/-- chains of and, or -/
structure JWt (X : Cx) (W : WX) (e : Expr) (m : MT) : Prop where
  pw : PW X e (tT X.K W m)
theorem pw_imp {e : Expr} {t t' : TT} (h : PW X e t) (f : ∀ σ H Q, t' σ H Q → t σ H Q) : PW X e t' := ⟨fun whole pins s σ H Q I q => h.run whole pins s σ H Q I (f σ H Q q)⟩
theorem jw_and1 {a : Expr} {m : MT} (h : JT X W a m) : JWt X W (.BoolOp .And [a] pos) m := ⟨pw_and1 h.pt⟩
theorem jw_or1 {a : Expr} {m : MT} (h : JT X W a m) : JWt X W (.BoolOp .Or [a] pos) m := ⟨pw_or1 h.pt⟩
theorem jw_and {a b : Expr} {rest : List Expr} {m k : MT} (h : JT X W a m) (t : JWt X W (.BoolOp .And (b :: rest) pos) k) : JWt X W (.BoolOp .And (a :: b :: rest) pos) (tAndB m k) := ⟨pw_imp (pw_and h.pt t.pw) fun σ H Q ⟨F, S, c, q⟩ => ⟨F, S, c, Fin.imp (Fin.bind q) fun b F1 H1 t z => by
  cases b with
  | true => exact ⟨F1, S, c.step t, z⟩
  | false => exact Fin.now t.sub z⟩⟩
theorem jw_or {a b : Expr} {rest : List Expr} {m k : MT} (h : JT X W a m) (t : JWt X W (.BoolOp .Or (b :: rest) pos) k) : JWt X W (.BoolOp .Or (a :: b :: rest) pos) (tOrB m k) := ⟨pw_imp (pw_or h.pt t.pw) fun σ H Q ⟨F, S, c, q⟩ => ⟨F, S, c, Fin.imp (Fin.bind q) fun b F1 H1 t z => by
  cases b with
  | false => exact ⟨F1, S, c.step t, z⟩
  | true => exact Fin.now t.sub z⟩⟩
theorem JWt.t {e : Expr} {m : MT} (h : JWt X W e m) : JT X W e m := ⟨h.pw.pt⟩
/-! and, or, not as values -/
def mB (m : MT) : ME := fun S => (m S).bind fun b => .ok ⟨false, .bl b⟩
def mNotV (m : MV) : ME := fun S => (m S).bind fun d => match d with
  | .bl b => .ok ⟨false, .bl (!b)⟩
  | _ => .no
theorem je_notV {a : Expr} {m : MV} (h : JZ X W a m) : JE X W (.UnaryOp .Not a pos) (mNotV m) := ⟨pe_imp (pe_not h.pe) fun σ H Q ⟨F, S, c, q⟩ => ⟨F, S, c, by
  refine Fin.imp (Fin.bind q) fun d F1 H1 t z v rp => ?_
  cases d with
  | bl b =>
    cases rp
    exact ⟨b, rfl, Fin.now t.sub z _ (.inl ⟨rfl, .bl _⟩)⟩
  | _ => exact z.elim⟩⟩
/-- a if t else b -/
def mIf (t : MT) (a b : ME) : ME := fun S => (t S).bind fun k => if k then a S else b S
theorem je_if {c a b : Expr} {t : MT} {ma mb : ME} (hc : JT X W c t) (ha : JE X W a ma) (hb : JE X W b mb) : JE X W (.IfExp c a b pos) (mIf t ma mb) := ⟨pe_imp (pe_ifExp hc.pt ha.pe hb.pe) fun σ H Q ⟨F, S, c, q⟩ => ⟨F, S, c, Fin.imp (Fin.bind q) fun k F1 H1 t z => by
  cases k with
  | true => exact ⟨F1, S, c.step t, Fin.kE_mono t.gh z⟩
  | false => exact ⟨F1, S, c.step t, Fin.kE_mono t.gh z⟩⟩⟩
end
end VM

namespace VM
open PySem PySem.Spec PyProof.Rows L2

def fzO (d : D) : Out R := .ok ⟨false, d⟩
def owO (d : D) : Out R := .ok ⟨true, d⟩
theorem szl {n : Nat} (h : n ≤ 16000000) : n ≤ sizeLine := Nat.le_trans h (by decide)
theorem szl' {n : Nat} (h : n < 16000000) : n < sizeLine := Nat.lt_of_lt_of_le h (by decide)

section
variable {K : PySem.W.Frag} {W : WX} {F H : Hp} {S : Ss} {σ : L2.St} {Q : VK}
theorem fin_fz {d : D} {v : V} (c : Cp K F S σ H) (q : Fin K W F H σ (fzO d) (kE K H Q)) (r : Rep K F v d) : Q v H := Fin.now c.sub q v (.inl ⟨rfl, r⟩)
theorem fin_int {i : Int} (c : Cp K F S σ H) (q : Fin K W F H σ (fzO (.int i)) (kE K H Q)) : Q (.int i) H := fin_fz c q (.int i)
theorem fin_bl {i : Bool} (c : Cp K F S σ H) (q : Fin K W F H σ (fzO (.bl i)) (kE K H Q)) : Q (.bl i) H := fin_fz c q (.bl i)
theorem fin_str {x : List Nat} (c : Cp K F S σ H) (q : Fin K W F H σ (fzO (.str x)) (kE K H Q)) (h : strOk' x = true) : Q (.str (ms x)) H := fin_fz c q (.str x h)
/-- a new list | a new tuple -/
theorem fin_lst {ds : List D} {vs : List V} (c : Cp K F S σ H) (q : Fin K W F H σ (owO (.lst ds)) (kE K H Q)) (r : RepL K F vs ds) : ∀ p, H p = none → Q (.ref p) (upd H p (.lst vs)) := fun p hp =>
  q F _ (.newH c.sub hp) (.ref p) (.inr ⟨rfl, p, rfl, .lst upd_same r, hp, c.sub.free hp⟩)
theorem fin_tup {ds : List D} {vs : List V} (c : Cp K F S σ H) (q : Fin K W F H σ (fzO (.tup ds)) (kE K H Q)) (r : RepL K F vs ds) : ∀ p, H p = none → Q (.ref p) (upd H p (.tup vs)) := fun p hp =>
  q _ _ (.newF c.sub hp) (.ref p) (.inl ⟨rfl, .tup (.inl (.inl upd_same)) (r.mono (.new (c.sub.free hp)))⟩)
end

/-! ### arithmetic -/
def addD : D → D → Out R
  | .int i, .int j => fzO (.int (i + j))
  | .str x, .str y => if x.length + y.length ≤ 16000000 then fzO (.str (x ++ y)) else .no
  | .lst xs, .lst ys => if xs.length + ys.length ≤ 16000000 then owO (.lst (xs ++ ys)) else .no
  | .tup xs, .tup ys => if xs.length + ys.length ≤ 16000000 then fzO (.tup (xs ++ ys)) else .no
  | _, _ => .no
theorem ms_len (x : List Nat) : (ms x).length = x.length := by simp [ms, Str.length]
theorem ms_app (x y : List Nat) : ms x ++ ms y = ms (x ++ y) := by
  show Str.mk _ = Str.mk _
  simp [ms]
section
variable {X : Cx} {W : WX}
theorem op_addD : OpD X W (binaryOp .Add) addD := ⟨_, op_add.or (op_add_str.or (op_cat.or op_catA)), fun F S σ H x y dx dy Q c hx hy q => by
  unfold addD at q
  split at q
  · have e1 := hx.int c
    have e2 := hy.int c
    exact .inl ⟨_, _, e1, e2, fin_int c q⟩
  · obtain ⟨e1, k1⟩ := hx.str c
    obtain ⟨e2, k2⟩ := hy.str c
    split at q
    · rename_i x y hl
      refine .inr (.inl ⟨_, _, e1, e2, szl (by rw [ms_len, ms_len]; exact hl), ?_⟩)
      rw [ms_app]
      refine fin_str c q ?_
      unfold strOk' at *
      rw [List.all_append, k1, k2] <;> rfl
    · exact q.elim
  · obtain ⟨a, vs, rfl, h1, r1⟩ := hx.lst c
    obtain ⟨b, ws, rfl, h2, r2⟩ := hy.lst c
    split at q
    · rename_i hl
      exact .inr (.inr (.inl ⟨a, b, vs, ws, rfl, rfl, h1, h2, szl (by rw [r1.len, r2.len]; exact hl), fin_lst c q (r1.app r2)⟩))
    · exact q.elim
  · obtain ⟨a, vs, rfl, h1, h1', r1⟩ := hx.tup c
    obtain ⟨b, ws, rfl, h2, h2', r2⟩ := hy.tup c
    split at q
    · rename_i hl
      refine .inr (.inr (.inr ⟨a, b, vs, ws, rfl, rfl, h1', h2', szl (by rw [r1.len, r2.len]; exact hl), fun e => ?_, fun e1 e2 => ?_, fun _ _ => fin_tup c q (r1.app r2)⟩))
      · subst e
        cases r1
        exact fin_fz c q (.tup h2 r2)
      · subst e2
        cases r2
        rw [List.append_nil] at q
        exact fin_fz c q (.tup h1 r1)
    · exact q.elim
  · exact q.elim⟩
def subD : D → D → Out R
  | .int i, .int j => fzO (.int (i - j))
  | _, _ => .no
theorem op_subD : OpD X W (binaryOp .Sub) subD := ⟨_, op_sub, fun F S σ H x y dx dy Q c hx hy q => by
  unfold subD at q
  split at q
  · exact ⟨_, _, hx.int c, hy.int c, fin_int c q⟩
  · exact q.elim⟩
def mulD : D → D → Out R
  | .int i, .int j => if i.natAbs.log2 + j.natAbs.log2 < 1000000 then fzO (.int (i * j)) else .no
  | .lst xs, .int k => if xs.length * k.toNat ≤ 16000000 ∧ -1000000000 ≤ k ∧ k ≤ 1000000000 then owO (.lst (List.replicate k.toNat xs).flatten) else .no
  | _, _ => .no
theorem op_mulD : OpD X W (binaryOp .Mult) mulD := ⟨_, op_mulW.or op_rep, fun F S σ H x y dx dy Q c hx hy q => by
  unfold mulD at q
  split at q
  · split at q
    · rename_i h
      exact .inl ⟨_, _, hx.int c, hy.int c, h, fin_int c q⟩
    · exact q.elim
  · split at q
    · rename_i h
      obtain ⟨a, vs, rfl, h1, r1⟩ := hx.lst c
      exact .inr ⟨a, _, vs, rfl, hy.int c, h1, by omega, by omega, szl (by rw [r1.len]; exact h.1), fin_lst c q (r1.rep _)⟩
    · exact q.elim
  · exact q.elim⟩
def divD : D → D → Out R
  | .int i, .int j => if 0 < j ∧ j.natAbs.log2 < 9000 then fzO (.int (i / j)) else .no
  | _, _ => .no
theorem op_divD : OpD X W (binaryOp .FloorDiv) divD := ⟨_, op_fdivW, fun F S σ H x y dx dy Q c hx hy q => by
  unfold divD at q
  split at q
  · split at q
    · rename_i h
      exact ⟨_, _, hx.int c, hy.int c, h, fin_int c q⟩
    · exact q.elim
  · exact q.elim⟩
def modD : D → D → Out R
  | .int i, .int j => if 0 < j then fzO (.int (i % j)) else if j ≠ 0 then fzO (.int (i.fmod j)) else .no
  | _, _ => .no
theorem op_modD : OpD X W (binaryOp .Mod) modD := ⟨_, op_mod.or op_modN, fun F S σ H x y dx dy Q c hx hy q => by
  unfold modD at q
  split at q
  · split at q
    · rename_i h
      exact .inl ⟨_, _, hx.int c, hy.int c, h, fin_int c q⟩
    · split at q
      · rename_i h
        exact .inr ⟨_, _, hx.int c, hy.int c, h, fin_int c q⟩
      · exact q.elim
  · exact q.elim⟩
def powD : D → D → Out R
  | .int i, .int j => if 0 ≤ j ∧ j ≤ 1000000 ∧ i.natAbs ≤ 1000000000 then fzO (.int (i ^ j.toNat)) else .no
  | _, _ => .no
theorem op_powD : OpD X W (binaryOp .Pow) powD := ⟨_, op_pow, fun F S σ H x y dx dy Q c hx hy q => by
  unfold powD at q
  split at q
  · split at q
    · rename_i h
      exact ⟨_, _, hx.int c, hy.int c, ⟨h.1, h.2.1, Nat.lt_of_le_of_lt h.2.2 (by decide)⟩, fin_int c q⟩
    · exact q.elim
  · exact q.elim⟩
def negD : D → Out R
  | .int i => fzO (.int (-i))
  | _ => .no
theorem un_negD : UnD X W (unaryOp .USub) negD := ⟨_, un_neg, fun F S σ H x dx Q c hx q => by
  unfold negD at q
  split at q
  · exact ⟨_, hx.int c, fin_int c q⟩
  · exact q.elim⟩

/-! ### comparisons -/
def ltD : D → D → Out R
  | .int i, .int j => fzO (.bl (decide (i < j)))
  | _, _ => .no
def leD : D → D → Out R
  | .int i, .int j => fzO (.bl (decide (i ≤ j)))
  | _, _ => .no
def gtD : D → D → Out R
  | .int i, .int j => fzO (.bl (decide (j < i)))
  | _, _ => .no
def geD : D → D → Out R
  | .int i, .int j => fzO (.bl (decide (j ≤ i)))
  | _, _ => .no
theorem op_ltD : OpD X W (compareOp .Lt) ltD := ⟨_, op_lt, fun F S σ H x y dx dy Q c hx hy q => by
  unfold ltD at q
  split at q
  · exact ⟨_, _, hx.int c, hy.int c, fin_bl c q⟩
  · exact q.elim⟩
theorem op_leD : OpD X W (compareOp .LtE) leD := ⟨_, op_le, fun F S σ H x y dx dy Q c hx hy q => by
  unfold leD at q
  split at q
  · exact ⟨_, _, hx.int c, hy.int c, fin_bl c q⟩
  · exact q.elim⟩
theorem op_gtD : OpD X W (compareOp .Gt) gtD := ⟨_, op_gt, fun F S σ H x y dx dy Q c hx hy q => by
  unfold gtD at q
  split at q
  · exact ⟨_, _, hx.int c, hy.int c, fin_bl c q⟩
  · exact q.elim⟩
theorem op_geD : OpD X W (compareOp .GtE) geD := ⟨_, op_ge, fun F S σ H x y dx dy Q c hx hy q => by
  unfold geD at q
  split at q
  · exact ⟨_, _, hx.int c, hy.int c, fin_bl c q⟩
  · exact q.elim⟩
def eqD (x y : D) : Out R := if x.cmpOk && y.cmpOk then fzO (.bl (D.eqv x y)) else .no
def neD (x y : D) : Out R := if x.cmpOk && y.cmpOk then fzO (.bl (!D.eqv x y)) else .no
theorem cmp_fl {d : D} (h : d.cmpOk = true) : d.flat = true := by
  unfold D.cmpOk at h
  rw [Bool.and_eq_true] at h
  exact h.1
theorem op_eqDD (hu : X.A.units + 65 < cLine) : OpD X W (compareOp .Eq) eqD := ⟨_, op_eqD (by omega), fun F S σ H x y dx dy Q c hx hy q => by
  unfold eqD at q
  split at q
  · rename_i h
    rw [Bool.and_eq_true] at h
    have r1 := hx.repH c
    have r2 := hy.repH c
    refine ⟨_, _, r1.dp (cmp_fl h.1), r2.dp (cmp_fl h.2), r1.shaped h.1, r2.shaped h.2, ?_⟩
    rw [D.py_eqv _ _ (cmp_fl h.1) (cmp_fl h.2)]
    exact fin_bl c q
  · exact q.elim⟩
theorem op_neDD (hu : X.A.units + 65 < cLine) : OpD X W (compareOp .NotEq) neD := ⟨_, op_neD (by omega), fun F S σ H x y dx dy Q c hx hy q => by
  unfold neD at q
  split at q
  · rename_i h
    rw [Bool.and_eq_true] at h
    have r1 := hx.repH c
    have r2 := hy.repH c
    refine ⟨_, _, r1.dp (cmp_fl h.1), r2.dp (cmp_fl h.2), r1.shaped h.1, r2.shaped h.2, ?_⟩
    rw [D.py_eqv _ _ (cmp_fl h.1) (cmp_fl h.2)]
    exact fin_bl c q
  · exact q.elim⟩
/-! in -/
def anyEq (x : D) (ds : List D) : Bool := ds.any fun z => D.eqv z x
theorem any_py (x : D) (hx : x.flat = true) : ∀ ds : List D, D.flatAll ds = true → ((D.pyAll ds).any fun z => PyData.eqv z x.py) = anyEq x ds
  | [], _ => by simp [D.pyAll, anyEq]
  | d :: ds, h => by
    rw [D.flatAll, Bool.and_eq_true] at h
    have ih := any_py x hx ds h.2
    unfold anyEq at ih ⊢
    rw [D.pyAll, List.any_cons, List.any_cons, ih, D.py_eqv d x h.1 hx]
def inD (neg : Bool) (x y : D) : Out R := match y with
  | .lst ds => if x.cmpOk && (D.lst ds).cmpOk then fzO (.bl (xor neg (anyEq x ds))) else .no
  | .tup ds => if x.cmpOk && (D.tup ds).cmpOk then fzO (.bl (xor neg (anyEq x ds))) else .no
  | .str z => match x with
    | .str [c] => fzO (.bl (xor neg (decide (c ∈ z))))
    | _ => .no
  | _ => .no
def rInDT (K : PySem.W.Frag) : R2 := fun x y H Q => ∃ d ds, Dp K H x d ∧ Dp K H y (.tuple ds) ∧ SeqAt.shaped d = true ∧ SeqAt.shaped (.tuple ds) = true ∧ Q (.bl (ds.any fun z => PyData.eqv z d)) H
def rNotInDT (K : PySem.W.Frag) : R2 := fun x y H Q => ∃ d ds, Dp K H x d ∧ Dp K H y (.tuple ds) ∧ SeqAt.shaped d = true ∧ SeqAt.shaped (.tuple ds) = true ∧ Q (.bl (!ds.any fun z => PyData.eqv z d)) H
theorem op_inDT (hu : X.A.units + 65 < cLine) : OpR X (compareOp .In) (rInDT X.K) := by
  intro pins s σ H x y v u Q I rx ry h
  obtain ⟨d, ds, hd, he, sd, se, q⟩ := h
  obtain ⟨as, r1⟩ := Dp.reads I d x v hd rx
  obtain ⟨bs, r2⟩ := Dp.reads I (.tuple ds) y u he ry
  exact SeqAt.in_tuple_reads r2 r1 (SeqAt.canLay_of_shaped se) (SeqAt.canLay_of_shaped sd) (room_in_shaped sd hu) ⟨.bl _, H, I, rfl, q⟩
theorem op_notInDT (hu : X.A.units + 65 < cLine) : OpR X (compareOp .NotIn) (rNotInDT X.K) := by
  intro pins s σ H x y v u Q I rx ry h
  obtain ⟨d, ds, hd, he, sd, se, q⟩ := h
  obtain ⟨as, r1⟩ := Dp.reads I d x v hd rx
  obtain ⟨bs, r2⟩ := Dp.reads I (.tuple ds) y u he ry
  exact SeqAt.notIn_tuple_reads r2 r1 (SeqAt.canLay_of_shaped se) (SeqAt.canLay_of_shaped sd) (room_in_shaped sd hu) ⟨.bl _, H, I, rfl, q⟩
theorem op_inDD (hu : X.A.units + 65 < cLine) : OpD X W (compareOp .In) (inD false) := ⟨_, (op_inD hu).or ((op_inDT hu).or op_in_sign), fun F S σ H x y dx dy Q c hx hy q => by
  unfold inD at q
  split at q
  · split at q
    · rename_i ds h
      rw [Bool.and_eq_true] at h
      have r1 := hx.repH c
      have r2 := hy.repH c
      refine .inl ⟨_, D.pyAll ds, r1.dp (cmp_fl h.1), ?_, r1.shaped h.1, ?_, ?_⟩
      · have z := r2.dp (cmp_fl h.2)
        rw [D.py] at z
        exact z
      · have z := r2.shaped h.2
        rw [D.py] at z
        exact z
      · rw [any_py _ (cmp_fl h.1) ds (by have z := cmp_fl h.2; rw [D.flat] at z; exact z)]
        have z := fin_bl c q
        rw [Bool.false_xor] at z
        exact z
    · exact q.elim
  · split at q
    · rename_i ds h
      rw [Bool.and_eq_true] at h
      have r1 := hx.repH c
      have r2 := hy.repH c
      refine .inr (.inl ⟨_, D.pyAll ds, r1.dp (cmp_fl h.1), ?_, r1.shaped h.1, ?_, ?_⟩)
      · have z := r2.dp (cmp_fl h.2)
        rw [D.py] at z
        exact z
      · have z := r2.shaped h.2
        rw [D.py] at z
        exact z
      · rw [any_py _ (cmp_fl h.1) ds (by have z := cmp_fl h.2; rw [D.flat] at z; exact z)]
        have z := fin_bl c q
        rw [Bool.false_xor] at z
        exact z
    · exact q.elim
  · split at q
    · rename_i z x0 ch
      refine .inr (.inr ⟨ch, ms z, ?_, (hy.str c).1, ?_⟩)
      · exact (hx.str c).1
      · have e := fin_bl c q
        rw [Bool.false_xor] at e
        have e2 : (ms z).cps.toList = z := by simp [ms]
        rw [e2]
        exact e
    · exact q.elim
  · exact q.elim⟩
theorem op_notInDD (hu : X.A.units + 65 < cLine) : OpD X W (compareOp .NotIn) (inD true) := ⟨_, (op_notInD hu).or ((op_notInDT hu).or op_notIn_sign), fun F S σ H x y dx dy Q c hx hy q => by
  unfold inD at q
  split at q
  · split at q
    · rename_i ds h
      rw [Bool.and_eq_true] at h
      have r1 := hx.repH c
      have r2 := hy.repH c
      refine .inl ⟨_, D.pyAll ds, r1.dp (cmp_fl h.1), ?_, r1.shaped h.1, ?_, ?_⟩
      · have z := r2.dp (cmp_fl h.2)
        rw [D.py] at z
        exact z
      · have z := r2.shaped h.2
        rw [D.py] at z
        exact z
      · rw [any_py _ (cmp_fl h.1) ds (by have z := cmp_fl h.2; rw [D.flat] at z; exact z)]
        have z := fin_bl c q
        rw [Bool.true_xor] at z
        exact z
    · exact q.elim
  · split at q
    · rename_i ds h
      rw [Bool.and_eq_true] at h
      have r1 := hx.repH c
      have r2 := hy.repH c
      refine .inr (.inl ⟨_, D.pyAll ds, r1.dp (cmp_fl h.1), ?_, r1.shaped h.1, ?_, ?_⟩)
      · have z := r2.dp (cmp_fl h.2)
        rw [D.py] at z
        exact z
      · have z := r2.shaped h.2
        rw [D.py] at z
        exact z
      · rw [any_py _ (cmp_fl h.1) ds (by have z := cmp_fl h.2; rw [D.flat] at z; exact z)]
        have z := fin_bl c q
        rw [Bool.true_xor] at z
        exact z
    · exact q.elim
  · split at q
    · rename_i z x0 ch
      refine .inr (.inr ⟨ch, ms z, ?_, (hy.str c).1, ?_⟩)
      · exact (hx.str c).1
      · have e := fin_bl c q
        rw [Bool.true_xor] at e
        have e2 : (ms z).cps.toList = z := by simp [ms]
        rw [e2]
        exact e
    · exact q.elim
  · exact q.elim⟩
/-! is -/
def isNon : D → Bool
  | .non => true
  | _ => false
theorem Rep.isNon {K : PySem.W.Frag} {F : Hp} {v : V} {d : D} (r : Rep K F v d) : decide (v = V.non) = isNon d := by
  cases r <;> simp [VM.isNon]
def isD (neg : Bool) (x y : D) : Out R := match y with
  | .non => fzO (.bl (xor neg (isNon x)))
  | .bl b => match x with
    | .bl a => fzO (.bl (xor neg (decide (a = b))))
    | _ => .no
  | _ => .no
theorem op_isDD : OpD X W (compareOp .Is) (isD false) := ⟨_, op_isN.or op_isBl, fun F S σ H x y dx dy Q c hx hy q => by
  unfold isD at q
  split at q
  · refine .inl ⟨hy.non c, ?_⟩
    rw [(hx.repH c).isNon]
    have z := fin_bl c q
    rw [Bool.false_xor] at z
    exact z
  · split at q
    · have z := fin_bl c q
      rw [Bool.false_xor] at z
      exact .inr ⟨_, _, hx.bl c, hy.bl c, z⟩
    · exact q.elim
  · exact q.elim⟩
theorem op_isNotDD : OpD X W (compareOp .IsNot) (isD true) := ⟨_, op_notN.or op_notBl, fun F S σ H x y dx dy Q c hx hy q => by
  unfold isD at q
  split at q
  · refine .inl ⟨hy.non c, ?_⟩
    rw [(hx.repH c).isNon]
    have z := fin_bl c q
    rw [Bool.true_xor] at z
    exact z
  · split at q
    · have z := fin_bl c q
      rw [Bool.true_xor] at z
      exact .inr ⟨_, _, hx.bl c, hy.bl c, z⟩
    · exact q.elim
  · exact q.elim⟩
end
end VM

namespace VM
open PySem PySem.Spec PyProof.Rows L2

section
variable {X : Cx} {W : WX} {pos : Pos}
/-! ### an item -/
def optO {α : Type} (o : Option α) (k : α → Out R) : Out R := match o with
  | some a => k a
  | none => .no
def ixD : D → D → Out R
  | .lst ds, .int i => optO (atI ds i) fzO
  | .tup ds, .int i => optO (atI ds i) fzO
  | .str x, .int i => if x.length ≤ 16000000 then optO (atI x i) fun c => fzO (.str [c]) else .no
  | .scr ns, .int i => optO (atI ns i) fun n => fzO (.int n)
  | _, _ => .no
theorem atI_rep {K : PySem.W.Frag} {F : Hp} {vs : List V} {ds : List D} {i : Int} {d : D} (r : RepL K F vs ds) (h : atI ds i = some d) : ∃ v, atI vs i = some v ∧ Rep K F v d := by
  unfold atI at h ⊢
  rw [r.len]
  cases e : ixN ds.length i with
  | none =>
    rw [e] at h
    cases h
  | some j =>
    rw [e] at h
    exact r.get h
theorem atI_map {α β : Type} (f : α → β) (xs : List α) (i : Int) : atI (xs.map f) i = (atI xs i).map f := by
  unfold atI
  rw [List.length_map]
  cases ixN xs.length i with
  | none => rfl
  | some j =>
    show (xs.map f)[j]? = (xs[j]?).map f
    rw [List.getElem?_map]
theorem je_item {a b : Expr} {ma mb : MV} (ha : JV X W a ma) (hb : JV X W b mb) (hs : PlainIx b) : JE X W (.Subscript a b pos) (m2 ixD ma mb) := je_ix ix_seq (fun F S σ H x y dx dy Q c hx hy q => by
  unfold ixD at q
  split at q
  · rename_i ds i
    obtain ⟨a, vs, rfl, h1, r1⟩ := hx.lst c
    have ey := hy.int c
    cases h : atI ds i with
    | none =>
      rw [h] at q
      exact q.elim
    | some d =>
      rw [h] at q
      obtain ⟨v, e1, e2⟩ := atI_rep r1 h
      exact .inl ⟨a, vs, i, v, rfl, ey, .inl (.inl h1), e1, fin_fz c q e2⟩
  · rename_i ds i
    obtain ⟨a, vs, rfl, h1, h1', r1⟩ := hx.tup c
    have ey := hy.int c
    cases h : atI ds i with
    | none =>
      rw [h] at q
      exact q.elim
    | some d =>
      rw [h] at q
      obtain ⟨v, e1, e2⟩ := atI_rep r1 h
      exact .inr (.inl ⟨a, vs, i, v, rfl, ey, h1', e1, fin_fz c q e2⟩)
  · rename_i z i
    obtain ⟨ex, hz⟩ := hx.str c
    have ey := hy.int c
    split at q
    · rename_i hl
      cases h : atI z i with
      | none =>
        rw [h] at q
        exact q.elim
      | some ch =>
        rw [h] at q
        refine .inr (.inr ⟨ms z, i, ch, ex, ey, szl (by rw [ms_len]; exact hl), ?_, ?_⟩)
        · have e2 : (ms z).cps.toList = z := by simp [ms]
          rw [e2]
          exact h
        · refine fin_fz c q (.str [ch] ?_)
          have hm : ch ∈ z := by
            unfold atI at h
            cases e : ixN z.length i with
            | none =>
              rw [e] at h
              cases h
            | some j =>
              rw [e] at h
              exact List.mem_of_getElem? h
          have := List.all_eq_true.mp hz ch hm
          simpa using this
    · exact q.elim
  · rename_i ns i
    obtain ⟨a, rfl, h1⟩ := hx.scr c
    have ey := hy.int c
    cases h : atI ns i with
    | none =>
      rw [h] at q
      exact q.elim
    | some n =>
      rw [h] at q
      exact .inl ⟨a, _, i, .int n, rfl, ey, h1, by rw [atI_map, h] <;> rfl, fin_int c q⟩
  · exact q.elim) ha hb hs

/-! ### slices -/
def cutL {α : Type} (xs : List α) (lo hi : Option Int) : List α := (xs.drop (HT.sIx xs.length 0 lo)).take (HT.sIx xs.length xs.length hi - HT.sIx xs.length 0 lo)
abbrev MO := Ss → Out (Option Int)
def tOp' (K : PySem.W.Frag) (W : WX) (m : MO) : TO := fun σ H Q => ∃ F S, Cp K F S σ H ∧ Fin K W F H σ (m S) fun o F' H' => Q o H'
structure JO (X : Cx) (W : WX) (e : Option Expr) (m : MO) : Prop where
  po : PO X e (tOp' X.K W m)
theorem po_imp {e : Option Expr} {t t' : TO} (h : PO X e t) (f : ∀ σ H Q, t' σ H Q → t σ H Q) : PO X e t' := ⟨fun pins s σ H Q I q => h.run pins s σ H Q I (f σ H Q q)⟩
def oNone : MO := fun _ => .ok none
def oSome (m : MV) : MO := fun S => (m S).bind fun d => match d with
  | .int i => .ok (some i)
  | _ => .no
theorem jo_none : JO X W none oNone := ⟨po_imp po_none fun σ H Q ⟨F, S, c, q⟩ => Fin.now c.sub q⟩
theorem jo_some {e : Expr} {m : MV} (h : JV X W e m) : JO X W (some e) (oSome m) := ⟨po_imp (po_some h.pe) fun σ H Q ⟨F, S, c, q⟩ => ⟨F, S, c, Fin.imp (Fin.bind q) fun d F1 H1 t z v rp => by
  cases d with
  | int i => exact ⟨i, rp.int (c.step t), Fin.now t.sub z⟩
  | _ => exact z.elim⟩⟩
def slD (x : D) (lo hi : Option Int) : Out R := match x with
  | .lst ds => owO (.lst (cutL ds lo hi))
  | .tup ds => fzO (.tup (cutL ds lo hi))
  | .str x => if x.length ≤ 16000000 then fzO (.str (cutL x lo hi)) else .no
  | .scr ns => owO (.lst ((cutL ns lo hi).map D.int))
  | _ => .no
def mSl (a : MV) (lo hi : MO) : ME := fun S => (a S).bind fun x => (lo S).bind fun l => (hi S).bind fun h => slD x l h
theorem RepL.cut {K : PySem.W.Frag} {F : Hp} {vs : List V} {ds : List D} (r : RepL K F vs ds) (lo hi : Option Int) : RepL K F (cutV vs lo hi) (cutL ds lo hi) := by
  unfold cutV cutL
  rw [r.len]
  exact (r.drop _).take _
theorem cut_map {α β : Type} (f : α → β) (xs : List α) (lo hi : Option Int) : cutL (xs.map f) lo hi = (cutL xs lo hi).map f := by
  unfold cutL
  rw [List.length_map, List.map_take, List.map_drop]
theorem je_slice {a : Expr} {lo hi : Option Expr} {p2 : Pos} {ma : MV} {ml mh : MO} (ha : JV X W a ma) (hl : JO X W lo ml) (hh : JO X W hi mh) : JE X W (.Subscript a (.Slice lo hi none p2) pos) (mSl ma ml mh) := ⟨pe_imp (pe_slice (sl_list.or (sl_tupA.or sl_str)) ha.pe hl.po hh.po) fun σ H Q ⟨F, S, c, q⟩ =>
  ⟨F, S, c, Fin.imp (Fin.bind q) fun x F1 H1 t1 z1 v1 r1 => ⟨F1, S, c.step t1, Fin.imp (Fin.bind z1) fun l F2 H2 t2 z2 => ⟨F2, S, (c.step t1).step t2, Fin.imp (Fin.bind z2) fun h F3 H3 t3 z3 => by
    have c3 := ((c.step t1).step t2).step t3
    have hx : Vw X.K F3 S σ v1 x := r1.mono (t2.gf.trans t3.gf)
    have q : Fin X.K W F3 H3 σ (slD x l h) (kE X.K H3 Q) := Fin.kE_mono (t1.gh.trans (t2.gh.trans t3.gh)) z3
    unfold slD at q
    split at q
    · obtain ⟨a, vs, rfl, h1, r⟩ := hx.lst c3
      exact .inl ⟨a, vs, rfl, .inl (.inl h1), fin_lst c3 q (r.cut l h)⟩
    · obtain ⟨a, vs, rfl, h1, h1', r⟩ := hx.tup c3
      refine .inr (.inl ⟨a, vs, rfl, h1', fun ⟨e1, e2⟩ => ?_, fun _ => fin_tup c3 q (r.cut l h)⟩)
      refine fin_fz c3 q (.tup h1 ?_)
      have e3 : cutV vs l h = vs := by
        unfold cutV
        rw [e1, e2]
        simp
      have r2 := r.cut l h
      rw [e3] at r2
      exact r2
    · rename_i z
      obtain ⟨ex, hz⟩ := hx.str c3
      split at q
      · rename_i hl
        refine .inr (.inr ⟨ms z, ex, szl (by rw [ms_len]; exact hl), ?_⟩)
        have e : cutS (ms z) l h = ms (cutL z l h) := by
          unfold cutS cutL
          rw [ms_len]
          simp [ms]
        rw [e]
        refine fin_str c3 q ?_
        unfold strOk' cutL
        rw [List.all_eq_true]
        intro ch hm
        exact List.all_eq_true.mp hz ch (List.mem_of_mem_drop (List.mem_of_mem_take hm))
      · exact q.elim
    · rename_i ns
      obtain ⟨a, rfl, h1⟩ := hx.scr c3
      refine .inl ⟨a, _, rfl, h1, fin_lst c3 q ?_⟩
      have e : cutV (ns.map V.int) l h = (cutL ns l h).map V.int := cut_map V.int ns l h
      rw [e]
      exact .of_ints _
    · exact q.elim⟩⟩⟩⟩

/-! ### displays -/
def tupD (ds : List D) : Out R := if ds.length ≤ 16000000 then fzO (.tup ds) else .no
def lstD (ds : List D) : Out R := if ds.length ≤ 16000000 then owO (.lst ds) else .no
theorem je_tup {es : List Expr} {ma : MA} {x1 : Nat} (ha : JA X W es ma) : JE X W (.Tuple es x1 pos) (mN tupD ma) := ⟨pe_imp (pe_tup ha.pa) fun σ H Q ⟨F, S, c, q⟩ => ⟨F, S, c, Fin.imp (Fin.bind q) fun ds F1 H1 t z vs rp => by
  have c1 := c.step t
  have q : Fin X.K W F1 H1 σ (tupD ds) (kE X.K H1 Q) := Fin.kE_mono t.gh z
  unfold tupD at q
  split at q
  · rename_i hl
    exact ⟨szl (by rw [rp.len]; exact hl), fin_tup c1 q rp⟩
  · exact q.elim⟩⟩
theorem je_lst {es : List Expr} {ma : MA} (ha : JA X W es ma) : JE X W (.List es pos) (mN lstD ma) := ⟨pe_imp (pe_lst ha.pa) fun σ H Q ⟨F, S, c, q⟩ => ⟨F, S, c, Fin.imp (Fin.bind q) fun ds F1 H1 t z vs rp => by
  have c1 := c.step t
  have q : Fin X.K W F1 H1 σ (lstD ds) (kE X.K H1 Q) := Fin.kE_mono t.gh z
  unfold lstD at q
  split at q
  · rename_i hl
    exact ⟨szl (by rw [rp.len]; exact hl), fin_lst c1 q rp⟩
  · exact q.elim⟩⟩

/-! ### built-ins -/
theorem VwL.one {K : PySem.W.Frag} {F : Hp} {S : Ss} {σ : L2.St} {vs : List V} {d : D} (h : VwL K F S σ vs [d]) : ∃ v, vs = [v] ∧ Vw K F S σ v d := by
  cases h with
  | cons h t =>
    cases t
    exact ⟨_, rfl, h⟩
theorem VwL.two {K : PySem.W.Frag} {F : Hp} {S : Ss} {σ : L2.St} {vs : List V} {d e : D} (h : VwL K F S σ vs [d, e]) : ∃ v u, vs = [v, u] ∧ Vw K F S σ v d ∧ Vw K F S σ u e := by
  cases h with
  | cons h t =>
    cases t with
    | cons h2 t =>
      cases t
      exact ⟨_, _, rfl, h, h2⟩
def lenD : List D → Out R
  | [.lst ds] => fzO (.int ds.length)
  | [.tup ds] => fzO (.int ds.length)
  | [.scr ns] => fzO (.int ns.length)
  | [.str x] => if x.length ≤ 16000000 then fzO (.int x.length) else .no
  | _ => .no
theorem ca_len : CaD X W (.builtin "len") lenD := ⟨_, call_len_seq.or call_len_str, fun F S σ H xs dxs Q c hx q => by
  unfold lenD at q
  split at q
  · obtain ⟨v, rfl, h⟩ := hx.one
    obtain ⟨a, vs, rfl, h1, r⟩ := h.lst c
    refine .inl ⟨a, vs, rfl, .inl (.inl (.inl h1)), ?_⟩
    rw [r.len]
    exact fin_int c q
  · obtain ⟨v, rfl, h⟩ := hx.one
    obtain ⟨a, vs, rfl, h1, h1', r⟩ := h.tup c
    refine .inl ⟨a, vs, rfl, .inr h1', ?_⟩
    rw [r.len]
    exact fin_int c q
  · obtain ⟨v, rfl, h⟩ := hx.one
    obtain ⟨a, rfl, h1⟩ := h.scr c
    refine .inl ⟨a, _, rfl, .inl h1, ?_⟩
    rw [List.length_map]
    exact fin_int c q
  · obtain ⟨v, rfl, h⟩ := hx.one
    obtain ⟨e, _⟩ := h.str c
    split at q
    · rename_i hl
      refine .inr ⟨_, by rw [e], szl (by rw [ms_len]; exact hl), ?_⟩
      rw [ms_len]
      exact fin_int c q
    · exact q.elim
  · exact q.elim⟩
def intD : List D → Out R
  | [.int i] => fzO (.int i)
  | [.bl b] => fzO (.int (if b then 1 else 0))
  | _ => .no
theorem ca_int : CaD X W (.type "int") intD := ⟨_, call_int1, fun F S σ H xs dxs Q c hx q => by
  unfold intD at q
  split at q
  · obtain ⟨v, rfl, h⟩ := hx.one
    exact .inl ⟨_, by rw [h.int c], fin_int c q⟩
  · obtain ⟨v, rfl, h⟩ := hx.one
    exact .inr ⟨_, by rw [h.bl c], fin_int c q⟩
  · exact q.elim⟩
def minD : List D → Out R
  | [.int i, .int j] => fzO (.int (if j < i then j else i))
  | _ => .no
def maxD : List D → Out R
  | [.int i, .int j] => fzO (.int (if j > i then j else i))
  | _ => .no
theorem ca_min (hc : X.calm = true) : CaD X W (.builtin "min") minD := ⟨_, call_min2 hc, fun F S σ H xs dxs Q c hx q => by
  unfold minD at q
  split at q
  · obtain ⟨v, u, rfl, h, h2⟩ := hx.two
    exact ⟨_, _, by rw [h.int c, h2.int c], fin_int c q⟩
  · exact q.elim⟩
theorem ca_max (hc : X.calm = true) : CaD X W (.builtin "max") maxD := ⟨_, call_max2 hc, fun F S σ H xs dxs Q c hx q => by
  unfold maxD at q
  split at q
  · obtain ⟨v, u, rfl, h, h2⟩ := hx.two
    exact ⟨_, _, by rw [h.int c, h2.int c], fin_int c q⟩
  · exact q.elim⟩
def tupleD : List D → Out R
  | [.lst ds] => fzO (.tup ds)
  | [.tup ds] => fzO (.tup ds)
  | [.scr ns] => fzO (.tup (ns.map .int))
  | _ => .no
theorem ca_tuple : CaD X W (.type "tuple") tupleD := ⟨_, call_tuple_of, fun F S σ H xs dxs Q c hx q => by
  unfold tupleD at q
  split at q
  · obtain ⟨v, rfl, h⟩ := hx.one
    obtain ⟨a, vs, rfl, h1, r⟩ := h.lst c
    exact ⟨a, vs, rfl, .inl ⟨.inl (.inl h1), fin_tup c q r⟩⟩
  · obtain ⟨v, rfl, h⟩ := hx.one
    obtain ⟨a, vs, rfl, h1, h1', r⟩ := h.tup c
    exact ⟨a, vs, rfl, .inr ⟨h1', fin_fz c q (.tup h1 r)⟩⟩
  · obtain ⟨v, rfl, h⟩ := hx.one
    obtain ⟨a, rfl, h1⟩ := h.scr c
    exact ⟨a, _, rfl, .inl ⟨h1, fin_tup c q (.of_ints _)⟩⟩
  · exact q.elim⟩
def listD : List D → Out R
  | [.lst ds] => owO (.lst ds)
  | [.tup ds] => owO (.lst ds)
  | [.scr ns] => owO (.lst (ns.map .int))
  | _ => .no
theorem ca_list : CaD X W (.type "list") listD := ⟨_, call_list_of, fun F S σ H xs dxs Q c hx q => by
  unfold listD at q
  split at q
  · obtain ⟨v, rfl, h⟩ := hx.one
    obtain ⟨a, vs, rfl, h1, r⟩ := h.lst c
    exact ⟨a, vs, rfl, .inl (.inl (.inl h1)), fin_lst c q r⟩
  · obtain ⟨v, rfl, h⟩ := hx.one
    obtain ⟨a, vs, rfl, h1, h1', r⟩ := h.tup c
    exact ⟨a, vs, rfl, .inr h1', fin_lst c q r⟩
  · obtain ⟨v, rfl, h⟩ := hx.one
    obtain ⟨a, rfl, h1⟩ := h.scr c
    exact ⟨a, _, rfl, .inl h1, fin_lst c q (.of_ints _)⟩
  · exact q.elim⟩
def blsOf : List D → Option (List Bool)
  | [] => some []
  | .bl b :: ds => (blsOf ds).map (b :: ·)
  | _ :: _ => none
theorem blsOf_eq : ∀ {ds : List D} {bs : List Bool}, blsOf ds = some bs → ds = bs.map D.bl
  | [], _, h => by
    cases h
    rfl
  | d :: ds, bs, h => by
    cases d with
    | bl b =>
      unfold blsOf at h
      cases e : blsOf ds with
      | none =>
        rw [e] at h
        cases h
      | some r =>
        rw [e] at h
        cases h
        rw [blsOf_eq e]
        rfl
    | _ => cases h
def allD : List D → Out R
  | [.lst ds] => optO (blsOf ds) fun bs => fzO (.bl (bs.all id))
  | _ => .no
def anyD : List D → Out R
  | [.lst ds] => optO (blsOf ds) fun bs => fzO (.bl (bs.any id))
  | _ => .no
theorem ca_all (hc : X.calm = true) : CaD X W (.builtin "all") allD := ⟨_, cr_all hc, fun F S σ H xs dxs Q c hx q => by
  unfold allD at q
  split at q
  · rename_i ds
    obtain ⟨v, rfl, h⟩ := hx.one
    obtain ⟨a, vs, rfl, h1, r⟩ := h.lst c
    cases e : blsOf ds with
    | none =>
      rw [e] at q
      exact q.elim
    | some bs =>
      rw [e] at q
      rw [blsOf_eq e] at r
      have e2 := r.bls
      subst e2
      exact ⟨a, bs, rfl, .inl (.inl h1), fin_bl c q⟩
  · exact q.elim⟩
theorem ca_any (hc : X.calm = true) : CaD X W (.builtin "any") anyD := ⟨_, cr_any hc, fun F S σ H xs dxs Q c hx q => by
  unfold anyD at q
  split at q
  · rename_i ds
    obtain ⟨v, rfl, h⟩ := hx.one
    obtain ⟨a, vs, rfl, h1, r⟩ := h.lst c
    cases e : blsOf ds with
    | none =>
      rw [e] at q
      exact q.elim
    | some bs =>
      rw [e] at q
      rw [blsOf_eq e] at r
      have e2 := r.bls
      subst e2
      exact ⟨a, bs, rfl, .inl (.inl h1), fin_bl c q⟩
  · exact q.elim⟩
end
end VM

namespace VM
open PySem PySem.Spec PyProof.Rows L2

section
variable {X : Cx} {W : WX} {pos : Pos}
/-! ### what is walked -/
theorem pi_or {tg e : Expr} {w1 w2 : TI} (h1 : PI X tg e w1) (h2 : PI X tg e w2) : PI X tg e (fun σ H R => w1 σ H R ∨ w2 σ H R) := ⟨fun pins s σ H R I h => by
  rcases h with h | h
  · exact h1.run pins s σ H R I h
  · exact h2.run pins s σ H R I h⟩
def itemsD : D → Out (List D)
  | .lst ds => .ok ds
  | .tup ds => .ok ds
  | .scr ns => .ok (ns.map .int)
  | .str x => .ok (x.map fun c => .str [c])
  | _ => .no
def iV (m : MV) : MA := fun S => (m S).bind itemsD
theorem it_list {K : PySem.W.Frag} {F1 : Hp} {a : Addr} {vs : List V} {ds : List D} (h : SqL K F1 a vs) (r : RepL K F1 vs ds) : ItOk K F1 (Itl K a) ds := fun F H g1 g2 => by
  have hs : SqL K H a vs := gr_l (g1.trans g2) h
  refine ⟨fun i d e => ?_, fun i hi => ⟨vs, hs, by rw [r.len]; exact hi⟩⟩
  obtain ⟨v, e1, e2⟩ := r.get e
  refine ⟨⟨vs, v, hs, e1⟩, fun x H' y => ?_⟩
  obtain ⟨rfl, y⟩ := y
  have ex := y vs hs
  rw [e1] at ex
  cases ex
  exact ⟨F, .refl g2, e2.mono g1⟩
theorem it_tup {K : PySem.W.Frag} {F1 : Hp} {a : Addr} {vs : List V} {ds : List D} (h : SqT K F1 a vs) (r : RepL K F1 vs ds) : ItOk K F1 (Itt K a) ds := fun F H g1 g2 => by
  have hs : SqT K H a vs := gr_t (g1.trans g2) h
  refine ⟨fun i d e => ?_, fun i hi => ⟨vs, hs, by rw [r.len]; exact hi⟩⟩
  obtain ⟨v, e1, e2⟩ := r.get e
  refine ⟨⟨vs, v, hs, e1⟩, fun x H' y => ?_⟩
  obtain ⟨rfl, y⟩ := y
  have ex := y vs hs
  rw [e1] at ex
  cases ex
  exact ⟨F, .refl g2, e2.mono g1⟩
theorem it_str {K : PySem.W.Frag} {F1 : Hp} {x : List Nat} (hx : strOk' x = true) : ItOk K F1 (Its (ms x)) (x.map fun c => .str [c]) := fun F H g1 g2 => by
  refine ⟨fun i d e => ?_, fun i hi => ?_⟩
  · rw [List.getElem?_map] at e
    cases h : x[i]? with
    | none =>
      rw [h] at e
      cases e
    | some ch =>
      rw [h] at e
      cases e
      have hl := (List.getElem?_eq_some_iff.mp h).1
      refine ⟨by show i < (ms x).cps.size; simp [ms]; exact hl, fun v H' y => ?_⟩
      obtain ⟨rfl, c, e1, rfl⟩ := y
      have e2 : (ms x).cps[i]? = x[i]? := by simp [ms]
      rw [e2, h] at e1
      cases e1
      refine ⟨F, .refl g2, .str [ch] ?_⟩
      have := List.all_eq_true.mp hx ch (List.mem_of_getElem? h)
      simpa using this
  · show (ms x).cps.size ≤ i
    rw [List.length_map] at hi
    simp [ms]
    exact hi
theorem ji_val {tg e : Expr} {m : MV} (h : JZ X W e m) : JI X W tg e (iV m) := ⟨_, pi_or (pi_list h.pe) (pi_or (pi_tup h.pe) (pi_str h.pe)), fun F S σ H R c q => by
  unfold iV at q
  have q2 := Fin.bind q
  cases hm : m S with
  | no =>
    rw [hm] at q2
    exact q2.elim
  | exc x fs =>
    rw [hm] at q2
    exact .inl ⟨F, S, c, by rw [hm]; exact q2⟩
  | ok d =>
    rw [hm] at q2
    cases d with
    | lst ds =>
      refine .inl ⟨F, S, c, ?_⟩
      rw [hm]
      intro F1 H1 t v rp
      cases rp with
      | lst h r =>
        refine ⟨_, rfl, ⟨_, .inl (.inl (t.sub _ _ h))⟩, ?_⟩
        exact Fin.now t.sub (q2 F1 H1 t) _ (it_list (.inl (.inl h)) r)
    | scr ns =>
      refine .inl ⟨F, S, c, ?_⟩
      rw [hm]
      intro F1 H1 t v rp
      cases rp with
      | scr h =>
        refine ⟨_, rfl, ⟨_, gr_l t.sub h⟩, ?_⟩
        exact Fin.now t.sub (q2 F1 H1 t) _ (it_list h (.of_ints ns))
    | tup ds =>
      refine .inr (.inl ⟨F, S, c, ?_⟩)
      rw [hm]
      intro F1 H1 t v rp
      cases rp with
      | tup h r =>
        refine ⟨_, rfl, ⟨_, gr_t t.sub h⟩, ?_⟩
        exact Fin.now t.sub (q2 F1 H1 t) _ (it_tup h r)
    | str x =>
      refine .inr (.inr ⟨F, S, c, ?_⟩)
      rw [hm]
      intro F1 H1 t v rp
      cases rp with
      | str _ hx =>
        refine ⟨_, rfl, ?_⟩
        exact Fin.now t.sub (q2 F1 H1 t) _ (it_str hx)
    | _ =>
      have z := q2 F H (.refl c.sub)
      exact z.elim⟩
/-- lo, lo + 1, .. -/
def rangeL (lo : Int) (n : Nat) : List D := (List.range n).map fun (i : Nat) => .int (lo + i)
theorem rangeL_get {lo : Int} {n i : Nat} {d : D} (h : (rangeL lo n)[i]? = some d) : i < n ∧ d = .int (lo + i) := by
  unfold rangeL at h
  rw [List.getElem?_map] at h
  cases e : (List.range n)[i]? with
  | none =>
    rw [e] at h
    cases h
  | some j =>
    rw [e] at h
    cases h
    obtain ⟨h1, h2⟩ := List.getElem?_eq_some_iff.mp e
    rw [List.length_range] at h1
    rw [List.getElem_range] at h2
    subst h2
    exact ⟨h1, rfl⟩
theorem rangeL_len (lo : Int) (n : Nat) : (rangeL lo n).length = n := by
  unfold rangeL
  rw [List.length_map, List.length_range]
theorem it_rng {K : PySem.W.Frag} {F1 : Hp} (lo : Int) (n : Nat) : ItOk K F1 (Itr lo n) (rangeL lo n) := fun F H g1 g2 => by
  refine ⟨fun i d e => ?_, fun i hi => by rw [rangeL_len] at hi; exact hi⟩
  obtain ⟨h1, rfl⟩ := rangeL_get e
  refine ⟨h1, fun x H' y => ?_⟩
  obtain ⟨rfl, rfl⟩ := y
  exact ⟨F, .refl g2, .int _⟩
def rng1 : List D → Out (List D)
  | [.int n] => if -1000000000 ≤ n ∧ n ≤ 1000000000 then .ok (rangeL 0 n.toNat) else .no
  | _ => .no
def rng2 : List D → Out (List D)
  | [.int a, .int b] => if -1000000000 ≤ a ∧ a ≤ 1000000000 ∧ -1000000000 ≤ b ∧ b ≤ 1000000000 then .ok (rangeL a (b - a).toNat) else .no
  | _ => .no
def iR (f : List D → Out (List D)) (m : MA) : MA := fun S => (m S).bind f
theorem ji_range1 {tg a : Expr} {ma : MA} {p : Pos} (hg : Gl X "range") (hm : X.mg "range" = none) (ha : JW X W [a] ma) (hs : starEach [a] X.env = [(false, eval a X.env)] := by rfl) : JI X W tg (.Call (.Name "range" p) [a] [] pos) (iR rng1 ma) := ⟨_, pi_range1 hg hm ha.pa hs, fun F S σ H R c q => by
  refine ⟨F, S, c, Fin.imp (Fin.bind q) fun ds F1 H1 t z vs rp => ?_⟩
  unfold rng1 at z
  split at z
  · obtain ⟨v, rfl, h⟩ := rp.one
    split at z
    · rename_i hb
      refine ⟨_, by rw [h.int (c.step t)], by omega, by omega, Fin.now t.sub z _ (it_rng 0 _)⟩
    · exact z.elim
  · exact z.elim⟩
theorem ji_range2 {tg a b : Expr} {ma : MA} {p : Pos} (hg : Gl X "range") (hm : X.mg "range" = none) (ha : JW X W [a, b] ma) (hs : starEach [a, b] X.env = [(false, eval a X.env), (false, eval b X.env)] := by rfl) (hs2 : starEach [b] X.env = [(false, eval b X.env)] := by rfl) : JI X W tg (.Call (.Name "range" p) [a, b] [] pos) (iR rng2 ma) := ⟨_, pi_range2 hg hm ha.pa hs hs2, fun F S σ H R c q => by
  refine ⟨F, S, c, Fin.imp (Fin.bind q) fun ds F1 H1 t z vs rp => ?_⟩
  unfold rng2 at z
  split at z
  · obtain ⟨v, u, rfl, h, h2⟩ := rp.two
    split at z
    · rename_i hb
      refine ⟨_, _, by rw [h.int (c.step t), h2.int (c.step t)], by omega, Fin.now t.sub z _ (it_rng _ _)⟩
    · exact z.elim
  · exact z.elim⟩

/-! ### comprehensions -/
def W0 : WX := fun _ _ _ _ => False
def lcL (tg : D → Ss → Option Ss) (tt : MT) (te : MV) (S0 : Ss) : List D → Out (List D)
  | [] => .ok []
  | d :: ds => match tg d S0 with
    | none => .no
    | some S1 => match tt S1 with
      | .ok true => (match te S1 with
        | .ok x => (lcL tg tt te S0 ds).bind fun r => .ok (x :: r)
        | _ => .no)
      | .ok false => lcL tg tt te S0 ds
      | _ => .no
def mLc (vs : List Nat) (tg : D → Ss → Option Ss) (it : MA) (tt : MT) (te : MV) : ME := fun S => (it S).bind fun ds => match lcL tg tt te (wipeS S vs) ds with
  | .ok rs => lstD rs
  | _ => .no
def mYes : MT := fun _ => .ok true
theorem wipeS_wipe {σ : L2.St} {S : Ss} {K : PySem.W.Frag} {F H : Hp} (c : Cp K F S σ H) (vs : List Nat) : Cp K F (wipeS S vs) (wipe σ vs) H := by
  have e : ∀ (i : Nat), i ∉ vs → (wipe σ vs)[i]? = σ[i]? := fun i hi => by rw [wipe_get, if_neg hi]
  have k : ∀ (i : Nat) (sl : Sl), (wipeS S vs)[i]? = some sl → sl = .no ∨ (S[i]? = some sl ∧ i ∉ vs) := by
    intro i sl
    induction vs with
    | nil => exact fun h => .inr ⟨h, by simp⟩
    | cons v vs ih =>
      intro h
      unfold wipeS at h
      by_cases hv : i = v
      · subst hv
        exact .inl (set_self h).symm
      · rw [List.getElem?_set_ne (Ne.symm hv)] at h
        rcases ih (fun j hj => by rw [wipe_get, if_neg hj]) h with z | ⟨z1, z2⟩
        · exact .inl z
        · exact .inr ⟨z1, by simp [hv, z2]⟩
  refine ⟨c.sub, by rw [wipeS_len, wipe_length]; exact c.len, fun i d h => ?_, fun i d h => ?_, fun i j di dj a ne hi hj ai aj => ?_⟩
  · rcases k i _ h with z | ⟨z1, z2⟩
    · cases z
    · obtain ⟨v, h1, h2⟩ := c.fz i d z1
      exact ⟨v, by rw [e i z2]; exact h1, h2⟩
  · rcases k i _ h with z | ⟨z1, z2⟩
    · cases z
    · obtain ⟨a, h1, h2⟩ := c.own i d z1
      exact ⟨a, by rw [e i z2]; exact h1, h2⟩
  · rcases k i _ hi with z | ⟨z1, z2⟩
    · cases z
    · rcases k j _ hj with z | ⟨y1, y2⟩
      · cases z
      · rw [e i z2] at ai
        rw [e j y2] at aj
        exact c.dis i j di dj a ne z1 y1 ai aj
def C00 : Ct := ⟨fun _ => none, fun _ => none⟩
theorem bs0 {K : PySem.W.Frag} {F H : Hp} {S : Ss} {σ : L2.St} (c : Cp K F S σ H) : Bs K C00 F S σ H := ⟨c, ⟨(fun _ _ h => by cases h), (fun _ _ h => by cases h), c.sub, fun _ _ _ => .inr rfl⟩, fun _ _ _ _ _ => rfl⟩
structure JTs (X : Cx) (W : WX) (ifs : List Expr) (m : MT) : Prop where
  pts : PTs X ifs (tT X.K W m)
theorem jts_nil : JTs X W [] mYes := ⟨⟨fun pins s σ H Q I ⟨F, S, c, q⟩ => pts_nil.run pins s σ H Q I (Fin.now c.sub q)⟩⟩
theorem jts_one {c : Expr} {m : MT} (h : JT X W c m) : JTs X W [c] m := ⟨pts_one h.pt⟩
theorem lc_imp {K : PySem.W.Frag} {vs is : List Nat} {g : D → Ss → Option Ss} {mi : MA} {tt : MT} {te : MV} {wi : TI} (hv : ∀ i ∈ is, i ∈ vs)
    (h2 : ∀ F S σ H R, Cp K F S σ H → Fin K W F H σ (mi S) (fun ds F1 H1 => ∀ J, ItOk K F1 J ds → R J H1) → wi σ H R)
    (σ : L2.St) (H : Hp) (Q : VK) (h : tI K W (mLc vs g mi tt te) σ H Q) : tLc wi (tG K is g) (tT K W0 tt) (tZ K W0 te) vs σ H Q := by
  obtain ⟨F, S, c, q⟩ := h
  refine h2 F S σ H _ c (Fin.imp (Fin.bind q) fun ds F1 H1 t1 z J ok => fun D hD => ?_)
  -- what is to come
  have c1 := c.step t1
  cases hl : lcL g tt te (wipeS S vs) ds with
  | no =>
    simp only [hl] at z
    exact z.elim
  | exc x fs =>
    simp only [hl] at z
    exact z.elim
  | ok rs =>
    simp only [hl] at z
    unfold lstD at z
    split at z
    · rename_i hz
      refine ⟨fun i k H2 => k = ds.length - i ∧ i ≤ ds.length ∧ ∃ F2 acc r1 r2, Step F1 H1 F2 H2 ∧ H2 D = some (.lst acc) ∧ RepL K F2 acc r1 ∧ F2 D = none ∧ lcL g tt te (wipeS S vs) (ds.drop i) = .ok r2 ∧ r1 ++ r2 = rs, ⟨ds.length, by simp, Nat.zero_le _, F1, [], [], rs, .newH t1.sub hD, upd_same, .nil, t1.sub.free hD, by simpa using hl, rfl⟩, ?_⟩
      rintro i k H2 ⟨rfl, hi, F2, acc, r1, r2, t2, hacc, rep, hF2, hr2, hrs⟩
      obtain ⟨ok1, ok2⟩ := ok F2 H2 t2.gf t2.sub
      by_cases hlt : i < ds.length
      · have hd : ds[i]? = some ds[i] := List.getElem?_eq_getElem hlt
        obtain ⟨go, yl⟩ := ok1 i _ hd
        rw [List.drop_eq_getElem_cons hlt] at hr2
        unfold lcL at hr2
        cases hg : g ds[i] (wipeS S vs) with
        | none =>
          rw [hg] at hr2
          cases hr2
        | some S1 =>
          rw [hg] at hr2
          simp only at hr2
          refine .inr ⟨go, fun H3 => ∃ F2 acc r1 r2, Step F1 H1 F2 H3 ∧ H3 D = some (.lst acc) ∧ RepL K F2 acc r1 ∧ F2 D = none ∧ lcL g tt te (wipeS S vs) (ds.drop (i + 1)) = .ok r2 ∧ r1 ++ r2 = rs, fun H3 w => ⟨ds.length - (i + 1), by omega, rfl, hlt, w⟩, fun x H3 y => ?_⟩
          obtain ⟨F3, t3, rp⟩ := yl x H3 y
          have t13 := t2.trans t3
          have cw : Cp K F3 (wipeS S vs) (wipe σ vs) H3 := (wipeS_wipe (c1.step t13) vs)
          have keepD : ∀ {F4 H4 : Hp}, Step F2 H2 F4 H4 → H4 D = some (.lst acc) ∧ F4 D = none := fun {F4 H4} t4 => by
            refine ⟨t4.gh _ _ hacc, ?_⟩
            cases hq : F4 D with
            | none => rfl
            | some o =>
              rcases t4.new D o hq with y | y
              · rw [hF2] at y
                cases y
              · rw [hacc] at y
                cases y
          refine ⟨C00, F3, wipeS S vs, ds[i], S1, bs0 cw, rp, hg, fun σ4 b4 w4 => ⟨(w4 vs hv).trans wipe_wipe, F3, S1, b4.cp, ?_⟩⟩
          cases ht : tt S1 with
          | no =>
            rw [ht] at hr2
            cases hr2
          | exc c fs =>
            rw [ht] at hr2
            cases hr2
          | ok b =>
            rw [ht] at hr2
            intro F4 H4 t4
            cases b with
            | false =>
              simp only at hr2 ⊢
              obtain ⟨k1, k2⟩ := keepD (t3.trans t4)
              exact ⟨F4, acc, r1, r2, t13.trans t4, k1, rep.mono (t3.gf.trans t4.gf), k2, hr2, hrs⟩
            | true =>
              simp only [if_true] at hr2 ⊢
              cases he : te S1 with
              | no =>
                rw [he] at hr2
                cases hr2
              | exc c fs =>
                rw [he] at hr2
                cases hr2
              | ok x =>
                rw [he] at hr2
                simp only at hr2
                refine ⟨F4, S1, b4.cp.step t4, ?_⟩
                rw [he]
                intro F5 H5 t5 v rv
                obtain ⟨k1, k2⟩ := keepD ((t3.trans t4).trans t5)
                cases hr : lcL g tt te (wipeS S vs) (ds.drop (i + 1)) with
                | no =>
                  rw [hr] at hr2
                  cases hr2
                | exc c fs =>
                  rw [hr] at hr2
                  cases hr2
                | ok r3 =>
                  rw [hr] at hr2
                  cases hr2
                  have hlen : r1.length + (r3.length + 1) = rs.length := by
                    rw [← hrs, List.length_append, List.length_cons]
                  have t15 := (t13.trans t4).trans t5
                  refine ⟨acc, k1, szl' (by rw [rep.len]; omega), F5, acc ++ [v], r1 ++ [x], r3, ⟨t15.gf, ?_, ?_, t15.new⟩, upd_same, (rep.mono ((t3.gf.trans t4.gf).trans t5.gf)).app (.cons rv .nil), k2, rfl, by simpa using hrs⟩
                  · intro a o e
                    rw [upd_ne (ne_of_none e hD)]
                    exact t15.gh a o e
                  · intro a o e
                    rw [upd_ne (ne_of_none e k2)]
                    exact t15.sub a o e
      · have e : i = ds.length := by omega
        subst e
        refine .inl ⟨ok2 _ (Nat.le_refl _), ?_⟩
        rw [List.drop_length] at hr2
        cases hr2
        rw [List.append_nil] at hrs
        subst hrs
        refine z F2 H2 t2 (.ref D) (.inr ⟨rfl, D, rfl, .lst hacc rep, ?_, hF2⟩)
        exact t1.gh.free hD
    · exact z.elim
theorem je_lc {elt tg iter : Expr} {ifs : List Expr} {scope : Scope} {own : List (Str × Nat)} {is : List Nat} {g : D → Ss → Option Ss} {mi : MA} {tt : MT} {te : MV} (hc : X.calm = true) (hN : X.N.Nodup) (hi : JI X W tg iter mi) (ok : BlkOk X.N X.env.scope scope own)
    (hg : ∀ (s : Shared) (H : Hp) (C : Addr) (cl : List (Str × Addr)) (fp : List Addr), JG (X.blk s H scope (compEnvC scope cl C X.env) fp) tg is g) (ht : ∀ (s : Shared) (H : Hp) (C : Addr) (cl : List (Str × Addr)) (fp : List Addr), JTs (X.blk s H scope (compEnvC scope cl C X.env) fp) W0 ifs tt)
    (he : ∀ (s : Shared) (H : Hp) (C : Addr) (cl : List (Str × Addr)) (fp : List Addr), JZ (X.blk s H scope (compEnvC scope cl C X.env) fp) W0 elt te) (hv : ∀ i ∈ is, i ∈ own.map (·.2) := by decide) (hs : ∀ x, foldedSetIterable iter X.env x = pure x := by intro _; rfl) :
    JE X W (.ListComp elt [⟨tg, iter, ifs, 0⟩] scope pos) (mLc (own.map (·.2)) g mi tt te) := by
  obtain ⟨wi, h1, h2⟩ := hi.ex
  exact ⟨pe_imp (pe_lc hc hN h1 ok (fun s H C cl fp => (hg s H C cl fp).pg) (fun s H C cl fp => (ht s H C cl fp).pts) (fun s H C cl fp => (he s H C cl fp).pe) hs) (lc_imp hv h2)⟩
/-- y = [..] -/
theorem js_setLc {i : Nat} {y : Str} {py : Pos} {elt tg iter : Expr} {ifs : List Expr} {scope : Scope} {own : List (Str × Nat)} {spos : Pos} {is : List Nat} {g : D → Ss → Option Ss} {mi : MA} {tt : MT} {te : MV} (hc : X.calm = true) (hN : X.N.Nodup) (hy : X.N[i]? = some y) (hyl : X.env.scope.names.lookup y = some .local)
    (hsw : swapsWith (.ListComp elt [⟨tg, iter, ifs, 0⟩] scope pos) (some (.Name y py)) spos.line X.env = pure true) (hi : JI X W tg iter mi) (ok : BlkOk X.N X.env.scope scope own)
    (hg : ∀ (s : Shared) (H : Hp) (C : Addr) (cl : List (Str × Addr)) (fp : List Addr), JG (X.blk s H scope (compEnvC scope cl C X.env) fp) tg is g) (ht : ∀ (s : Shared) (H : Hp) (C : Addr) (cl : List (Str × Addr)) (fp : List Addr), JTs (X.blk s H scope (compEnvC scope cl C X.env) fp) W0 ifs tt)
    (he : ∀ (s : Shared) (H : Hp) (C : Addr) (cl : List (Str × Addr)) (fp : List Addr), JZ (X.blk s H scope (compEnvC scope cl C X.env) fp) W0 elt te) (hv : ∀ i ∈ is, i ∈ own.map (·.2) := by decide) (hs : ∀ x, foldedSetIterable iter X.env x = pure x := by intro _; rfl) :
    JS X W (.Assign [.Name y py] (.ListComp elt [⟨tg, iter, ifs, 0⟩] scope pos) spos) (asS i (mLc (own.map (·.2)) g mi tt te)) := by
  obtain ⟨wi, h1, h2⟩ := hi.ex
  refine ⟨fun C => ps_imp (ps_setLc (g := tG X.K is g) (tt := tT X.K W0 tt) (te := tZ X.K W0 te) hc hN hy hyl hsw h1 ok (fun s H C cl fp => (hg s H C cl fp).pg) (fun s H C cl fp => (ht s H C cl fp).pts) (fun s H C cl fp => (he s H C cl fp).pe) hs) fun D σ H ⟨F, S, b, q⟩ => ?_⟩
  refine lc_imp hv h2 σ H _ ⟨F, S, b.cp, Fin.imp (FinS.out b q) fun r F1 H1 t z v rp => z F1 _ H1 (b.setR t i rp) (.refl _)⟩

/-! ### x.append(e), x held -/
def apS (i : Nat) (m : MV) : MS := fun S => match S[i]? with
  | some (.own (.lst ds)) => ofOut S (m S) fun d => if ds.length < 16000000 then .nx (S.set i (.own (.lst (ds ++ [d])))) else .no
  | _ => .no
theorem js_app {i : Nat} {x : Str} {p apos cpos : Pos} {e : Expr} {m : MV} (h0 : PE X (.Name x p) (tVar i)) (h : JZ X W e m)
    (hbase : attributeBase (.Name x p) "append" X.env (eval (.Name x p) X.env) = eval (.Name x p) X.env := by rfl)
    (hfew : ((backTo cpos (starEach [e] X.env)).all (fun x => !x.1) && (backToKw cpos (keywordEach [] X.env)).all (fun x => x.1.isSome)
      && decide (([e] : List Expr).length + ([] : List Keyword).length + (if ([] : List Keyword).isEmpty then 0 else 1) < 30)) = true := by rfl)
    (hline : (apos.endLine == cpos.line) = true := by rfl) (hs : starEach [e] X.env = (false, eval e X.env) :: starEach [] X.env := by rfl) (hplain : (backTo cpos (starEach [] X.env)).any (·.1) = false := by rfl)
    (hsw : swapsWith (.Call (.Attribute (.Name x p) "append" apos) [e] [] cpos) none pos.line X.env = pure false := by rfl) :
    JS X W (.Expr (.Call (.Attribute (.Name x p) "append" apos) [e] [] cpos) pos) (apS i m) := ⟨fun C => ps_imp (ps_expr (pe_bm PySem.F.plainAttrs_list PySem.F.slot_list_append PySem.F.type_list_append mt_append h0 (pa_cons h.pe pa_nil hs) hbase hfew hline hs hplain) hsw) fun D σ H ⟨F, S, b, q⟩ => by
  unfold apS at q
  split at q
  · rename_i ds hS
    obtain ⟨a, ha, ow, hf⟩ := b.cp.own i _ hS
    cases ow with
    | lst hH r =>
      refine ⟨.ref a, ha, .inl ⟨rfl, _, .inl (.inl hH)⟩, F, S, b.cp, Fin.imp (FinS.out b q) fun d F1 H1 t z v rv => ?_⟩
      split at z
      · rename_i hl
        refine ⟨a, _, v, rfl, rfl, t.gh _ _ hH, szl' (by rw [r.len]; exact hl), ?_⟩
        exact z F1 σ _ ((b.step t).mut hS ha (.lst upd_same ((r.mono t.gf).app (.cons rv .nil)))) (.refl _)
      · exact z.elim
  · exact q.elim⟩
end
end VM

namespace VM
open PySem PySem.Spec PyProof.Rows L2

section
variable {X : Cx} {W : WX} {pos : Pos}
/-! ### constants -/
theorem je_int {i : Int} {j : Nat} : JE X W (.Constant (.int i) j pos) (mC (.int i)) := je_c pe_int fun _ => .int i
theorem je_bl {b : Bool} {j : Nat} : JE X W (.Constant (.bool b) j pos) (mC (.bl b)) := je_c pe_bl fun _ => .bl b
theorem je_non {j : Nat} : JE X W (.Constant .none j pos) (mC .non) := je_c pe_non fun _ => .non
theorem rep_str {K : PySem.W.Frag} {F : Hp} {x : Str} {z : List Nat} (h : decide (x = ms z) = true) (ok : strOk' z = true) : Rep K F (.str x) (.str z) := by
  rw [of_decide_eq_true h]
  exact .str z ok
theorem je_str {x : Str} {j : Nat} (z : List Nat) (h : decide (x = ms z) = true) (ok : strOk' z = true) : JE X W (.Constant (.str x) j pos) (mC (.str z)) := je_c pe_str fun _ => rep_str h ok
/-- a name of the module that holds a constant -/
def CstOk (K : PySem.W.Frag) (mg : Str → Option Value) (x : Str) (d : D) : Prop := ∃ v u, mg x = some u ∧ RelV v u ∧ ∀ F, Rep K F v d
theorem je_cst {x : Str} {d : D} (h : CstOk X.K X.mg x d) (hg : Gl X x) (hd : (x == ("__debug__" : Str)) = false := by decide) : JE X W (.Name x pos) (mC d) := by
  obtain ⟨v, u, h1, h2, h3⟩ := h
  exact je_c (pe_glob hg h1 h2 hd) h3
mutual
def valB (K : PySem.W.Frag) : D → Value → Bool
  | .non, .none => true
  | .bl b, .bool c => b == c
  | .int i, .int j _ => decide (i = j)
  | .str x, .str y _ => decide (y = ms x) && strOk' x
  | .tup ds, .ref a => match K.lookup a with
    | some ⟨.type c, _, .seq its _, _⟩ => decide (c = "tuple") && (decide (its.size ≤ sizeLine) && valAllB K ds its.toList)
    | _ => false
  | _, _ => false
def valAllB (K : PySem.W.Frag) : List D → List Value → Bool
  | [], [] => true
  | d :: ds, u :: us => valB K d u && valAllB K ds us
  | _, _ => false
end
mutual
theorem valB_ok {K : PySem.W.Frag} : ∀ (d : D) (u : Value), valB K d u = true → ∃ v, RelV v u ∧ ∀ F, Rep K F v d
  | .non, u, h => by
    cases u <;> first | (simp [valB] at h; done) | exact ⟨.non, rfl, fun _ => .non⟩
  | .bl b, u, h => by
    cases u with
    | bool c =>
      simp only [valB, beq_iff_eq] at h
      subst h
      exact ⟨.bl b, rfl, fun _ => .bl b⟩
    | _ => simp [valB] at h
  | .int i, u, h => by
    cases u with
    | int j t =>
      simp only [valB, decide_eq_true_eq] at h
      subst h
      exact ⟨.int i, ⟨t, rfl⟩, fun _ => .int i⟩
    | _ => simp [valB] at h
  | .str x, u, h => by
    cases u with
    | str y t =>
      simp only [valB, Bool.and_eq_true, decide_eq_true_eq] at h
      obtain ⟨h1, h2⟩ := h
      subst h1
      exact ⟨.str (ms x), ⟨t, rfl⟩, fun _ => .str x h2⟩
    | _ => simp [valB] at h
  | .tup ds, u, h => by
    cases u with
    | ref a =>
      simp only [valB] at h
      split at h
      · rename_i c od its n osl hk
        simp only [Bool.and_eq_true, decide_eq_true_eq] at h
        obtain ⟨h1, h2, h3⟩ := h
        obtain ⟨vs, r1, r2⟩ := valAllB_ok ds its.toList h3
        exact ⟨.ref a, rfl, fun F => .tup (.inr ⟨_, its, n, hk, congrArg Value.type h1, rfl, h2, r1⟩) (r2 F)⟩
      · cases h
    | _ => simp [valB] at h
  | .lst _, u, h => by cases u <;> simp [valB] at h
  | .dic _, u, h => by cases u <;> simp [valB] at h
  | .obj _ _, u, h => by cases u <;> simp [valB] at h
  | .scr _, u, h => by cases u <;> simp [valB] at h
theorem valAllB_ok {K : PySem.W.Frag} : ∀ (ds : List D) (us : List Value), valAllB K ds us = true → ∃ vs, Vals vs us ∧ ∀ F, RepL K F vs ds
  | [], us, h => by
    cases us with
    | nil => exact ⟨[], .nil, fun _ => .nil⟩
    | cons u us => simp [valAllB] at h
  | d :: ds, us, h => by
    cases us with
    | nil => simp [valAllB] at h
    | cons u us =>
      simp only [valAllB, Bool.and_eq_true] at h
      obtain ⟨v, r1, r2⟩ := valB_ok d u h.1
      obtain ⟨vs, q1, q2⟩ := valAllB_ok ds us h.2
      exact ⟨v :: vs, .cons r1 q1, fun F => .cons (r2 F) (q2 F)⟩
end
def cstB (K : PySem.W.Frag) (p : Str × D) : Bool := match PySem.W.nsIn K mainGlobals p.1 with
  | some (some u) => valB K p.2 u
  | _ => false
theorem cstB_ok {K : PySem.W.Frag} {mg : Str → Option Value} {h : Heap} {p : Str × D} (X : K.In h) (G : h.Ns mainGlobals mg) (c : cstB K p = true) : CstOk K mg p.1 p.2 := by
  unfold cstB at c
  split at c
  · rename_i u hu
    obtain ⟨v, r1, r2⟩ := valB_ok p.2 u c
    exact ⟨v, u, PySem.W.mg_of X G hu, r1, r2⟩
  · cases c

/-! ### methods of texts -/
structure MtD (X : Cx) (W : WX) (id : String) (g : D → List D → Out R) : Prop where
  ex : ∃ r : V → List V → Hp → VK → Prop, MtR X id r ∧ ∀ F S σ H x dx xs dxs Q, Cp X.K F S σ H → Vw X.K F S σ x dx → VwL X.K F S σ xs dxs → Fin X.K W F H σ (g dx dxs) (kE X.K H Q) → r x xs H Q
def isStr : D → Bool
  | .str _ => true
  | _ => false
/-- o.m(..) of a text -/
def mMs (g : D → List D → Out R) (a : MV) (as : MA) : ME := fun S => (a S).bind fun x => if isStr x then (as S).bind fun ds => g x ds else .no
theorem je_bms {o e : Expr} {es : List Expr} {name : Str} {apos cpos : Pos} {id : String} {g : D → List D → Out R} {mo : MV} {ma : MA} (slot : Slot "str" name id) (hty : typeOf (.builtin id) = pure (.type "method_descriptor")) (hm : MtD X W id g) (ho : JV X W o mo) (ha : JW X W (e :: es) ma)
    (hbase : attributeBase o name X.env (eval o X.env) = eval o X.env := by rfl)
    (hfew : ((backTo cpos (starEach (e :: es) X.env)).all (fun x => !x.1) && (backToKw cpos (keywordEach [] X.env)).all (fun x => x.1.isSome)
      && decide ((e :: es).length + ([] : List Keyword).length + (if ([] : List Keyword).isEmpty then 0 else 1) < 30)) = true := by rfl)
    (hline : (apos.endLine == cpos.line) = true := by rfl) (hs : starEach (e :: es) X.env = (false, eval e X.env) :: starEach es X.env := by rfl) (hplain : (backTo cpos (starEach es X.env)).any (·.1) = false := by rfl) :
    JE X W (.Call (.Attribute o name apos) (e :: es) [] cpos) (mMs g mo ma) := by
  obtain ⟨r, h1, h2⟩ := hm.ex
  refine ⟨pe_imp (pe_bm PySem.F.plainAttrs_str slot hty h1 ho.pe ha.pa hbase hfew hline hs hplain) fun σ H Q ⟨F, S, c, q⟩ => ⟨F, S, c, Fin.imp (Fin.bind q) fun x F1 H1 t1 z1 v1 r1 => ?_⟩⟩
  have c1 := c.step t1
  split at z1
  · rename_i hx
    cases x with
    | str z =>
      obtain ⟨ex, _⟩ := r1.str c1
      subst ex
      exact ⟨rfl, F1, S, c1, Fin.imp (Fin.bind z1) fun ds F2 H2 t2 z2 vs r2 => h2 F2 S σ H2 _ _ vs ds Q (c1.step t2) (r1.mono t2.gf) r2 (Fin.kE_mono (t1.gh.trans t2.gh) z2)⟩
    | _ => cases hx
  · exact z1.elim
def spL (x y : List Nat) : List (List Nat) := (Txt.split (ms x) (ms y)).map fun z => z.cps.toList
def splitD (x : D) (as : List D) : Out R := match x, as with
  | .str x, [.str y] => if y.isEmpty = false ∧ x.length ≤ 15000000 ∧ (spL x y).all strOk' = true then owO (.lst ((spL x y).map .str)) else .no
  | _, _ => .no
theorem ms_to (z : Str) : ms z.cps.toList = z := by
  simp [ms]
theorem mt_splitD : MtD X W "str.split" splitD := ⟨_, mt_split, fun F S σ H x dx xs dxs Q c hx hxs q => by
  unfold splitD at q
  split at q
  · rename_i x y
    obtain ⟨ex, _⟩ := hx.str c
    obtain ⟨v, rfl, hv⟩ := hxs.one
    obtain ⟨ey, _⟩ := hv.str c
    split at q
    · rename_i hc
      refine ⟨ms x, ms y, ex, by rw [ey], ?_, szl (by rw [ms_len]; have := hc.2.1; omega), ?_⟩
      · rw [ms_len]
        cases y with
        | nil => simp at hc
        | cons a r => simp
      · intro p hp
        have e : (Txt.split (ms x) (ms y)).map V.str = (((spL x y)).map ms).map V.str := by
          unfold spL
          rw [List.map_map, List.map_map]
          exact List.map_congr_left fun z _ => congrArg V.str (ms_to z).symm
        rw [e]
        exact fin_lst c q (RepL.of_strs fun z hz => List.all_eq_true.mp hc.2.2 z hz) p hp
    · exact q.elim
  · exact q.elim⟩
def strsOf : List D → Option (List (List Nat))
  | [] => some []
  | .str b :: ds => (strsOf ds).map (b :: ·)
  | _ :: _ => none
theorem strsOf_eq : ∀ {ds : List D} {bs : List (List Nat)}, strsOf ds = some bs → ds = bs.map D.str
  | [], _, h => by
    cases h
    rfl
  | d :: ds, bs, h => by
    cases d with
    | str b =>
      unfold strsOf at h
      cases e : strsOf ds with
      | none =>
        rw [e] at h
        cases h
      | some r =>
        rw [e] at h
        cases h
        rw [strsOf_eq e]
        rfl
    | _ => cases h
theorem strsOf_map (bs : List (List Nat)) : strsOf (bs.map D.str) = some bs := by
  induction bs with
  | nil => rfl
  | cons b bs ih =>
    rw [List.map_cons]
    unfold strsOf
    rw [ih]
    rfl
/-- texts joined -/
def jnL (sep : List Nat) (xs : List (List Nat)) : List Nat := (xs.drop 1).foldl (fun acc p => acc ++ sep ++ p) (xs.headD [])
theorem jn_foldl (sep : Str) : ∀ (xs : List (List Nat)) (acc : List Nat), ((xs.map ms).foldl (fun acc p => acc ++ sep.cps ++ p.cps) acc.toArray) = (xs.foldl (fun acc p => acc ++ sep.cps.toList ++ p) acc).toArray
  | [], acc => rfl
  | x :: xs, acc => by
    rw [List.map_cons, List.foldl_cons, List.foldl_cons, ← jn_foldl sep xs]
    congr 1
    simp [ms]
theorem jn_eq (sep : List Nat) (xs : List (List Nat)) : Txt.join (ms sep) (xs.map ms) = ms (jnL sep xs) := by
  unfold Txt.join Builtin.Str.glued jnL
  have e : ((xs.map ms).headD Str.empty).cps = (xs.headD []).toArray := by
    cases xs with
    | nil => rfl
    | cons x xs => rfl
  rw [e, ← List.map_drop, jn_foldl]
  show Str.mk _ = Str.mk _
  simp [ms]
def joinD (x : D) (as : List D) : Out R := match x, as with
  | .str x, [.lst ds] => optO (strsOf ds) fun xs => if (xs.map (·.length)).sum + xs.length * x.length ≤ 16000000 then fzO (.str (jnL x xs)) else .no
  | .str x, [.tup ds] => optO (strsOf ds) fun xs => if (xs.map (·.length)).sum + xs.length * x.length ≤ 16000000 then fzO (.str (jnL x xs)) else .no
  | _, _ => .no
theorem jn_ok {sep : List Nat} (hs : strOk' sep = true) : ∀ (xs : List (List Nat)), (∀ x ∈ xs, strOk' x = true) → ∀ acc : List Nat, strOk' acc = true → strOk' (xs.foldl (fun acc p => acc ++ sep ++ p) acc) = true
  | [], _, acc, h => h
  | x :: xs, hx, acc, h => by
    rw [List.foldl_cons]
    refine jn_ok hs xs (fun y hy => hx y (List.mem_cons_of_mem _ hy)) _ ?_
    have := hx x List.mem_cons_self
    unfold strOk' at *
    rw [List.all_append, List.all_append, h, hs, this]
    rfl
theorem jnL_ok {sep : List Nat} (hs : strOk' sep = true) {xs : List (List Nat)} (hx : ∀ x ∈ xs, strOk' x = true) : strOk' (jnL sep xs) = true := by
  unfold jnL
  cases xs with
  | nil => rfl
  | cons x xs => exact jn_ok hs xs (fun y hy => hx y (List.mem_cons_of_mem _ hy)) x (hx x List.mem_cons_self)
theorem mt_joinD : MtD X W "str.join" joinD := ⟨_, mt_join, fun F S σ H x dx xs dxs Q c hx hxs q => by
  unfold joinD at q
  have le : ∀ ys : List (List Nat), (ys.map ms).map (·.length) = ys.map (·.length) := fun ys => by
    rw [List.map_map]
    exact List.map_congr_left fun z _ => ms_len z
  split at q
  · rename_i x ds
    obtain ⟨ex, kx⟩ := hx.str c
    obtain ⟨v, rfl, hv⟩ := hxs.one
    obtain ⟨a, vs, rfl, h1, r⟩ := hv.lst c
    cases hs : strsOf ds with
    | none =>
      rw [hs] at q
      exact q.elim
    | some ys =>
      simp only [hs, optO] at q
      rw [strsOf_eq hs] at r
      obtain ⟨e2, ky⟩ := r.strs
      subst e2
      split at q
      · rename_i hl
        refine ⟨ms x, a, ys.map ms, ex, rfl, .inl (.inl (.inl h1)), ?_, ?_⟩
        · rw [le, List.length_map, ms_len]
          omega
        · rw [jn_eq]
          exact fin_str c q (jnL_ok kx ky)
      · exact q.elim
  · rename_i x ds
    obtain ⟨ex, kx⟩ := hx.str c
    obtain ⟨v, rfl, hv⟩ := hxs.one
    obtain ⟨a, vs, rfl, h1, h1', r⟩ := hv.tup c
    cases hs : strsOf ds with
    | none =>
      rw [hs] at q
      exact q.elim
    | some ys =>
      simp only [hs, optO] at q
      rw [strsOf_eq hs] at r
      obtain ⟨e2, ky⟩ := r.strs
      subst e2
      split at q
      · rename_i hl
        refine ⟨ms x, a, ys.map ms, ex, rfl, .inr h1', ?_, ?_⟩
        · rw [le, List.length_map, ms_len]
          omega
        · rw [jn_eq]
          exact fin_str c q (jnL_ok kx ky)
      · exact q.elim
  · exact q.elim⟩

/-! ### a op b op c -/
def m3 (g h : D → D → Out R) (a b c : MV) : ME := fun S => (a S).bind fun x => (b S).bind fun y => (g x y).bind fun r => match r.d with
  | .bl true => (c S).bind fun z => h y z
  | .bl false => fzO (.bl false)
  | _ => .no
theorem chain_imp {K : PySem.W.Frag} {W : WX} {r r' : R2} {g g' : D → D → Out R} {ma mb mc : MV} (hr : ∀ F S σ H x y dx dy Q, Cp K F S σ H → Vw K F S σ x dx → Vw K F S σ y dy → Fin K W F H σ (g dx dy) (kE K H Q) → r x y H Q)
    (hr' : ∀ F S σ H x y dx dy Q, Cp K F S σ H → Vw K F S σ x dx → Vw K F S σ y dy → Fin K W F H σ (g' dx dy) (kE K H Q) → r' x y H Q)
    (σ : L2.St) (H : Hp) (Q : VK) (h : tI K W (m3 g g' ma mb mc) σ H Q) : tChain r r' (tV K W ma) (tV K W mb) (tV K W mc) σ H Q := by
  obtain ⟨F, S, c, q⟩ := h
  refine ⟨F, S, c, Fin.imp (Fin.bind q) fun x F1 H1 t1 z1 v1 r1 => ⟨F1, S, c.step t1, Fin.imp (Fin.bind z1) fun y F2 H2 t2 z2 v2 r2 => ?_⟩⟩
  have c2 := (c.step t1).step t2
  refine hr F2 S σ H2 v1 v2 x y _ c2 (r1.mono t2.gf) r2 ?_
  have z3 := Fin.bind z2
  cases hg : g x y with
  | no =>
    rw [hg] at z3
    exact z3
  | exc cc fs =>
    rw [hg] at z3
    exact z3
  | ok w =>
    rw [hg] at z3
    intro F3 H3 t3 v rp
    have z4 := z3 F3 H3 t3
    have c3 := c2.step t3
    cases hw : w.d with
    | bl b =>
      rcases rp with ⟨_, rp⟩ | ⟨_, a, _, o, _⟩
      · rw [hw] at rp
        cases rp
        cases b with
        | true =>
          simp only [hw] at z4
          refine ⟨true, rfl, ?_⟩
          rw [if_pos rfl]
          exact ⟨F3, S, c3, Fin.imp (Fin.bind z4) fun z F4 H4 t4 z5 v3 r3 => hr' F4 S σ H4 v2 v3 y z Q (c3.step t4) (r2.mono (t3.gf.trans t4.gf)) r3 (Fin.kE_mono (t1.gh.trans (t2.gh.trans (t3.gh.trans t4.gh))) z5)⟩
        | false =>
          simp only [hw] at z4
          refine ⟨false, rfl, ?_⟩
          rw [if_neg Bool.false_ne_true]
          exact Fin.now t3.sub z4 _ (.inl ⟨rfl, .bl false⟩)
      · rw [hw] at o
        cases o
    | _ =>
      simp only [hw] at z4
      exact z4.elim
theorem je_chain {op op' : CmpOp} {a b e : Expr} {g g' : D → D → Out R} {ma mb mc : MV} (ho : OpD X W (compareOp op) g) (ho' : OpD X W (compareOp op') g') (ha : JV X W a ma) (hb : JV X W b mb) (he : JV X W e mc)
    (hm : lastMarks [op, op'] [b, e] = false := by with_unfolding_all rfl) : JE X W (.Compare a [op, op'] [b, e] pos) (m3 g g' ma mb mc) := by
  obtain ⟨r, h1, h2⟩ := ho.ex
  obtain ⟨r', h1', h2'⟩ := ho'.ex
  exact ⟨pe_imp (pe_chain h1 h1' ha.pe hb.pe he.pe hm) (chain_imp h2 h2')⟩
theorem jt_of {e : Expr} {t : TE} {m : ME} (h : PT X e (tTest t)) (f : ∀ σ H Q, tI X.K W m σ H Q → t σ H Q) : JT X W e (tB' (mZ m)) := ⟨pt_imp h fun σ H Q ⟨F, S, c, q⟩ => by
  refine f σ H _ ⟨F, S, c, ?_⟩
  have q2 := Fin.bind q
  unfold mZ at q2
  cases hm : m S with
  | no =>
    rw [hm] at q2
    exact q2
  | exc x fs =>
    rw [hm] at q2
    exact q2
  | ok r =>
    rw [hm] at q2
    intro F1 H1 t v rp
    obtain ⟨F2, t2, g2, rp2⟩ := rp.fz t
    have z := q2 F2 H1 t2
    cases hd : r.d with
    | bl b =>
      rw [hd] at z rp2
      cases rp2
      exact ⟨b, rfl, Fin.now t2.sub z⟩
    | _ =>
      rw [hd] at z
      exact z.elim⟩
theorem jt_chain {op op' : CmpOp} {a b e : Expr} {g g' : D → D → Out R} {ma mb mc : MV} (ho : OpD X W (compareOp op) g) (ho' : OpD X W (compareOp op') g') (ha : JV X W a ma) (hb : JV X W b mb) (he : JV X W e mc)
    (hm : lastMarks [op, op'] [b, e] = false := by with_unfolding_all rfl) : JT X W (.Compare a [op, op'] [b, e] pos) (tB' (mZ (m3 g g' ma mb mc))) := by
  obtain ⟨r, h1, h2⟩ := ho.ex
  obtain ⟨r', h1', h2'⟩ := ho'.ex
  exact jt_of (pt_chain h1 h1' ha.pe hb.pe he.pe hm) (chain_imp h2 h2')
end

/-! ### defs by name -/
structure Fx (P : Program) (w : World) (K : PySem.W.Frag) (mg : Str → Option Value) (base : Heap) (k : Nat) (ps : List Str) (x : Str) (g : List D → Out R) : Prop where
  ex : ∃ fd, FnOk P w K mg base (L2.CX P w) k (He.ga K x) fd ps (spD K ps.length g) ∧ mg x = some (.ref (He.ga K x)) ∧ PySem.W.keepIn K (.ref (He.ga K x)) = true ∧ (∀ (s : Shared) (us : List Value), us.length = ps.length → BindsTo s fd ⟨us, []⟩ (ps.zip us)) ∧
    ∃ oc od sl, K.lookup (He.ga K x) = some ⟨oc, od, .func fd, sl⟩
section
variable {P : Program} {w : World} {K : PySem.W.Frag} {mg : Str → Option Value} {base : Heap}
theorem fx_mk {x qual : Str} {params : Arguments} {body : List Stmt} {scope : Scope} {kws : List (Str × V)} {N ps : List Str} {k : Nat} {m : MS} {g : List D → Out R}
    (F : ∃ fd, FunD K x qual params body scope [] kws (He.ga K x) fd) (hm : mg x = some (.ref (He.ga K x))) (S : FnScope N ps scope)
    (hbd : ∀ (kV doc pm : Value) (an : Option Addr) (cdv ct : Value) (us : List Value), us.length = ps.length → bindArgs (PySem.W.fnOf x qual params body scope .none kV doc pm an cdv ct) ⟨us, []⟩ = pure (ps.zip us))
    (hg : ∀ ds, ds.length = ps.length → finO (m (inS N.length ds)) = g ds)
    (hb : ∀ (cdv : Value) (A : Around) (outer : List Env) (s : Shared) (H : Hp) (E : XK), Room k (A.deeper (envOfC qual scope s.heap.objs.size (He.ga K x) cdv)) →
      JSs (cxOf (L2.CX P w) P w K mg base N qual scope (He.ga K x) cdv A outer s H E) (fun cls d _ H' => E cls d H') body m) :
    Fx P w K mg base (k + 1) ps x g := by
  obtain ⟨fd, F⟩ := F
  refine ⟨fd, fn_ok F S rfl hg hb, hm, F.kp, fun s us hl => F.bindsA hbd s us hl, ?_⟩
  obtain ⟨oc, od, dV, kV, doc, pm, an, cdv, ct, osl, rfl, lk, _⟩ := F.ex
  exact ⟨oc, od, osl, lk⟩
theorem hu65 {k : Nat} {A : Around} (r : Room k A) : A.units + 65 < cLine := by
  have := r.un
  omega
theorem bindsK {fd : FuncData} {ps : List Str} (h : ∀ (s : Shared) (us : List Value), us.length = ps.length → BindsTo s fd ⟨us, []⟩ (ps.zip us)) : Binds K fd ps [] := fun s us _ hl => by
  rw [List.append_nil] at hl ⊢
  exact h s us hl
/-- the law's own def -/
theorem law_fx {x p : Str} {fa : Addr} {k : Nat} {g : List D → Out R} (h : ∀ base, Fx P w K mg base k [p] x g) (hm : mg x = some (.ref fa)) :
    ∃ fd, (∀ (s : Shared) (u : Value), BindsTo s fd ⟨[u], []⟩ [(p, u)]) ∧ ∀ base, FnOk P w K mg base (L2.CX P w) k fa fd [p] (spD K 1 g) := by
  obtain ⟨fd, _, m0, _, hb, oc, od, sl, lk⟩ := (h default).ex
  have e : fa = He.ga K x := by
    rw [hm] at m0
    exact Value.ref.inj (Option.some.inj m0)
  subst e
  refine ⟨fd, fun s u => hb s [u] rfl, fun base => ?_⟩
  obtain ⟨fd2, F2, _, _, _, oc2, od2, sl2, lk2⟩ := (h base).ex
  rw [lk] at lk2
  cases lk2
  exact F2
end
section
variable {X : Cx} {W : WX} {pos : Pos}
theorem je_fx {k j : Nat} {ps : List Str} {x : Str} {p : Pos} {e : Expr} {es : List Expr} {g : List D → Out R} {ma : MA} (F : Fx X.prog X.w X.K X.mg X.base k ps x g) (hr : Room j X.A) (hk : k ≤ j) (hg : Gl X x) (tk : Takes X W) (ha : JA X W (e :: es) ma) (hl : ALen ma ps.length)
    (hdb : (x == ("__debug__" : Str)) = false := by decide) (he : starEach (e :: es) X.env = (false, eval e X.env) :: starEach es X.env := by rfl) (hpl : (backTo pos (starEach es X.env)).any (·.1) = false := by rfl) :
    JE X W (.Call (.Name x p) (e :: es) [] pos) (mN g ma) := by
  obtain ⟨fd, h1, h2, h3, h4, _⟩ := F.ex
  exact je_calln h1 (hr.mono hk) hg h2 h3 (bindsK h4) tk ha hl hdb he hpl
theorem je_fx0 {k j : Nat} {x : Str} {p : Pos} {g : List D → Out R} (F : Fx X.prog X.w X.K X.mg X.base k [] x g) (hr : Room j X.A) (hk : k ≤ j) (hg : Gl X x) (tk : Takes X W)
    (hdb : (x == ("__debug__" : Str)) = false := by decide) : JE X W (.Call (.Name x p) [] [] pos) (mK (g [])) := by
  obtain ⟨fd, h1, h2, h3, h4, _⟩ := F.ex
  exact je_call0 h1 (hr.mono hk) hg h2 h3 (bindsK h4) tk hdb
end

/-! ### the end -/
theorem walk_E {l : PySem.W.OpenLaw} {n k : Nat} {q : Program} {loose : List Str} {XP : (Str → Option Value) → Heap → Prop} {YP : World → Heap → Prop} {d : DefRec} {g : List D → Out R}
    (hn : l.most = some n) (hn2 : n ≤ sizeLine) (hdf : d.params.defaults = []) (hr : Room k callerA)
    (F : ∀ (w : World) (mg : Str → Option Value) (fa : Addr) (h : Heap), YP w h → h.Ns mainGlobals mg → mg d.name = some (.ref fa) →
      ∃ (K : PySem.W.Frag) (fd : FuncData) (x : Str), K.In h ∧ (∀ (s : Shared) (u : Value), BindsTo s fd ⟨[u], []⟩ [(x, u)]) ∧
        ∀ base : Heap, K.In base → base.Ns mainGlobals mg → FnOk l.prog w K mg base (L2.CX l.prog w) k fa fd [x] (spD K 1 g))
    (hg : ∀ ns : List Int, ns.length ≤ n → (∀ z ∈ ns, Builtin.Int.intBits z ≤ 1048576) → g [.scr ns] = .ok ⟨false, .bl true⟩) :
    PySem.W.WalkO q loose XP YP l.row.toRowW d [] (fun f vs => PySem.call f vs) := by
  refine Att.attach_callB hn hdf fun w s₀ s₁ mg mb fa o pm cd doc a vs ns G Y ho hd hcd hmg hobj hints hlen hbits hg2 => ?_
  obtain ⟨K, fd, x, KX, hb, hF⟩ := F w mg fa _ Y G.T.g hmg
  refine law_call (CX := L2.CX l.prog w) KX G.T.g G.T.b G.T.builtins G.T.nolimit hg2 hobj hints (Nat.le_trans hlen hn2) hr hF hb (fun H hO hS => ?_) fun H e s' hc => ?_
  · refine ⟨H, [.scr ns], .refl H, .cons (.scr hS) .nil, rfl, ?_⟩
    rw [hg ns hlen hbits]
    intro v F' H' st rr
    rcases rr with ⟨_, rr⟩ | ⟨e, _⟩
    · cases rr
      rfl
    · cases e
  · obtain ⟨_, _, _, _, _, _, _, _, _, _, _, _, z⟩ := hc
    exact z.elim
end VM

namespace VM
open PySem PySem.Spec PyProof.Rows L2
def frW (is : List Nat) (m : MS) : MS := fun S => m (frzS S is)
theorem js_frw {X : Cx} {W : WX} {st : Stmt} {m : MS} (is : List Nat) (h : JS X W st m) : JS X W st (frW is m) := js_frz is h
/-- what the head tells of a text: its defs, its module's names, the built-ins that it leaves alone, its constants -/
structure Tx (fn : List He.DefD) (glo fr : List Str) (cs : List (Str × D)) (K : PySem.W.Frag) (mg : Str → Option Value) : Prop where
  fn : ∀ {i : Nat} {d : He.DefD}, fn[i]? = some d → ∃ fd, FunD K d.name d.qual d.params d.body d.scope (d.dvs K) (d.kws K) (He.fAd K d.at_) fd
  glo : ∀ {i : Nat} {x : Str}, glo[i]? = some x → mg x = some (.ref (He.ga K x))
  free : ∀ {i : Nat} {x : Str}, fr[i]? = some x → mg x = none
  cst : ∀ {i : Nat} {p : Str × D}, cs[i]? = some p → CstOk K mg p.1 p.2
def faOf (glo fr : List Str) : List He.Fa := glo.map He.Fa.glo ++ fr.map He.Fa.free
def exOf (cs : List (Str × D)) (K : PySem.W.Frag) : Bool := cs.all (cstB K)
theorem tx_of {fn : List He.DefD} {glo fr : List Str} {cs : List (Str × D)} {w : World} {h0 h : Heap} {K : PySem.W.Frag} {mg : Str → Option Value} (X : K.In h) (G : h.Ns mainGlobals mg) (c : He.SaysX (faOf glo fr) fn [] [] (exOf cs) w h0 K) : Tx fn glo fr cs K mg where
  fn := fun {i d} e => c.t.d.defs (List.mem_of_getElem? e)
  glo := fun {i x} e => He.glo_ok X G (c.t.d.facts (f := .glo x) (List.mem_append_left _ (List.mem_map_of_mem (List.mem_of_getElem? e))))
  free := fun {i x} e => He.free_ok X G (c.t.d.facts (f := .free x) (List.mem_append_right _ (List.mem_map_of_mem (List.mem_of_getElem? e))))
  cst := fun {i p} e => cstB_ok X G (List.all_eq_true.mp c.more p (List.mem_of_getElem? e))
end VM

namespace VM
open PySem L2

/-! ### loops -/
/-- a search: what a turn does hangs on the item alone -/
theorem foL_search {ks : List Nat} {tg : D → Ss → Option Ss} {body : MS} {S : Ss} (p : D → Bool) (r : R) : ∀ (ds : List D), (∀ d ∈ ds, ∃ S1, tg d S = some S1 ∧ ((p d = true ∧ body S1 = .ret r) ∨ (p d = false ∧ ∃ S2, body S1 = .nx S2 ∧ wipeS S2 ks = S))) →
    foL ks tg body ds S = if ds.any p then .ret r else .nx S
  | [], _ => rfl
  | d :: ds, h => by
    obtain ⟨S1, h1, h2⟩ := h d List.mem_cons_self
    unfold foL
    rw [h1]
    simp only
    rcases h2 with ⟨h3, h4⟩ | ⟨h3, S2, h4, h5⟩
    · rw [h4, List.any_cons, h3]
      rfl
    · rw [h4, List.any_cons, h3]
      simp only [Bool.false_or]
      rw [h5]
      exact foL_search p r ds fun e he => h e (List.mem_cons_of_mem _ he)
/-- an invariant by the turn -/
theorem foL_inv {ks : List Nat} {tg : D → Ss → Option Ss} {body : MS} (I : Nat → Ss → Prop) : ∀ (ds : List D) (n : Nat) (S : Ss), I n S → (∀ (i : Nat) (d : D) (S : Ss), ds[i]? = some d → I (n + i) S → ∃ S1 S2, tg d S = some S1 ∧ (body S1 = .nx S2 ∨ body S1 = .ct S2) ∧ I (n + i + 1) (wipeS S2 ks)) →
    ∃ S', foL ks tg body ds S = .nx S' ∧ I (n + ds.length) S'
  | [], n, S, h, _ => ⟨S, rfl, h⟩
  | d :: ds, n, S, h, hs => by
    obtain ⟨S1, S2, h1, h2, h3⟩ := hs 0 d S rfl h
    have ih := foL_inv I ds (n + 1) (wipeS S2 ks) h3 (fun i e S he hI => by
      have z := hs (i + 1) e S (by simpa using he) (by rw [show n + (i + 1) = n + 1 + i by omega]; exact hI)
      rw [show n + (i + 1) + 1 = n + 1 + i + 1 by omega] at z
      exact z)
    obtain ⟨S', e1, e2⟩ := ih
    refine ⟨S', ?_, by rw [List.length_cons, show n + (ds.length + 1) = n + 1 + ds.length by omega]; exact e2⟩
    unfold foL
    rw [h1]
    simp only
    rcases h2 with h2 | h2
    · rw [h2]
      exact e1
    · rw [h2]
      exact e1
/-- a fold: the slots are a function of what is carried -/
theorem foL_fold {β : Type} {ks : List Nat} {tg : D → Ss → Option Ss} {body : MS} (st : β → Ss) (f : β → D → β) (I : β → Prop) : ∀ (ds : List D) (b : β), I b → (∀ d ∈ ds, ∀ b, I b → ∃ S1 S2, tg d (st b) = some S1 ∧ (body S1 = .nx S2 ∨ body S1 = .ct S2) ∧ wipeS S2 ks = st (f b d) ∧ I (f b d)) →
    foL ks tg body ds (st b) = .nx (st (ds.foldl f b)) ∧ I (ds.foldl f b)
  | [], b, h, _ => ⟨rfl, h⟩
  | d :: ds, b, h, hs => by
    obtain ⟨S1, S2, h1, h2, h3, h4⟩ := hs d List.mem_cons_self b h
    have ih := foL_fold (ks := ks) (tg := tg) (body := body) st f I ds (f b d) h4 fun e he => hs e (List.mem_cons_of_mem _ he)
    refine ⟨?_, ih.2⟩
    rw [List.foldl_cons, ← ih.1]
    conv => lhs; unfold foL
    rw [h1]
    simp only
    rcases h2 with h2 | h2
    · rw [h2]
      simp only
      rw [h3]
    · rw [h2]
      simp only
      rw [h3]
/-- a comprehension: each item gives one -/
theorem lcL_map {tg : D → Ss → Option Ss} {te : MV} {S0 : Ss} (f : D → D) : ∀ (ds : List D), (∀ d ∈ ds, ∃ S1, tg d S0 = some S1 ∧ te S1 = .ok (f d)) → lcL tg mYes te S0 ds = .ok (ds.map f)
  | [], _ => rfl
  | d :: ds, h => by
    obtain ⟨S1, h1, h2⟩ := h d List.mem_cons_self
    unfold lcL
    rw [h1]
    simp only [mYes]
    rw [h2]
    simp only
    rw [lcL_map f ds fun e he => h e (List.mem_cons_of_mem _ he)]
    rfl
theorem lcL_filter {tg : D → Ss → Option Ss} {tt : MT} {te : MV} {S0 : Ss} (p : D → Bool) (f : D → D) : ∀ (ds : List D), (∀ d ∈ ds, ∃ S1, tg d S0 = some S1 ∧ tt S1 = .ok (p d) ∧ (p d = true → te S1 = .ok (f d))) → lcL tg tt te S0 ds = .ok ((ds.filter p).map f)
  | [], _ => rfl
  | d :: ds, h => by
    obtain ⟨S1, h1, h2, h3⟩ := h d List.mem_cons_self
    unfold lcL
    rw [h1]
    simp only
    rw [h2]
    have ih := lcL_filter p f ds fun e he => h e (List.mem_cons_of_mem _ he)
    cases hp : p d with
    | true =>
      simp only
      rw [h3 hp]
      simp only
      rw [ih, List.filter_cons, if_pos hp]
      rfl
    | false =>
      simp only
      rw [ih, List.filter_cons, if_neg (by rw [hp]; exact Bool.false_ne_true)]
/-- .. of any kind: only that they come -/
theorem lcL_ex {tg : D → Ss → Option Ss} {te : MV} {S0 : Ss} (P : D → Prop) : ∀ (ds : List D), (∀ d ∈ ds, ∃ S1 x, tg d S0 = some S1 ∧ te S1 = .ok x ∧ P x) → ∃ rs, lcL tg mYes te S0 ds = .ok rs ∧ rs.length = ds.length ∧ ∀ x ∈ rs, P x
  | [], _ => ⟨[], rfl, rfl, fun _ h => by cases h⟩
  | d :: ds, h => by
    obtain ⟨S1, x, h1, h2, h3⟩ := h d List.mem_cons_self
    obtain ⟨rs, e1, e2, e3⟩ := lcL_ex P ds fun e he => h e (List.mem_cons_of_mem _ he)
    refine ⟨x :: rs, ?_, congrArg Nat.succ e2, fun y hy => ?_⟩
    · unfold lcL
      rw [h1]
      simp only [mYes]
      rw [h2]
      simp only
      rw [e1]
      rfl
    · rcases List.mem_cons.mp hy with rfl | hy
      · exact h3
      · exact e3 y hy
/-! ### operations -/
theorem mul_ok {i j : Int} (hi : i.natAbs < 2 ^ 4000) (hj : j.natAbs < 2 ^ 4000) : mulD (.int i) (.int j) = fzO (.int (i * j)) := by
  have h1 := PySem.Flt.log2_lt_of (by decide : 0 < 4000) hi
  have h2 := PySem.Flt.log2_lt_of (by decide : 0 < 4000) hj
  exact if_pos (by omega)
theorem div_ok {i j : Int} (h : 0 < j) (hj : j.natAbs < 2 ^ 4000) : divD (.int i) (.int j) = fzO (.int (i / j)) := by
  have h2 := PySem.Flt.log2_lt_of (by decide : 0 < 4000) hj
  exact if_pos ⟨h, by omega⟩
theorem mod_ok {i j : Int} (h : 0 < j) : modD (.int i) (.int j) = fzO (.int (i % j)) := if_pos h
theorem big4000 {n : Nat} (h : n ≤ 10 ^ 200) : n < 2 ^ 4000 := Nat.lt_of_le_of_lt h (by decide +kernel)
theorem atI_in {α : Type} {xs : List α} {i : Int} (h0 : 0 ≤ i) (h : i < (xs.length : Int)) : ∃ x, atI xs i = some x ∧ xs[i.toNat]? = some x ∧ x ∈ xs := by
  have hl : i.toNat < xs.length := by omega
  refine ⟨xs[i.toNat], ?_, List.getElem?_eq_getElem hl, List.getElem_mem hl⟩
  unfold atI L2.ixN
  rw [if_pos h0, if_pos h]
  exact List.getElem?_eq_getElem hl
end VM
namespace VM
open PySem L2
/-! ### small facts -/
theorem p18 : powD (.int 10) (.int 18) = .ok ⟨false, .int 1000000000000000000⟩ := rfl
theorem dT {p : Prop} [Decidable p] (h : p) : decide p = true := decide_eq_true h
theorem dF {p : Prop} [Decidable p] (h : ¬ p) : decide p = false := decide_eq_false h
theorem mul_small {i j : Int} (hi : i.natAbs ≤ 10 ^ 200) (hj : j.natAbs ≤ 10 ^ 200) : mulD (.int i) (.int j) = .ok ⟨false, .int (i * j)⟩ := mul_ok (big4000 hi) (big4000 hj)
theorem div_small {i j : Int} (h : 0 < j) (hj : j.natAbs ≤ 10 ^ 200) : divD (.int i) (.int j) = .ok ⟨false, .int (i / j)⟩ := div_ok h (big4000 hj)
theorem mod_pos {i j : Int} (h : 0 < j) : modD (.int i) (.int j) = .ok ⟨false, .int (i % j)⟩ := mod_ok h
theorem map_int_get {ns : List Int} {i : Nat} {d : D} (h : (ns.map D.int)[i]? = some d) : ∃ x, d = .int x ∧ ns[i]? = some x := by
  rw [List.getElem?_map] at h
  cases e : ns[i]? with
  | none =>
    rw [e] at h
    cases h
  | some x =>
    rw [e] at h
    cases h
    exact ⟨x, rfl, rfl⟩
theorem eqD_int {i j : Int} : eqD (.int i) (.int j) = .ok ⟨false, .bl (i == j)⟩ := by
  simp [eqD, D.cmpOk, D.flat, D.dep, D.eqv, fzO]
theorem neD_int {i j : Int} : neD (.int i) (.int j) = .ok ⟨false, .bl (!(i == j))⟩ := by
  simp [neD, D.cmpOk, D.flat, D.dep, D.eqv, fzO]
theorem eqD_str {i j : List Nat} : eqD (.str i) (.str j) = .ok ⟨false, .bl (i == j)⟩ := by
  simp [eqD, D.cmpOk, D.flat, D.dep, D.eqv, fzO]
theorem neD_str {i j : List Nat} : neD (.str i) (.str j) = .ok ⟨false, .bl (!(i == j))⟩ := by
  simp [neD, D.cmpOk, D.flat, D.dep, D.eqv, fzO]
/-- a list of ints -/
def intsD (ns : List Int) : List D := ns.map .int
end VM
namespace VM
open PySem L2
/-! ### what comes of it -/
structure Kk where
  nx : Ss → Prop
  rt : R → Prop
  bk : Ss → Prop := fun _ => False
  ct : Ss → Prop := fun _ => False
  ex : Str → List (Str × D) → Prop := fun _ _ => False
def WpF (o : SOut) (k : Kk) : Prop := match o with
  | .no => False
  | .nx S => k.nx S
  | .ret r => k.rt r
  | .bk S => k.bk S
  | .ct S => k.ct S
  | .exc _ c fs => k.ex c fs
structure Wp (o : SOut) (k : Kk) : Prop where
  run : WpF o k
def Gives (o : Out R) (P : R → Prop) : Prop := match o with
  | .ok r => P r
  | _ => False
theorem Gives.ex {o : Out R} {P : R → Prop} (h : Gives o P) : ∃ r, o = .ok r ∧ P r := by
  cases o with
  | ok r => exact ⟨r, rfl, h⟩
  | no => exact h.elim
  | exc c fs => exact h.elim
theorem Gives.of {o : Out R} {P : R → Prop} {r : R} (e : o = .ok r) (h : P r) : Gives o P := by
  rw [e]
  exact h
theorem Gives.eq {o : Out R} {r : R} (h : Gives o (fun z => z = r)) : o = .ok r := by
  obtain ⟨z, e, rfl⟩ := h.ex
  exact e
theorem gives_fin {o : SOut} {P : R → Prop} (h : Wp o { nx := fun _ => P ⟨false, .non⟩, rt := P }) : Gives (finO o) P := by
  obtain ⟨h⟩ := h
  cases o <;> exact h
theorem wp_nx {S : Ss} {k : Kk} : Wp (.nx S) k = k.nx S := propext ⟨fun h => h.run, fun h => ⟨h⟩⟩
theorem wp_ret {r : R} {k : Kk} : Wp (.ret r) k = k.rt r := propext ⟨fun h => h.run, fun h => ⟨h⟩⟩
theorem wp_bk {S : Ss} {k : Kk} : Wp (.bk S) k = k.bk S := propext ⟨fun h => h.run, fun h => ⟨h⟩⟩
theorem wp_ct {S : Ss} {k : Kk} : Wp (.ct S) k = k.ct S := propext ⟨fun h => h.run, fun h => ⟨h⟩⟩
/-- a statement, then the rest -/
theorem wp_seq {a b : MS} {S : Ss} {k : Kk} (h : Wp (a S) { k with nx := fun S1 => Wp (b S1) k }) : Wp (seqS a b S) k := by
  unfold seqS
  obtain ⟨h⟩ := h
  cases e : a S with
  | nx S1 =>
    rw [e] at h
    exact h
  | _ =>
    rw [e] at h
    exact ⟨h⟩
theorem wp_if {t : MT} {a b : MS} {S : Ss} {k : Kk} (c : Bool) (ht : t S = .ok c) (h1 : c = true → Wp (a S) k) (h2 : c = false → Wp (b S) k) : Wp (ifS t a b S) k := by
  unfold ifS ofOut
  rw [ht]
  cases c with
  | true => exact h1 rfl
  | false => exact h2 rfl
theorem Wp.imp {o : SOut} {k k' : Kk} (h : Wp o k) (h1 : ∀ S, k.nx S → k'.nx S) (h2 : ∀ r, k.rt r → k'.rt r) (h3 : ∀ S, k.bk S → k'.bk S) (h4 : ∀ S, k.ct S → k'.ct S) (h5 : ∀ c fs, k.ex c fs → k'.ex c fs) : Wp o k' := by
  obtain ⟨h⟩ := h
  cases o with
  | no => exact ⟨h⟩
  | nx S => exact ⟨h1 S h⟩
  | ret r => exact ⟨h2 r h⟩
  | bk S => exact ⟨h3 S h⟩
  | ct S => exact ⟨h4 S h⟩
  | exc S c fs => exact ⟨h5 c fs h⟩
def SOut.tt (o : Option Ss) (b : MS) : SOut := match o with
  | some S => b S
  | none => .no
theorem tt_s {S : Ss} {b : MS} : SOut.tt (some S) b = b S := rfl
/-- a for, by an invariant over the turn -/
theorem wp_foL {ks : List Nat} {tg : D → Ss → Option Ss} {body : MS} {k : Kk} (I : Nat → Ss → Prop) : ∀ (ds : List D) (n : Nat) (S : Ss), I n S →
    (∀ (i : Nat) (d : D) (S : Ss), ds[i]? = some d → I (n + i) S → Wp (SOut.tt (tg d S) body) { nx := fun S2 => I (n + i + 1) (wipeS S2 ks), rt := k.rt, bk := fun S2 => k.nx (wipeS S2 ks), ct := fun S2 => I (n + i + 1) (wipeS S2 ks), ex := k.ex }) →
    (∀ S, I (n + ds.length) S → k.nx S) → Wp (foL ks tg body ds S) k
  | [], n, S, h, _, hd => ⟨hd S h⟩
  | d :: ds, n, S, h, ht, hd => by
    have h1 := ht 0 d S rfl h
    have ih := fun S' (h' : I (n + 1) S') => wp_foL (ks := ks) (tg := tg) (body := body) (k := k) I ds (n + 1) S' h' (fun i e S he hI => by
      have z := ht (i + 1) e S (by simpa using he) (by rw [show n + (i + 1) = n + 1 + i by omega]; exact hI)
      rw [show n + (i + 1) + 1 = n + 1 + i + 1 by omega] at z
      exact z) (fun S hS => hd S (by rw [List.length_cons, show n + (ds.length + 1) = n + 1 + ds.length by omega]; exact hS))
    unfold foL
    cases hg : tg d S with
    | none =>
      rw [hg] at h1
      exact h1.run.elim
    | some S1 =>
      rw [hg] at h1
      simp only
      have h2 := (show Wp (body S1) _ from h1).run
      cases hb : body S1 with
      | no =>
        rw [hb] at h2
        exact ⟨h2⟩
      | nx S2 =>
        rw [hb] at h2
        exact ih _ h2
      | ct S2 =>
        rw [hb] at h2
        exact ih _ h2
      | bk S2 =>
        rw [hb] at h2
        exact ⟨h2⟩
      | ret r =>
        rw [hb] at h2
        exact ⟨h2⟩
      | exc S2 c fs =>
        rw [hb] at h2
        exact ⟨h2⟩
theorem wp_for {ks : List Nat} {tg : D → Ss → Option Ss} {body : MS} {ds : List D} {S : Ss} {k : Kk} (I : Nat → Ss → Prop) (h0 : I 0 S)
    (ht : ∀ (i : Nat) (d : D) (S : Ss), ds[i]? = some d → I i S → Wp (SOut.tt (tg d S) body) { nx := fun S2 => I (i + 1) (wipeS S2 ks), rt := k.rt, bk := fun S2 => k.nx (wipeS S2 ks), ct := fun S2 => I (i + 1) (wipeS S2 ks), ex := k.ex })
    (hd : ∀ S, I ds.length S → k.nx S) : Wp (foL ks tg body ds S) k :=
  wp_foL I ds 0 S h0 (fun i d S e h => by
    rw [Nat.zero_add] at h ⊢
    exact ht i d S e h) fun S h => hd S (by rw [Nat.zero_add] at h; exact h)
/-- a while, by an invariant and a measure -/
theorem wp_whL {ks : List Nat} {t : MT} {body : MS} {k : Kk} (I : Ss → Prop) (μ : Ss → Nat)
    (ht : ∀ S, I S → ∃ b, t S = .ok b ∧ (b = true → Wp (body S) { nx := fun S2 => I (wipeS S2 ks) ∧ μ (wipeS S2 ks) < μ S, rt := k.rt, bk := fun S2 => k.nx (wipeS S2 ks), ct := fun S2 => I (wipeS S2 ks) ∧ μ (wipeS S2 ks) < μ S, ex := k.ex }) ∧ (b = false → k.nx S)) :
    ∀ (n : Nat) (S : Ss), I S → μ S < n → Wp (whL ks t body n S) k
  | 0, S, _, h => absurd h (Nat.not_lt_zero _)
  | n + 1, S, h, hm => by
    obtain ⟨b, e, h1, h2⟩ := ht S h
    unfold whL ofOut
    rw [e]
    cases b with
    | false => exact ⟨h2 rfl⟩
    | true =>
      have h3 := (h1 rfl).run
      simp only [if_true]
      cases hb : body S with
      | no =>
        rw [hb] at h3
        exact ⟨h3⟩
      | nx S2 =>
        rw [hb] at h3
        exact wp_whL I μ ht n _ h3.1 (by have := h3.2; omega)
      | ct S2 =>
        rw [hb] at h3
        exact wp_whL I μ ht n _ h3.1 (by have := h3.2; omega)
      | bk S2 =>
        rw [hb] at h3
        exact ⟨h3⟩
      | ret r =>
        rw [hb] at h3
        exact ⟨h3⟩
      | exc S2 c fs =>
        rw [hb] at h3
        exact ⟨h3⟩
/-- the item of a comprehension -/
def lcV (tg : D → Ss → Option Ss) (te : MV) (S0 : Ss) (d : D) : D := match tg d S0 with
  | some S1 => (match te S1 with
    | .ok x => x
    | _ => .non)
  | none => .non
def Out.te (o : Option Ss) (te : MV) : Out D := match o with
  | some S => te S
  | none => .no
theorem te_s {S : Ss} {te : MV} : Out.te (some S) te = te S := rfl
def GivesD (o : Out D) (P : D → Prop) : Prop := match o with
  | .ok r => P r
  | _ => False
theorem givesD_ok {d : D} {P : D → Prop} : GivesD (.ok d) P = P d := rfl
theorem lcL_gen {tg : D → Ss → Option Ss} {te : MV} {S0 : Ss} {ds : List D} (P : D → Prop) (h : ∀ d ∈ ds, GivesD (Out.te (tg d S0) te) P) : lcL tg mYes te S0 ds = .ok (ds.map (lcV tg te S0)) ∧ ∀ x ∈ ds.map (lcV tg te S0), P x := by
  have k : ∀ d ∈ ds, ∃ S1, tg d S0 = some S1 ∧ te S1 = .ok (lcV tg te S0 d) ∧ P (lcV tg te S0 d) := fun d hd => by
    have z := h d hd
    unfold lcV
    cases hg : tg d S0 with
    | none =>
      rw [hg] at z
      exact z.elim
    | some S1 =>
      rw [hg] at z
      have z2 : GivesD (te S1) P := z
      refine ⟨S1, rfl, ?_⟩
      show te S1 = .ok (match te S1 with | .ok x => x | _ => .non) ∧ P (match te S1 with | .ok x => x | _ => .non)
      cases ht : te S1 with
      | no =>
        rw [ht] at z2
        exact z2.elim
      | exc c fs =>
        rw [ht] at z2
        exact z2.elim
      | ok x =>
        rw [ht] at z2
        exact ⟨rfl, z2⟩
  refine ⟨lcL_map _ ds fun d hd => ?_, fun x hx => ?_⟩
  · obtain ⟨S1, h1, h2, _⟩ := k d hd
    exact ⟨S1, h1, h2⟩
  · obtain ⟨d, hd, rfl⟩ := List.mem_map.mp hx
    obtain ⟨_, _, _, h3⟩ := k d hd
    exact h3
end VM
namespace VM
open PySem L2
/-- a statement, what holds behind it, the rest -/
theorem wp_cut {a b : MS} {S : Ss} {k : Kk} (J : Ss → Prop) (h : Wp (a S) { k with nx := J }) (h2 : ∀ S, J S → Wp (b S) k) : Wp (seqS a b S) k :=
  wp_seq (h.imp h2 (fun _ z => z) (fun _ z => z) (fun _ z => z) fun _ _ z => z)
theorem natAbs_mul_le {i j : Int} {a b : Nat} (hi : i.natAbs ≤ a) (hj : j.natAbs ≤ b) : (i * j).natAbs ≤ a * b := by
  rw [Int.natAbs_mul]
  exact Nat.mul_le_mul hi hj
end VM
namespace VM
open PySem L2
/-! ### texts in lists -/
theorem strs_of {q : List D} {P : List Nat → Prop} (h : ∀ d ∈ q, ∃ z, d = .str z ∧ P z) : ∃ ys : List (List Nat), q = ys.map D.str ∧ ∀ y ∈ ys, P y := by
  induction q with
  | nil => exact ⟨[], rfl, fun _ h => by cases h⟩
  | cons d q ih =>
    obtain ⟨z, rfl, hz⟩ := h d List.mem_cons_self
    obtain ⟨ys, rfl, hy⟩ := ih fun e he => h e (List.mem_cons_of_mem _ he)
    exact ⟨z :: ys, rfl, fun y hm => by
      rcases List.mem_cons.mp hm with rfl | hm
      · exact hz
      · exact hy y hm⟩
theorem jn_len (sep : List Nat) : ∀ (xs : List (List Nat)) (acc : List Nat), (xs.foldl (fun acc p => acc ++ sep ++ p) acc).length = acc.length + ((xs.map (·.length)).sum + xs.length * sep.length)
  | [], acc => by simp
  | x :: xs, acc => by
    rw [List.foldl_cons, jn_len sep xs, List.length_append, List.length_append, List.map_cons, List.sum_cons, List.length_cons, Nat.succ_mul]
    omega
theorem jnL_len (sep : List Nat) (xs : List (List Nat)) : (jnL sep xs).length ≤ (xs.map (·.length)).sum + xs.length * sep.length := by
  unfold jnL
  cases xs with
  | nil => simp
  | cons x xs =>
    show (xs.foldl _ x).length ≤ _
    rw [jn_len, List.map_cons, List.sum_cons, List.length_cons, Nat.succ_mul]
    omega
theorem sum_le {xs : List (List Nat)} {m : Nat} (h : ∀ x ∈ xs, x.length ≤ m) : (xs.map (·.length)).sum ≤ xs.length * m := by
  induction xs with
  | nil => simp
  | cons x xs ih =>
    have h1 := h x List.mem_cons_self
    have h2 := ih fun y hy => h y (List.mem_cons_of_mem _ hy)
    rw [List.map_cons, List.sum_cons, List.length_cons, Nat.succ_mul]
    omega
theorem joinD_l {sep : List Nat} {ys : List (List Nat)} (h : (ys.map (·.length)).sum + ys.length * sep.length ≤ 16000000) : joinD (.str sep) [.lst (ys.map D.str)] = .ok ⟨false, .str (jnL sep ys)⟩ := by
  unfold joinD
  simp only [strsOf_map, optO]
  exact if_pos h
theorem cut_mem {α : Type} {xs : List α} {lo hi : Option Int} {x : α} (h : x ∈ cutL xs lo hi) : x ∈ xs := List.mem_of_mem_drop (List.mem_of_mem_take h)
theorem cutL_le {α : Type} (xs : List α) (lo hi : Option Int) : (cutL xs lo hi).length ≤ xs.length := by
  unfold cutL
  rw [List.length_take, List.length_drop]
  omega
end VM

/-! evaluation, one step a lemma -/
namespace VM
open PySem L2
def SOut.th (o : SOut) (b : MS) : SOut := match o with
  | .nx S => b S
  | o => o
def SOut.st (o : Out R) (S : Ss) (i : Nat) : SOut := ofOut S o fun r => .nx (S.set i (slR r))
def SOut.rt (o : Out R) (S : Ss) : SOut := ofOut S o fun r => .ret r
def SOut.dr (o : Out R) (S : Ss) : SOut := ofOut S o fun _ => .nx S
def SOut.ite (o : Out Bool) (S : Ss) (a b : MS) : SOut := ofOut S o fun k => if k then a S else b S
def SOut.fo (o : Out (List D)) (S : Ss) (ks : List Nat) (tg : D → Ss → Option Ss) (body : MS) : SOut := ofOut S o fun ds => foL ks tg body ds (wipeS S ks)
def SOut.ofO (o : Option Ss) : SOut := match o with
  | some S1 => .nx S1
  | none => .no
def SOut.ag (o : Out D) (S : Ss) (tg : D → Ss → Option Ss) : SOut := ofOut S o fun d => SOut.ofO (tg d S)
def SOut.ap (sl : Option Sl) (o : Out D) (S : Ss) (i : Nat) : SOut := match sl with
  | some (.own (.lst ds)) => ofOut S o fun d => if ds.length < 16000000 then .nx (S.set i (.own (.lst (ds ++ [d])))) else .no
  | _ => .no
def SOut.rv (sl : Option Sl) : SOut := match sl with
  | some (.fz d) => .ret ⟨false, d⟩
  | some (.own d) => .ret ⟨true, d⟩
  | _ => .no
def Sl.look (sl : Option Sl) : Out D := match sl with
  | some (.fz d) => .ok d
  | some (.own d) => .ok d
  | _ => .no
def Sl.read (sl : Option Sl) : Out R := match sl with
  | some (.fz d) => .ok ⟨false, d⟩
  | _ => .no
def Sl.frz (sl : Option Sl) (S : Ss) (i : Nat) : Ss := match sl with
  | some (.own d) => S.set i (.fz d)
  | _ => S
def Out.b2 (a b : Out D) (g : D → D → Out R) : Out R := a.bind fun x => b.bind fun y => g x y
def Out.b3 (a : Out D) (l h : Out (Option Int)) (g : D → Option Int → Option Int → Out R) : Out R := a.bind fun x => l.bind fun l => h.bind fun h => g x l h
def Out.cn (a : Out D) (b : Out (List D)) : Out (List D) := a.bind fun d => b.bind fun ds => .ok (d :: ds)
def Out.zz (a : Out R) : Out D := a.bind fun r => .ok r.d
def Out.tb (a : Out D) : Out Bool := a.bind fun d => match d with
  | .bl b => .ok b
  | _ => .no
def Out.andB (a : Out Bool) (k : MT) (S : Ss) : Out Bool := a.bind fun b => if b then k S else .ok false
def Out.orB (a : Out Bool) (k : MT) (S : Ss) : Out Bool := a.bind fun b => if b then .ok true else k S
def Out.ntB (a : Out Bool) : Out Bool := a.bind fun b => .ok (!b)
def Out.ite (a : Out Bool) (x y : ME) (S : Ss) : Out R := a.bind fun k => if k then x S else y S
def Out.ntV (a : Out D) : Out R := a.bind fun d => match d with
  | .bl b => .ok ⟨false, .bl (!b)⟩
  | _ => .no
def Out.osm (a : Out D) : Out (Option Int) := a.bind fun d => match d with
  | .int i => .ok (some i)
  | _ => .no
def Out.lcF (o : Out (List D)) : Out R := match o with
  | .ok rs => lstD rs
  | _ => .no
def Out.lc (o : Out (List D)) (vs : List Nat) (g : D → Ss → Option Ss) (tt : MT) (te : MV) (S : Ss) : Out R := o.bind fun ds => Out.lcF (lcL g tt te (wipeS S vs) ds)
def Out.mm (a : Out D) (as : Out (List D)) (g : D → List D → Out R) : Out R := a.bind fun x => if isStr x then as.bind fun ds => g x ds else .no
def Out.c3 (r : Out R) (y : D) (h : D → D → Out R) (c : MV) (S : Ss) : Out R := r.bind fun r => match r.d with
  | .bl true => (c S).bind fun z => h y z
  | .bl false => fzO (.bl false)
  | _ => .no
def Out.b3c (a b : Out D) (g h : D → D → Out R) (c : MV) (S : Ss) : Out R := a.bind fun x => b.bind fun y => Out.c3 (g x y) y h c S
section
variable {S : Ss} {a b : MS} {m k x y : ME} {v u w : MV} {t p q : MT} {as : MA} {i : Nat} {is ks vs : List Nat} {g : D → D → Out R} {h : D → D → Out R} {f : List D → Out R} {tg : D → Ss → Option Ss} {r : R} {d e : D} {ds es : List D} {c : Str} {fs : List (Str × D)}
theorem ev_seq (a b : MS) (S : Ss) : seqS a b S = SOut.th (a S) b := rfl
theorem th_nx : SOut.th (.nx S) b = b S := rfl
theorem th_ret : SOut.th (.ret r) b = .ret r := rfl
theorem th_no : SOut.th .no b = .no := rfl
theorem th_bk : SOut.th (.bk S) b = .bk S := rfl
theorem th_ct : SOut.th (.ct S) b = .ct S := rfl
theorem th_exc : SOut.th (.exc S c fs) b = .exc S c fs := rfl
theorem ev_nx : nxS S = .nx S := rfl
theorem ev_bk : bkS S = .bk S := rfl
theorem ev_ct : ctS S = .ct S := rfl
theorem ev_noS : noS S = .no := rfl
theorem ev_as : asS i m S = SOut.st (m S) S i := rfl
theorem st_ok : SOut.st (.ok r) S i = .nx (S.set i (slR r)) := rfl
theorem st_no : SOut.st .no S i = .no := rfl
theorem st_exc : SOut.st (.exc c fs) S i = .exc S c fs := rfl
theorem ev_re : reS m S = SOut.rt (m S) S := rfl
theorem rt_ok : SOut.rt (.ok r) S = .ret r := rfl
theorem rt_no : SOut.rt .no S = .no := rfl
theorem rt_exc : SOut.rt (.exc c fs) S = .exc S c fs := rfl
theorem ev_dr : drS m S = SOut.dr (m S) S := rfl
theorem dr_ok : SOut.dr (.ok r) S = .nx S := rfl
theorem dr_no : SOut.dr .no S = .no := rfl
theorem dr_exc : SOut.dr (.exc c fs) S = .exc S c fs := rfl
theorem ev_if : ifS t a b S = SOut.ite (t S) S a b := rfl
theorem ite_t : SOut.ite (.ok true) S a b = a S := rfl
theorem ite_f : SOut.ite (.ok false) S a b = b S := rfl
theorem ite_no : SOut.ite .no S a b = .no := rfl
theorem ite_exc : SOut.ite (.exc c fs) S a b = .exc S c fs := rfl
theorem ev_fo : foS ks tg as a S = SOut.fo (as S) S ks tg a := rfl
theorem fo_ok : SOut.fo (.ok ds) S ks tg a = foL ks tg a ds (wipeS S ks) := rfl
theorem fo_no : SOut.fo .no S ks tg a = .no := rfl
theorem fo_exc : SOut.fo (.exc c fs) S ks tg a = .exc S c fs := rfl
theorem ev_wh {n : Nat} : whS n ks t a S = whL ks t a n (wipeS S ks) := rfl
theorem ev_ag : agS tg v S = SOut.ag (v S) S tg := rfl
theorem ag_ok : SOut.ag (.ok d) S tg = SOut.ofO (tg d S) := rfl
theorem ag_no : SOut.ag .no S tg = .no := rfl
theorem ag_exc : SOut.ag (.exc c fs) S tg = .exc S c fs := rfl
theorem ofO_s : SOut.ofO (some S) = .nx S := rfl
theorem ofO_n : SOut.ofO none = .no := rfl
theorem ev_ap : apS i v S = SOut.ap S[i]? (v S) S i := rfl
theorem ap_ok : SOut.ap (some (.own (.lst ds))) (.ok d) S i = if ds.length < 16000000 then .nx (S.set i (.own (.lst (ds ++ [d])))) else .no := rfl
theorem ev_rv : rvS i S = SOut.rv S[i]? := rfl
theorem rv_fz : SOut.rv (some (.fz d)) = .ret ⟨false, d⟩ := rfl
theorem rv_own : SOut.rv (some (.own d)) = .ret ⟨true, d⟩ := rfl
theorem ev_rn : rnS S = .ret ⟨false, .non⟩ := rfl
theorem ev_frw : frW is a S = a (frzS S is) := rfl
theorem ev_frz0 : frzS S [] = S := rfl
theorem ev_frzc : frzS S (i :: is) = frzS (Sl.frz S[i]? S i) is := rfl
theorem frz_own : Sl.frz (some (.own d)) S i = S.set i (.fz d) := rfl
theorem frz_fz : Sl.frz (some (.fz d)) S i = S := rfl
theorem frz_no : Sl.frz (some .no) S i = S := rfl
theorem frz_none : Sl.frz none S i = S := rfl
theorem slR_f : slR ⟨false, d⟩ = .fz d := rfl
theorem slR_o : slR ⟨true, d⟩ = .own d := rfl
theorem fin_nx : finO (.nx S) = .ok ⟨false, .non⟩ := rfl
theorem fin_ret : finO (.ret r) = .ok r := rfl
theorem fin_no : finO .no = .no := rfl
theorem fin_exc : finO (.exc S c fs) = .exc c fs := rfl
theorem ev_fzO : fzO d = .ok ⟨false, d⟩ := rfl
theorem ev_owO : owO d = .ok ⟨true, d⟩ := rfl
theorem opt_s {α : Type} {z : α} {l : α → Out R} : optO (some z) l = l z := rfl
theorem opt_n {α : Type} {l : α → Out R} : optO none l = .no := rfl
theorem ev_mZ : mZ m S = Out.zz (m S) := rfl
theorem ev_vE : vE m S = Out.zz (m S) := rfl
theorem zz_ok : Out.zz (.ok r) = .ok r.d := rfl
theorem zz_no : Out.zz .no = .no := rfl
theorem zz_exc : Out.zz (.exc c fs) = .exc c fs := rfl
theorem ev_vv : vVar i S = Sl.look S[i]? := rfl
theorem look_fz : Sl.look (some (.fz d)) = .ok d := rfl
theorem look_own : Sl.look (some (.own d)) = .ok d := rfl
theorem ev_mv : mVar i S = Sl.read S[i]? := rfl
theorem read_fz : Sl.read (some (.fz d)) = .ok ⟨false, d⟩ := rfl
theorem ev_mC : mC d S = .ok ⟨false, d⟩ := rfl
theorem ev_mN : mN f as S = Out.bind (as S) f := rfl
theorem ev_mK {o : Out R} : mK o S = o := rfl
theorem ev_m1 {l : D → Out R} : m1 l v S = Out.bind (v S) l := rfl
theorem ev_m2 : m2 g v u S = Out.b2 (v S) (u S) g := rfl
theorem b2_ok : Out.b2 (.ok d) (.ok e) g = g d e := rfl
theorem b2_no {o : Out D} : Out.b2 .no o g = .no := rfl
theorem b2_no2 : Out.b2 (.ok d) .no g = .no := rfl
theorem ev_m3 : m3 g h v u w S = Out.b3c (v S) (u S) g h w S := rfl
theorem b3c_ok : Out.b3c (.ok d) (.ok e) g h w S = Out.c3 (g d e) e h w S := rfl
theorem c3_t {o : Bool} : Out.c3 (.ok ⟨o, .bl true⟩) e h w S = Out.bind (w S) (h e) := rfl
theorem c3_f {o : Bool} : Out.c3 (.ok ⟨o, .bl false⟩) e h w S = .ok ⟨false, .bl false⟩ := rfl
theorem ev_aNil : aNil S = .ok [] := rfl
theorem ev_aCons : aCons v as S = Out.cn (v S) (as S) := rfl
theorem cn_ok : Out.cn (.ok d) (.ok ds) = .ok (d :: ds) := rfl
theorem ev_mB : mB t S = Out.bind (t S) fun b => .ok ⟨false, .bl b⟩ := rfl
theorem ev_ntV : mNotV v S = Out.ntV (v S) := rfl
theorem ntV_ok {b : Bool} : Out.ntV (.ok (.bl b)) = .ok ⟨false, .bl (!b)⟩ := rfl
theorem ev_mIf : mIf t x y S = Out.ite (t S) x y S := rfl
theorem oite_t : Out.ite (.ok true) x y S = x S := rfl
theorem oite_f : Out.ite (.ok false) x y S = y S := rfl
theorem ev_tB : tB' v S = Out.tb (v S) := rfl
theorem tb_ok {b : Bool} : Out.tb (.ok (.bl b)) = .ok b := rfl
theorem ev_tNot : tNotB t S = Out.ntB (t S) := rfl
theorem ntB_ok {b : Bool} : Out.ntB (.ok b) = .ok (!b) := rfl
theorem ev_tAnd : tAndB t p S = Out.andB (t S) p S := rfl
theorem andB_t : Out.andB (.ok true) p S = p S := rfl
theorem andB_f : Out.andB (.ok false) p S = .ok false := rfl
theorem ev_tOr : tOrB t p S = Out.orB (t S) p S := rfl
theorem orB_t : Out.orB (.ok true) p S = .ok true := rfl
theorem orB_f : Out.orB (.ok false) p S = p S := rfl
theorem ev_mMs {l : D → List D → Out R} : mMs l v as S = Out.mm (v S) (as S) l := rfl
theorem mm_s {l : D → List D → Out R} {z : List Nat} : Out.mm (.ok (.str z)) (.ok ds) l = l (.str z) ds := rfl
theorem ev_mSl {l1 l2 : MO} : mSl v l1 l2 S = Out.b3 (v S) (l1 S) (l2 S) slD := rfl
theorem b3_ok {l h : Option Int} {z : D → Option Int → Option Int → Out R} : Out.b3 (.ok d) (.ok l) (.ok h) z = z d l h := rfl
theorem ev_oN : oNone S = .ok none := rfl
theorem ev_oS : oSome v S = Out.osm (v S) := rfl
theorem osm_ok {j : Int} : Out.osm (.ok (.int j)) = .ok (some j) := rfl
theorem ev_iV : iV v S = Out.bind (v S) itemsD := rfl
theorem ev_iR {l : List D → Out (List D)} : iR l as S = Out.bind (as S) l := rfl
theorem it_l : itemsD (.lst ds) = .ok ds := rfl
theorem it_t : itemsD (.tup ds) = .ok ds := rfl
theorem it_r {ns : List Int} : itemsD (.scr ns) = .ok (ns.map .int) := rfl
theorem it_s {z : List Nat} : itemsD (.str z) = .ok (z.map fun c => .str [c]) := rfl
theorem ev_mLc : mLc vs tg as t v S = Out.lc (as S) vs tg t v S := rfl
theorem lc_ok : Out.lc (.ok ds) vs tg t v S = Out.lcF (lcL tg t v (wipeS S vs) ds) := rfl
theorem lcF_ok : Out.lcF (.ok ds) = lstD ds := rfl
theorem ev_gN : gN i d S = some (S.set i (.fz d)) := rfl
theorem ev_gT {l : List D → Ss → Option Ss} : gT l (.tup ds) S = l ds S := rfl
theorem ev_gs0 : gsNil [] S = some S := rfl
theorem ev_gsC {l : List D → Ss → Option Ss} : gsCons tg l (d :: ds) S = (tg d S).bind (l ds) := rfl
theorem obind_s {α β : Type} {z : α} {l : α → Option β} : Option.bind (some z) l = l z := rfl
theorem ev_w0 : wipeS S [] = S := rfl
theorem ev_wc : wipeS S (i :: is) = (wipeS S is).set i .no := rfl
theorem ev_in0 : inS 0 [] = [] := rfl
theorem d_add {i j : Int} : addD (.int i) (.int j) = .ok ⟨false, .int (i + j)⟩ := rfl
theorem d_sub {i j : Int} : subD (.int i) (.int j) = .ok ⟨false, .int (i - j)⟩ := rfl
theorem d_adds {x y : List Nat} : addD (.str x) (.str y) = if x.length + y.length ≤ 16000000 then .ok ⟨false, .str (x ++ y)⟩ else .no := rfl
theorem d_addl {x y : List D} : addD (.lst x) (.lst y) = if x.length + y.length ≤ 16000000 then .ok ⟨true, .lst (x ++ y)⟩ else .no := rfl
theorem d_addt {x y : List D} : addD (.tup x) (.tup y) = if x.length + y.length ≤ 16000000 then .ok ⟨false, .tup (x ++ y)⟩ else .no := rfl
theorem d_neg {i : Int} : negD (.int i) = .ok ⟨false, .int (-i)⟩ := rfl
theorem d_lt {i j : Int} : ltD (.int i) (.int j) = .ok ⟨false, .bl (decide (i < j))⟩ := rfl
theorem d_le {i j : Int} : leD (.int i) (.int j) = .ok ⟨false, .bl (decide (i ≤ j))⟩ := rfl
theorem d_gt {i j : Int} : gtD (.int i) (.int j) = .ok ⟨false, .bl (decide (j < i))⟩ := rfl
theorem d_ge {i j : Int} : geD (.int i) (.int j) = .ok ⟨false, .bl (decide (j ≤ i))⟩ := rfl
theorem d_isn {neg : Bool} : isD neg d .non = .ok ⟨false, .bl (xor neg (isNon d))⟩ := rfl
theorem d_isb {neg a b : Bool} : isD neg (.bl a) (.bl b) = .ok ⟨false, .bl (xor neg (decide (a = b)))⟩ := rfl
theorem n_non : isNon .non = true := rfl
theorem n_int {z : Int} : isNon (.int z) = false := rfl
theorem n_str {z : List Nat} : isNon (.str z) = false := rfl
theorem n_bl {z : Bool} : isNon (.bl z) = false := rfl
theorem n_tup {z : List D} : isNon (.tup z) = false := rfl
theorem n_lst {z : List D} : isNon (.lst z) = false := rfl
theorem d_lenl : lenD [.lst ds] = .ok ⟨false, .int ds.length⟩ := rfl
theorem d_lent : lenD [.tup ds] = .ok ⟨false, .int ds.length⟩ := rfl
theorem d_lenr {ns : List Int} : lenD [.scr ns] = .ok ⟨false, .int ns.length⟩ := rfl
theorem d_lens {z : List Nat} : lenD [.str z] = if z.length ≤ 16000000 then .ok ⟨false, .int z.length⟩ else .no := rfl
theorem d_int {i : Int} : intD [.int i] = .ok ⟨false, .int i⟩ := rfl
theorem d_intb {b : Bool} : intD [.bl b] = .ok ⟨false, .int (if b then 1 else 0)⟩ := rfl
theorem d_min {i j : Int} : minD [.int i, .int j] = .ok ⟨false, .int (if j < i then j else i)⟩ := rfl
theorem d_max {i j : Int} : maxD [.int i, .int j] = .ok ⟨false, .int (if j > i then j else i)⟩ := rfl
theorem d_tupl : tupleD [.lst ds] = .ok ⟨false, .tup ds⟩ := rfl
theorem d_tupt : tupleD [.tup ds] = .ok ⟨false, .tup ds⟩ := rfl
theorem d_listl : listD [.lst ds] = .ok ⟨true, .lst ds⟩ := rfl
theorem d_listt : listD [.tup ds] = .ok ⟨true, .lst ds⟩ := rfl
theorem d_tupD : tupD ds = if ds.length ≤ 16000000 then .ok ⟨false, .tup ds⟩ else .no := rfl
theorem d_lstD : lstD ds = if ds.length ≤ 16000000 then .ok ⟨true, .lst ds⟩ else .no := rfl
theorem d_ixl {j : Int} : ixD (.lst ds) (.int j) = optO (atI ds j) fzO := rfl
theorem d_ixt {j : Int} : ixD (.tup ds) (.int j) = optO (atI ds j) fzO := rfl
theorem d_ixr {ns : List Int} {j : Int} : ixD (.scr ns) (.int j) = optO (atI ns j) fun n => fzO (.int n) := rfl
theorem d_ixs {z : List Nat} {j : Int} : ixD (.str z) (.int j) = if z.length ≤ 16000000 then optO (atI z j) fun c => fzO (.str [c]) else .no := rfl
theorem d_sll {lo hi : Option Int} : slD (.lst ds) lo hi = .ok ⟨true, .lst (cutL ds lo hi)⟩ := rfl
theorem d_slt {lo hi : Option Int} : slD (.tup ds) lo hi = .ok ⟨false, .tup (cutL ds lo hi)⟩ := rfl
theorem d_sls {z : List Nat} {lo hi : Option Int} : slD (.str z) lo hi = if z.length ≤ 16000000 then .ok ⟨false, .str (cutL z lo hi)⟩ else .no := rfl
theorem d_rng1 {n : Int} : rng1 [.int n] = if -1000000000 ≤ n ∧ n ≤ 1000000000 then .ok (rangeL 0 n.toNat) else .no := rfl
theorem d_rng2 {n m : Int} : rng2 [.int n, .int m] = if -1000000000 ≤ n ∧ n ≤ 1000000000 ∧ -1000000000 ≤ m ∧ m ≤ 1000000000 then .ok (rangeL n (m - n).toNat) else .no := rfl
end
end VM

local macro_rules | `(tactic| walk_at "vm") => `(tactic| simp only [VM.ev_seq, VM.th_nx, VM.th_ret, VM.th_no, VM.th_bk, VM.th_ct, VM.th_exc, VM.ev_nx, VM.ev_bk, VM.ev_ct, VM.ev_noS, VM.ev_as, VM.st_ok, VM.st_no, 
  VM.st_exc, VM.ev_re, VM.rt_ok, VM.rt_no, VM.rt_exc, VM.ev_dr, VM.dr_ok, VM.dr_no, VM.dr_exc, VM.ev_if, VM.ite_t, VM.ite_f, VM.ite_no, VM.ite_exc, 
  VM.ev_fo, VM.fo_ok, VM.fo_no, VM.fo_exc, VM.ev_wh, VM.ev_ag, VM.ag_ok, VM.ag_no, VM.ag_exc, VM.ofO_s, VM.ofO_n, VM.ev_ap, VM.ap_ok, VM.ev_rv, VM.rv_fz, 
  VM.rv_own, VM.ev_rn, VM.ev_frw, VM.ev_frz0, VM.ev_frzc, VM.frz_own, VM.frz_fz, VM.frz_no, VM.frz_none, VM.slR_f, VM.slR_o, VM.fin_nx, VM.fin_ret, 
  VM.fin_no, VM.fin_exc, VM.ev_fzO, VM.ev_owO, VM.opt_s, VM.opt_n, VM.ev_mZ, VM.ev_vE, VM.zz_ok, VM.zz_no, VM.zz_exc, VM.ev_vv, VM.look_fz, VM.look_own, 
  VM.ev_mv, VM.read_fz, VM.ev_mC, VM.ev_mN, VM.ev_mK, VM.ev_m1, VM.ev_m2, VM.b2_ok, VM.b2_no, VM.b2_no2, VM.ev_m3, VM.b3c_ok, VM.c3_t, VM.c3_f, 
  VM.ev_aNil, VM.ev_aCons, VM.cn_ok, VM.ev_mB, VM.ev_ntV, VM.ntV_ok, VM.ev_mIf, VM.oite_t, VM.oite_f, VM.ev_tB, VM.tb_ok, VM.ev_tNot, VM.ntB_ok, 
  VM.ev_tAnd, VM.andB_t, VM.andB_f, VM.ev_tOr, VM.orB_t, VM.orB_f, VM.ev_mMs, VM.mm_s, VM.ev_mSl, VM.b3_ok, VM.ev_oN, VM.ev_oS, VM.osm_ok, VM.ev_iV, 
  VM.ev_iR, VM.it_l, VM.it_t, VM.it_r, VM.it_s, VM.ev_mLc, VM.lc_ok, VM.lcF_ok, VM.ev_gN, VM.ev_gT, VM.ev_gs0, VM.ev_gsC, VM.obind_s, VM.ev_w0, VM.ev_wc, 
  VM.wp_nx, VM.wp_ret, VM.wp_bk, VM.wp_ct, VM.tt_s, VM.te_s, VM.givesD_ok, VM.ev_in0, VM.d_add, VM.d_sub, VM.d_adds, VM.d_addl, VM.d_addt, VM.d_neg, 
  VM.d_lt, VM.d_le, VM.d_gt, VM.d_ge, VM.d_isn, VM.d_isb, VM.n_non, VM.n_int, VM.n_str, VM.n_bl, VM.n_tup, VM.n_lst, VM.d_lenl, VM.d_lent, VM.d_lenr, 
  VM.d_lens, VM.d_int, VM.d_intb, VM.d_min, VM.d_max, VM.d_tupl, VM.d_tupt, VM.d_listl, VM.d_listt, VM.d_tupD, VM.d_lstD, VM.d_ixl, VM.d_ixt, VM.d_ixr, 
  VM.d_ixs, VM.d_sll, VM.d_slt, VM.d_sls, VM.d_rng1, VM.d_rng2, VM.inS, VM.Out.bind_ok, VM.Out.bind_no, VM.Out.bind_exc, List.map_cons, List.map_nil, 
  List.length_cons, List.length_nil, List.replicate, List.cons_append, List.nil_append, List.append_nil, List.set_cons_zero, List.set_cons_succ, 
  List.getElem?_cons_zero, List.getElem?_cons_succ, List.getElem?_nil, Bool.false_eq_true, if_true, if_false, ite_true, ite_false, Bool.true_and, 
  Bool.false_and, Bool.and_true, Bool.and_false, Bool.not_true, Bool.not_false, Bool.false_xor, Bool.true_xor, decide_true, decide_false, reduceCtorEq, 
  Nat.reduceSub, Nat.reduceAdd, Nat.reduceLeDiff, Nat.sub_self, Nat.sub_zero])

/-! printed by gen.py: the readings of the defs -/
namespace Sh
open PySem VM
def c_LONGEST_NAME_c9f0 : D := .int 8
def c_RESERVED_d93c : D := .tup [.str [97, 110, 100], .str [97, 110, 115, 119, 101, 114], .str [97, 110, 115, 119, 101, 114, 115], .str [98, 101, 103, 105, 110], .str [98, 111, 111, 107], .str [99, 97, 115, 101], .str [99, 101, 108, 108], .str [100, 105, 118], .str [100, 111], .str [101, 108, 115, 101], .str [101, 110, 100], .str [102, 97, 105, 108], .str [102, 105, 110, 103, 101, 114], .str [102, 114, 111, 109], .str [103, 105, 118, 101, 110], .str [104, 101, 108, 112, 101, 114], .str [105, 102], .str [108, 105, 110, 101], .str [109, 97, 114, 107], .str [109, 111, 100], .str [110, 111, 116], .str [111, 114], .str [112, 105, 99, 107], .str [112, 108, 97, 99, 101, 115], .str [112, 114, 111, 99, 101, 100, 117, 114, 101], .str [112, 114, 111, 103, 114, 97, 109], .str [115, 101, 116], .str [115, 116, 111, 112], .str [116, 111], .str [119, 104, 101, 110], .str [119, 104, 105, 108, 101]]
def c_LETTERS_5792 : D := .str [97, 98, 99, 100, 101, 102, 103, 104, 105, 106, 107, 108, 109, 110, 111, 112, 113, 114, 115, 116, 117, 118, 119, 120, 121, 122]
def c_DIGITS_f364 : D := .str [48, 49, 50, 51, 52, 53, 54, 55, 56, 57]
/-- is_name -/
def m_is_name_23e0c : MS :=
    (seqS (ifS (tOrB (tNotB (tB' (mZ (m3 leD leD (vE (mC (.int 1))) (vE (mN lenD (aCons (vVar 0) aNil))) (vE (mC c_LONGEST_NAME_c9f0)))))) (tB' (mZ (m2 (inD false) (vVar 0) (vE (mC c_RESERVED_d93c)))))) (reS (mC (.bl false))) nxS)
    (seqS (foS [1] (gN 1) (iV (mZ (mVar 0))) (ifS (tAndB (tB' (mZ (m2 (inD true) (vVar 1) (vE (mC c_LETTERS_5792))))) (tB' (mZ (m2 (inD true) (vVar 1) (vE (mC c_DIGITS_f364)))))) (reS (mC (.bl false))) nxS))
    (reS (m2 (inD false) (vE (m2 ixD (vVar 0) (vE (mC (.int 0))))) (vE (mC c_LETTERS_5792))))))
def g_is_name_23e0c (ds : List D) : Out R := finO (m_is_name_23e0c (inS 2 ds))
/-- _law_cell -/
def m__law_cell_53b2e : MS :=
    (seqS (ifS (tAndB (tB' (mZ (m2 ltD (vVar 1) (vE (mN lenD (aCons (vVar 0) aNil)))))) (tB' (mZ (m2 geD (vE (m2 ixD (vVar 0) (vVar 1))) (vE (m2 powD (vE (mC (.int 10))) (vE (mC (.int 18))))))))) (reS (m2 ixD (vVar 0) (vVar 1))) nxS)
    (seqS (asS 2 (mC (.int 17)))
    (seqS (foS [3] (gN 3) (iV (mZ (mVar 0))) (asS 2 (m2 modD (vE (mN intD (aCons (vE (m2 addD (vE (m2 mulD (vVar 2) (vE (mC (.int 31))))) (vE (m2 modD (vE (mN intD (aCons (vVar 3) aNil))) (vE (mC (.int 1000003))))))) aNil))) (vE (mC (.int 1000003))))))
    (reS (m2 modD (vE (mN intD (aCons (vE (m2 mulD (vE (m2 mulD (vE (m2 addD (vVar 2) (vE (mC (.int 7))))) (vE (m2 addD (vVar 1) (vE (mC (.int 3))))))) (vE (mC (.int 69621))))) aNil))) (vE (mC (.int 2147483647))))))))
def g__law_cell_53b2e (ds : List D) : Out R := finO (m__law_cell_53b2e (inS 4 ds))
/-- _law_digits -/
def m__law_digits_c35f8 : MS :=
    (seqS (asS 2 (mN lstD aNil))
    (seqS (asS 3 (mN intD (aCons (vVar 0) aNil)))
    (seqS (ifS (tB' (mZ (m2 geD (vVar 3) (vE (m2 powD (vE (mC (.int 10))) (vE (mC (.int 18)))))))) (seqS (asS 3 (m2 subD (vVar 3) (vE (m2 powD (vE (mC (.int 10))) (vE (mC (.int 18)))))))
    (seqS (foS [4] (gN 4) (iV (mZ (mVar 1))) (seqS (apS 2 (mZ (m2 modD (vE (mN intD (aCons (vVar 3) aNil))) (vVar 4))))
    (asS 3 (m2 divD (vE (mN intD (aCons (vVar 3) aNil))) (vVar 4)))))
    (rvS 2))) nxS)
    (seqS (asS 5 (m2 modD (vE (mN intD (aCons (vVar 3) aNil))) (vE (mC (.int 2147483629)))))
    (seqS (foS [6, 7] (gN 6) (iR rng1 (aCons (vE (mN lenD (aCons (vVar 1) aNil))) aNil)) (seqS (asS 5 (m2 modD (vE (mN intD (aCons (vE (m2 addD (vE (m2 addD (vE (m2 mulD (vVar 5) (vE (mC (.int 48271))))) (vE (m2 mulD (vE (mC (.int 974711))) (vVar 6))))) (vE (mC (.int 12345))))) aNil))) (vE (mC (.int 2147483647)))))
    (seqS (asS 7 (m2 modD (vE (mN intD (aCons (vE (m2 mulD (vVar 5) (vE (m2 addD (vE (m2 divD (vVar 5) (vE (mC (.int 65537))))) (vE (mC (.int 3))))))) aNil))) (vE (mC (.int 2147483629)))))
    (apS 2 (mZ (m2 modD (vE (m2 divD (vVar 7) (vE (mC (.int 19))))) (vE (m2 ixD (vVar 1) (vVar 6)))))))))
    (rvS 2))))))
def g__law_digits_c35f8 (ds : List D) : Out R := finO (m__law_digits_c35f8 (inS 8 ds))
/-- _law_reserved -/
def m__law_reserved_f5be3 : MS :=
    (seqS (asS 0 (mC (.str [97, 110, 100, 32, 97, 110, 115, 119, 101, 114, 32, 97, 110, 115, 119, 101, 114, 115, 32, 98, 101, 103, 105, 110, 32, 98, 111, 111, 107, 32, 99, 97, 115, 101, 32, 99, 101, 108, 108, 32, 100, 105, 118, 32, 100, 111, 32, 101, 108, 115, 101, 32, 101, 110, 100, 32, 102, 97, 105, 108, 32, 102, 105, 110, 103, 101, 114, 32, 102, 114, 111, 109, 32, 103, 105, 118, 101, 110, 32, 104, 101, 108, 112, 101, 114, 32, 105, 102, 32, 108, 105, 110, 101, 32, 109, 97, 114, 107, 32, 109, 111, 100, 32, 110, 111, 116])))
    (seqS (asS 0 (m2 addD (vVar 0) (vE (mC (.str [32, 111, 114, 32, 112, 105, 99, 107, 32, 112, 108, 97, 99, 101, 115, 32, 112, 114, 111, 99, 101, 100, 117, 114, 101, 32, 112, 114, 111, 103, 114, 97, 109, 32, 115, 101, 116, 32, 115, 116, 111, 112, 32, 116, 111, 32, 119, 104, 101, 110, 32, 119, 104, 105, 108, 101])))))
    (reS (mMs splitD (vVar 0) (aCons (vE (mC (.str [32]))) aNil)))))
def g__law_reserved_f5be3 (ds : List D) : Out R := finO (m__law_reserved_f5be3 (inS 1 ds))
/-- _law_char -/
def m__law_char_12f06 : MS :=
    (seqS (asS 1 (mC (.str [32, 33, 34, 35, 36, 38, 39, 40, 41, 42, 43, 44, 45, 46, 47, 48, 49, 50, 51, 52, 53, 54, 55, 56, 57, 58, 59, 60, 61, 62, 63, 64, 65, 66, 67, 68, 69, 70, 71, 72, 73, 74, 75, 76, 77, 78, 79, 80, 81, 82, 83, 84, 85, 86, 87, 88, 89, 90, 91, 92, 93, 94, 95, 96])))
    (seqS (asS 1 (m2 addD (vVar 1) (vE (mC (.str [97, 98, 99, 100, 101, 102, 103, 104, 105, 106, 107, 108, 109, 110, 111, 112, 113, 114, 115, 116, 117, 118, 119, 120, 121, 122, 123, 124, 125, 126, 10])))))
    (reS (m2 ixD (vVar 1) (vE (m2 modD (vE (mN intD (aCons (vVar 0) aNil))) (vE (mC (.int 95)))))))))
def g__law_char_12f06 (ds : List D) : Out R := finO (m__law_char_12f06 (inS 2 ds))
/-- _law_sign -/
def m__law_sign_805c8 : MS :=
    (seqS (asS 1 (mC (.str [97, 98, 99, 100, 101, 102, 103, 104, 105, 106, 107, 108, 109, 110, 111, 112, 113, 114, 115, 116, 117, 118, 119, 120, 121, 122, 48, 49, 50, 51, 52, 53, 54, 55, 56, 57])))
    (reS (m2 ixD (vVar 1) (vE (m2 modD (vE (mN intD (aCons (vVar 0) aNil))) (vE (mC (.int 36))))))))
def g__law_sign_805c8 (ds : List D) : Out R := finO (m__law_sign_805c8 (inS 2 ds))
/-- _law_changed -/
def m__law_changed_d4b0e : MS :=
    (seqS (ifS (tB' (mZ (mVar 3))) (reS (m2 addD (vE (m2 addD (vE (mSl (vVar 0) oNone (oSome (vVar 1)))) (vVar 2))) (vE (mSl (vVar 0) (oSome (vVar 1)) oNone)))) nxS)
    (reS (m2 addD (vE (m2 addD (vE (mSl (vVar 0) oNone (oSome (vVar 1)))) (vVar 2))) (vE (mSl (vVar 0) (oSome (vE (m2 addD (vVar 1) (vE (mC (.int 1)))))) oNone)))))
def g__law_changed_d4b0e (ds : List D) : Out R := finO (m__law_changed_d4b0e (inS 4 ds))
/-- _law_text -/
def m__law_text_0d91b : MS :=
    (seqS (asS 1 (mN g__law_digits_c35f8 (aCons (mZ (mVar 0)) (aCons (mZ (m2 addD (vE (mN lstD (aCons (mZ (mC (.int 4))) (aCons (mZ (mC (.int 10))) (aCons (mZ (mC (.int 26))) (aCons (mZ (mC (.int 10))) (aCons (mZ (mC (.int 95))) (aCons (mZ (mC (.int 2))) (aCons (mZ (mC (.int 380))) aNil))))))))) (vE (m2 mulD (vE (mN lstD (aCons (mZ (mC (.int 95))) aNil))) (vE (mC (.int 10))))))) aNil))))
    (seqS (asS 2 (mN g__law_sign_805c8 (aCons (mZ (m2 ixD (vVar 1) (vE (mC (.int 2))))) aNil)))
    (seqS (foS [3] (gN 3) (iR rng1 (aCons (vE (m2 ixD (vVar 1) (vE (mC (.int 1))))) aNil)) (asS 2 (m2 addD (vVar 2) (vE (mN g__law_sign_805c8 (aCons (mZ (m2 ixD (vVar 1) (vE (m2 addD (vE (mC (.int 7))) (vVar 3))))) aNil))))))
    (seqS (ifS (tB' (mZ (m2 eqD (vE (m2 ixD (vVar 1) (vE (mC (.int 0))))) (vE (mC (.int 1)))))) (frW [2] (asS 2 (mN g__law_changed_d4b0e (aCons (mZ (mVar 2)) (aCons (mZ (m2 modD (vE (mN intD (aCons (vE (m2 ixD (vVar 1) (vE (mC (.int 3))))) aNil))) (vE (mN lenD (aCons (vVar 2) aNil))))) (aCons (mZ (mN g__law_char_12f06 (aCons (mZ (m2 ixD (vVar 1) (vE (mC (.int 4))))) aNil))) (aCons (mZ (m2 eqD (vE (m2 ixD (vVar 1) (vE (mC (.int 5))))) (vE (mC (.int 1))))) aNil))))))) nxS)
    (seqS (ifS (tB' (mZ (m2 eqD (vE (m2 ixD (vVar 1) (vE (mC (.int 0))))) (vE (mC (.int 2)))))) (asS 2 (mMs joinD (vE (mC (.str []))) (aCons (vE (mSl (vE (mLc [3] (gN 3) (iR rng1 (aCons (vE (m2 addD (vE (m2 ixD (vVar 1) (vE (mC (.int 1))))) (vE (m2 ixD (vVar 1) (vE (mC (.int 5))))))) aNil)) mYes (mZ (mN g__law_char_12f06 (aCons (mZ (m2 ixD (vVar 1) (vE (m2 addD (vE (mC (.int 7))) (vVar 3))))) aNil))))) oNone (oSome (vE (mC (.int 10)))))) aNil))) nxS)
    (seqS (ifS (tB' (mZ (m2 eqD (vE (m2 ixD (vVar 1) (vE (mC (.int 0))))) (vE (mC (.int 3)))))) (foS [3] (gN 3) (iR rng1 (aCons (vE (m2 subD (vE (m2 addD (vE (mC (.int 19))) (vE (m2 ixD (vVar 1) (vE (mC (.int 6))))))) (vE (m2 ixD (vVar 1) (vE (mC (.int 1))))))) aNil)) (asS 2 (m2 addD (vVar 2) (vE (mN g__law_sign_805c8 (aCons (mZ (m2 addD (vE (m2 ixD (vVar 1) (vE (m2 addD (vE (mC (.int 7))) (vE (m2 modD (vVar 3) (vE (mC (.int 10))))))))) (vE (m2 divD (vVar 3) (vE (mC (.int 10))))))) aNil)))))) nxS)
    (rvS 2)))))))
def g__law_text_0d91b (ds : List D) : Out R := finO (m__law_text_0d91b (inS 4 ds))
/-- _law_near -/
def m__law_near_affea : MS :=
    (seqS (asS 1 (mN g__law_digits_c35f8 (aCons (mZ (mVar 0)) (aCons (mZ (mN lstD (aCons (mZ (mC (.int 31))) (aCons (mZ (mC (.int 9))) (aCons (mZ (mC (.int 95))) (aCons (mZ (mC (.int 36))) aNil)))))) aNil))))
    (seqS (asS 2 (m2 ixD (vE (mK (g__law_reserved_f5be3 []))) (vE (m2 ixD (vVar 1) (vE (mC (.int 0)))))))
    (seqS (asS 3 (m2 modD (vE (mN intD (aCons (vE (m2 ixD (vVar 1) (vE (mC (.int 1))))) aNil))) (vE (mN lenD (aCons (vVar 2) aNil)))))
    (seqS (frW [2] (asS 4 (mN lstD (aCons (mZ (mVar 2)) (aCons (mZ (m2 addD (vVar 2) (vE (mN g__law_char_12f06 (aCons (mZ (m2 ixD (vVar 1) (vE (mC (.int 2))))) aNil))))) (aCons (mZ (m2 addD (vVar 2) (vE (mN g__law_sign_805c8 (aCons (mZ (m2 ixD (vVar 1) (vE (mC (.int 3))))) aNil))))) (aCons (mZ (m2 addD (vE (mN g__law_char_12f06 (aCons (mZ (m2 ixD (vVar 1) (vE (mC (.int 2))))) aNil))) (vVar 2))) aNil)))))))
    (seqS (asS 4 (m2 addD (vVar 4) (vE (mN lstD (aCons (mZ (m2 addD (vE (mN g__law_sign_805c8 (aCons (mZ (m2 ixD (vVar 1) (vE (mC (.int 3))))) aNil))) (vVar 2))) (aCons (mZ (mSl (vVar 2) (oSome (vE (mC (.int 1)))) oNone)) (aCons (mZ (mSl (vVar 2) oNone (oSome (vE (m2 subD (vE (mN lenD (aCons (vVar 2) aNil))) (vE (mC (.int 1)))))))) aNil)))))))
    (seqS (frW [2] (apS 4 (mZ (mN g__law_changed_d4b0e (aCons (mZ (mVar 2)) (aCons (mZ (mVar 3)) (aCons (mZ (mN g__law_char_12f06 (aCons (mZ (m2 ixD (vVar 1) (vE (mC (.int 2))))) aNil))) (aCons (mZ (mC (.bl false))) aNil))))))))
    (seqS (frW [2] (apS 4 (mZ (mN g__law_changed_d4b0e (aCons (mZ (mVar 2)) (aCons (mZ (mVar 3)) (aCons (mZ (mN g__law_sign_805c8 (aCons (mZ (m2 ixD (vVar 1) (vE (mC (.int 3))))) aNil))) (aCons (mZ (mC (.bl false))) aNil))))))))
    (rvS 4))))))))
def g__law_near_affea (ds : List D) : Out R := finO (m__law_near_affea (inS 5 ds))
/-- _law_due -/
def m__law_due_a602c : MS :=
    (seqS (asS 1 (mC (.str [97, 98, 99, 100, 101, 102, 103, 104, 105, 106, 107, 108, 109, 110, 111, 112, 113, 114, 115, 116, 117, 118, 119, 120, 121, 122])))
    (seqS (asS 2 (mC (.str [48, 49, 50, 51, 52, 53, 54, 55, 56, 57])))
    (seqS (ifS (tOrB (tB' (mZ (m2 ltD (vE (mN lenD (aCons (vVar 0) aNil))) (vE (mC (.int 1)))))) (tOrB (tB' (mZ (m2 gtD (vE (mN lenD (aCons (vVar 0) aNil))) (vE (mC (.int 8)))))) (tB' (mZ (m2 (inD false) (vVar 0) (vE (mK (g__law_reserved_f5be3 [])))))))) (reS (mC (.bl false))) nxS)
    (seqS (foS [3] (gN 3) (iV (mZ (mVar 0))) (ifS (tAndB (tB' (mZ (m2 (inD true) (vVar 3) (vVar 1)))) (tB' (mZ (m2 (inD true) (vVar 3) (vVar 2))))) (reS (mC (.bl false))) nxS))
    (reS (m2 (inD false) (vE (m2 ixD (vVar 0) (vE (mC (.int 0))))) (vVar 1)))))))
def g__law_due_a602c (ds : List D) : Out R := finO (m__law_due_a602c (inS 4 ds))
/-- _law_told -/
def m__law_told_3496c : MS :=
    (seqS (ifS (tB' (mZ (mN g__law_due_a602c (aCons (mZ (mVar 0)) aNil)))) (reS (m2 (isD false) (vE (mN g_is_name_23e0c (aCons (mZ (mVar 0)) aNil))) (vE (mC (.bl true))))) nxS)
    (reS (m2 (isD false) (vE (mN g_is_name_23e0c (aCons (mZ (mVar 0)) aNil))) (vE (mC (.bl false))))))
def g__law_told_3496c (ds : List D) : Out R := finO (m__law_told_3496c (inS 1 ds))
/-- law -/
def m_law_b6ead : MS :=
    (seqS (asS 1 (mN g__law_text_0d91b (aCons (mZ (mN g__law_cell_53b2e (aCons (mZ (mVar 0)) (aCons (mZ (mC (.int 0))) aNil)))) aNil)))
    (seqS (asS 2 (mLc [3] (gN 3) (iR rng1 (aCons (vE (m2 addD (vE (mN minD (aCons (vE (mC (.int 12))) (aCons (vE (mN lenD (aCons (vVar 1) aNil))) aNil)))) (vE (mC (.int 1))))) aNil)) mYes (mZ (mSl (vVar 1) oNone (oSome (vVar 3))))))
    (seqS (frW [1] (apS 2 (mZ (mVar 1))))
    (seqS (foS [3] (gN 3) (iR rng1 (aCons (vE (mC (.int 3))) aNil)) (asS 2 (m2 addD (vVar 2) (vE (mN g__law_near_affea (aCons (mZ (mN g__law_cell_53b2e (aCons (mZ (mVar 0)) (aCons (mZ (m2 addD (vE (mC (.int 1))) (vVar 3))) aNil)))) aNil))))))
    (seqS (frW [2] (foS [4] (gN 4) (iV (mZ (mVar 2))) (ifS (tNotB (tB' (mZ (mN g__law_told_3496c (aCons (mZ (mVar 4)) aNil))))) (reS (mC (.bl false))) nxS)))
    (seqS (frW [2] (foS [4] (gN 4) (iV (mZ (mVar 2))) (ifS (tNotB (tB' (mZ (mN g__law_told_3496c (aCons (mZ (mVar 4)) aNil))))) (reS (mC (.bl false))) nxS)))
    (reS (mC (.bl true)))))))))
def g_law_b6ead (ds : List D) : Out R := finO (m_law_b6ead (inS 5 ds))
end Sh

namespace Sh
open PySem VM L2
theorem cell53_ok (ns : List Int) (k : Int) (h0 : 0 ≤ k) (h1 : k ≤ 1000000000) : ∃ z, g__law_cell_53b2e [.scr ns, .int k] = .ok ⟨false, .int z⟩ := by
  suffices h : Gives (g__law_cell_53b2e [.scr ns, .int k]) (fun r => ∃ z, r = ⟨false, .int z⟩) by
    obtain ⟨r, e, z, rfl⟩ := h.ex
    exact ⟨z, e⟩
  unfold g__law_cell_53b2e m__law_cell_53b2e
  refine gives_fin ?_
  refine wp_cut (fun S => S = [.fz (.scr ns), .fz (.int k), .no, .no]) ?_ ?_
  · by_cases h : k < (ns.length : Int)
    · obtain ⟨x, hx, _⟩ := atI_in h0 h
      walk_at "vm"
      rw [dT h]
      walk_at "vm"
      rw [hx, p18]
      walk_at "vm"
      by_cases h2 : (1000000000000000000 : Int) ≤ x
      · rw [dT h2]
        walk_at "vm"
        rw [hx]
        walk_at "vm"
        exact ⟨x, rfl⟩
      · rw [dF h2]
        walk_at "vm"
    · walk_at "vm"
      rw [dF h]
      walk_at "vm"
  rintro _ rfl
  refine wp_cut (fun S => S = [.fz (.scr ns), .fz (.int k), .fz (.int 17), .no]) ?_ ?_
  · walk_at "vm"
  rintro _ rfl
  refine wp_cut (fun S => ∃ s : Int, 0 ≤ s ∧ s < 1000003 ∧ S = [.fz (.scr ns), .fz (.int k), .fz (.int s), .no]) ?_ ?_
  · walk_at "vm"
    refine wp_for (fun _ S => ∃ s : Int, 0 ≤ s ∧ s < 1000003 ∧ S = [.fz (.scr ns), .fz (.int k), .fz (.int s), .no]) ⟨17, by omega, by omega, rfl⟩ ?_ (fun S h => h)
    rintro i d S hd ⟨s, hs0, hs1, rfl⟩
    obtain ⟨x, rfl, _⟩ := map_int_get hd
    walk_at "vm"
    rw [mul_small (by omega) (by decide), mod_pos (by decide)]
    walk_at "vm"
    rw [mod_pos (by decide)]
    walk_at "vm"
    exact ⟨_, by omega, by omega, rfl⟩
  rintro _ ⟨s, hs0, hs1, rfl⟩
  walk_at "vm"
  rw [mul_small (by omega) (by omega)]
  walk_at "vm"
  rw [mul_small (Nat.le_trans (natAbs_mul_le (a := 2000000) (b := 2000000000) (by omega) (by omega)) (by decide)) (by decide)]
  walk_at "vm"
  rw [mod_pos (by decide)]
  walk_at "vm"
  exact ⟨_, rfl⟩
end Sh

namespace Sh
open PySem VM L2
/-- digits below their sizes -/
def InBox (r sizes : List Int) : Prop := ∀ (j : Nat) (x s : Int), r[j]? = some x → sizes[j]? = some s → 0 ≤ x ∧ x < s
theorem InBox.nil (sizes : List Int) : InBox [] sizes := fun j x s h => by simp at h
theorem InBox.snoc {r sizes : List Int} {x s : Int} (h : InBox r sizes) (hs : sizes[r.length]? = some s) (h0 : 0 ≤ x) (h1 : x < s) : InBox (r ++ [x]) sizes := fun j y t hy ht => by
  by_cases hj : j < r.length
  · rw [List.getElem?_append_left hj] at hy
    exact h j y t hy ht
  · by_cases hj2 : j = r.length
    · subst hj2
      rw [hs] at ht
      cases ht
      simp at hy
      subst hy
      exact ⟨h0, h1⟩
    · rw [List.getElem?_eq_none (by rw [List.length_append, List.length_singleton]; omega)] at hy
      cases hy
theorem digits_ok (c : Int) (sizes : List Int) (hs : ∀ s ∈ sizes, 1 ≤ s ∧ s ≤ 1000000000000) (hl : sizes.length ≤ 100000) :
    ∃ r : List Int, g__law_digits_c35f8 [.int c, .lst (intsD sizes)] = .ok ⟨true, .lst (intsD r)⟩ ∧ r.length = sizes.length ∧ InBox r sizes := by
  suffices h : Gives (g__law_digits_c35f8 [.int c, .lst (intsD sizes)]) (fun z => ∃ r : List Int, z = ⟨true, .lst (intsD r)⟩ ∧ r.length = sizes.length ∧ InBox r sizes) by
    obtain ⟨z, e, r, rfl, h2, h3⟩ := h.ex
    exact ⟨r, e, h2, h3⟩
  unfold g__law_digits_c35f8 m__law_digits_c35f8
  refine gives_fin ?_
  refine wp_cut (fun S => S = [.fz (.int c), .fz (.lst (intsD sizes)), .own (.lst []), .no, .no, .no, .no, .no]) ?_ ?_
  · walk_at "vm"
  rintro _ rfl
  refine wp_cut (fun S => S = [.fz (.int c), .fz (.lst (intsD sizes)), .own (.lst []), .fz (.int c), .no, .no, .no, .no]) ?_ ?_
  · walk_at "vm"
  rintro _ rfl
  refine wp_cut (fun S => S = [.fz (.int c), .fz (.lst (intsD sizes)), .own (.lst []), .fz (.int c), .no, .no, .no, .no]) ?_ ?_
  · walk_at "vm"
    rw [p18]
    walk_at "vm"
    by_cases h : (1000000000000000000 : Int) ≤ c
    · rw [dT h]
      simp only [ite_t]
      refine wp_cut (fun S => S = [.fz (.int c), .fz (.lst (intsD sizes)), .own (.lst []), .fz (.int (c - 1000000000000000000)), .no, .no, .no, .no]) ?_ ?_
      · walk_at "vm"
        rw [p18]
        walk_at "vm"
      rintro _ rfl
      refine wp_cut (fun S => ∃ (r : List Int) (q : Int), r.length = sizes.length ∧ InBox r sizes ∧ S = [.fz (.int c), .fz (.lst (intsD sizes)), .own (.lst (intsD r)), .fz (.int q), .no, .no, .no, .no]) ?_ ?_
      · walk_at "vm"
        refine wp_for (fun i S => ∃ (r : List Int) (q : Int), r.length = i ∧ InBox r sizes ∧ S = [.fz (.int c), .fz (.lst (intsD sizes)), .own (.lst (intsD r)), .fz (.int q), .no, .no, .no, .no]) ⟨[], _, rfl, InBox.nil _, rfl⟩ ?_ (fun S h => ?_)
        · rintro i d S hd ⟨r, q, hr, hb, rfl⟩
          obtain ⟨s, rfl, hsi⟩ := map_int_get hd
          have hs1 := hs s (List.mem_of_getElem? hsi)
          have hil := (List.getElem?_eq_some_iff.mp hsi).1
          walk_at "vm"
          rw [mod_pos (by omega)]
          walk_at "vm"
          rw [if_pos (by rw [intsD, List.length_map]; omega)]
          walk_at "vm"
          rw [div_small (by omega) (by omega)]
          walk_at "vm"
          refine ⟨r ++ [q % s], q / s, by rw [List.length_append, List.length_singleton, hr], hb.snoc (s := s) (by rw [hr]; exact hsi) (Int.emod_nonneg _ (by omega)) (Int.emod_lt_of_pos _ (by omega)), ?_⟩
          simp [intsD]
        · obtain ⟨r, q, hr, hb, rfl⟩ := h
          exact ⟨r, q, by rw [hr, intsD, List.length_map], hb, rfl⟩
      rintro _ ⟨r, q, hr, hb, rfl⟩
      walk_at "vm"
      exact ⟨r, rfl, hr, hb⟩
    · rw [dF h]
      walk_at "vm"
  rintro _ rfl
  refine wp_cut (fun S => ∃ s : Int, 0 ≤ s ∧ s < 2147483647 ∧ S = [.fz (.int c), .fz (.lst (intsD sizes)), .own (.lst []), .fz (.int c), .no, .fz (.int s), .no, .no]) ?_ ?_
  · walk_at "vm"
    rw [mod_pos (by omega)]
    walk_at "vm"
    exact ⟨c % 2147483629, by omega, by omega, rfl⟩
  rintro _ ⟨s0, h0, h1, rfl⟩
  refine wp_cut (fun S => ∃ (r : List Int) (q : Int), r.length = sizes.length ∧ InBox r sizes ∧ S = [.fz (.int c), .fz (.lst (intsD sizes)), .own (.lst (intsD r)), .fz (.int c), .no, .fz (.int q), .no, .no]) ?_ ?_
  · walk_at "vm"
    have e1 : (intsD sizes).length = sizes.length := List.length_map ..
    rw [e1, if_pos (by omega)]
    walk_at "vm"
    refine wp_for (fun i S => ∃ (r : List Int) (q : Int), r.length = i ∧ 0 ≤ q ∧ q < 2147483647 ∧ InBox r sizes ∧ S = [.fz (.int c), .fz (.lst (intsD sizes)), .own (.lst (intsD r)), .fz (.int c), .no, .fz (.int q), .no, .no]) ⟨[], s0, rfl, h0, h1, InBox.nil _, rfl⟩ ?_ (fun S h => ?_)
    · rintro i d S hd ⟨r, q, hr, hq0, hq1, hb, rfl⟩
      obtain ⟨hi, rfl⟩ := rangeL_get hd
      have hil : i < sizes.length := by omega
      have hsi : sizes[i]? = some sizes[i] := List.getElem?_eq_getElem hil
      have hs1 := hs _ (List.getElem_mem hil)
      have hsD : atI (intsD sizes) (0 + (i : Int)) = some (.int sizes[i]) := by
        rw [intsD, atI_map, Int.zero_add]
        have := atI_nat (xs := sizes) (j := i) hsi
        rw [this]
        rfl
      walk_at "vm"
      rw [mul_small (by omega) (by omega), mul_small (by omega) (by omega)]
      walk_at "vm"
      rw [mod_pos (by omega)]
      walk_at "vm"
      generalize hw : (q * 48271 + 974711 * (0 + (i : Int)) + 12345) % 2147483647 = w
      have hw0 : 0 ≤ w ∧ w < 2147483647 := by omega
      rw [div_small (by omega) (by omega)]
      walk_at "vm"
      rw [mul_small (by omega) (by omega)]
      walk_at "vm"
      rw [mod_pos (by omega)]
      walk_at "vm"
      rw [div_small (by omega) (by omega), hsD]
      walk_at "vm"
      rw [mod_pos (by omega)]
      walk_at "vm"
      rw [if_pos (by rw [intsD, List.length_map]; omega)]
      walk_at "vm"
      refine ⟨r ++ [(w * (w / 65537 + 3)) % 2147483629 / 19 % sizes[i]], w, by rw [List.length_append, List.length_singleton, hr], hw0.1, hw0.2, hb.snoc (s := sizes[i]) (by rw [hr]; exact hsi) (Int.emod_nonneg _ (by omega)) (Int.emod_lt_of_pos _ (by omega)), ?_⟩
      simp [intsD]
    · obtain ⟨r, q, hr, _, _, hb, rfl⟩ := h
      exact ⟨r, q, by rw [hr, rangeL_len]; omega, hb, rfl⟩
  rintro _ ⟨r, q, hr, hb, rfl⟩
  walk_at "vm"
  exact ⟨r, rfl, hr, hb⟩
end Sh
namespace Sh
open PySem VM L2
theorem dig_at {r sizes : List Int} (hl : r.length = sizes.length) (hb : InBox r sizes) (i : Int) (s : Int) (hi : 0 ≤ i) (hs : sizes[i.toNat]? = some s) : ∃ x, atI (intsD r) i = some (.int x) ∧ 0 ≤ x ∧ x < s := by
  have h1 := (List.getElem?_eq_some_iff.mp hs).1
  have h2 : i.toNat < r.length := by omega
  have h3 : r[i.toNat]? = some r[i.toNat] := List.getElem?_eq_getElem h2
  obtain ⟨b1, b2⟩ := hb i.toNat _ s h3 hs
  refine ⟨r[i.toNat], ?_, b1, b2⟩
  rw [intsD, atI_map]
  have := atI_nat (xs := r) (j := i.toNat) h3
  rw [Int.toNat_of_nonneg hi] at this
  rw [this]
  rfl
theorem cutL_len {α : Type} (xs : List α) (lo hi : Option Int) : (cutL xs lo hi).length ≤ xs.length := by
  unfold cutL
  rw [List.length_take, List.length_drop]
  omega
end Sh

namespace Sh
open PySem VM L2
theorem sign_ok (n : Int) : ∃ c, g__law_sign_805c8 [.int n] = .ok ⟨false, .str [c]⟩ := by
  unfold g__law_sign_805c8 m__law_sign_805c8
  walk_at "vm"
  rw [mod_pos (by decide)]
  walk_at "vm"
  obtain ⟨c, hc, _⟩ := atI_in (xs := [97, 98, 99, 100, 101, 102, 103, 104, 105, 106, 107, 108, 109, 110, 111, 112, 113, 114, 115, 116, 117, 118, 119, 120, 121, 122, 48, 49, 50, 51, 52, 53, 54, 55, 56, 57]) (i := n % 36) (by omega) (by show n % 36 < 36; omega)
  rw [hc]
  walk_at "vm"
  exact ⟨c, rfl⟩
theorem char_ok (n : Int) : ∃ c, g__law_char_12f06 [.int n] = .ok ⟨false, .str [c]⟩ := by
  unfold g__law_char_12f06 m__law_char_12f06
  walk_at "vm"
  rw [mod_pos (by decide)]
  walk_at "vm"
  obtain ⟨c, hc, _⟩ := atI_in (xs := [32, 33, 34, 35, 36, 38, 39, 40, 41, 42, 43, 44, 45, 46, 47, 48, 49, 50, 51, 52, 53, 54, 55, 56, 57, 58, 59, 60, 61, 62, 63, 64, 65, 66, 67, 68, 69, 70, 71, 72, 73, 74, 75, 76, 77, 78, 79, 80, 81, 82, 83, 84, 85, 86, 87, 88, 89, 90, 91, 92, 93, 94, 95, 96, 97, 98, 99, 100, 101, 102, 103, 104, 105, 106, 107, 108, 109, 110, 111, 112, 113, 114, 115, 116, 117, 118, 119, 120, 121, 122, 123, 124, 125, 126, 10]) (i := n % 95) (by omega) (by show n % 95 < 95; omega)
  rw [hc]
  walk_at "vm"
  exact ⟨c, rfl⟩
theorem changed_ok (x y : List Nat) (i : Int) (b : Bool) (hx : x.length ≤ 1000000) (hy : y.length ≤ 1000000) : ∃ z, g__law_changed_d4b0e [.str x, .int i, .str y, .bl b] = .ok ⟨false, .str z⟩ ∧ z.length ≤ 2 * x.length + y.length := by
  have h1 := fun lo hi => cutL_len x lo hi
  unfold g__law_changed_d4b0e m__law_changed_d4b0e
  walk_at "vm"
  have a1 := h1 none (some i)
  have a2 := h1 (some i) none
  have a3 := h1 (some (i + 1)) none
  cases b with
  | true =>
    walk_at "vm"
    rw [if_pos (by omega)]
    walk_at "vm"
    rw [if_pos (by omega)]
    walk_at "vm"
    rw [if_pos (by omega)]
    walk_at "vm"
    rw [if_pos (by rw [List.length_append]; omega)]
    walk_at "vm"
    exact ⟨_, rfl, by rw [List.length_append, List.length_append]; omega⟩
  | false =>
    walk_at "vm"
    rw [if_pos (by omega)]
    walk_at "vm"
    rw [if_pos (by omega)]
    walk_at "vm"
    rw [if_pos (by omega)]
    walk_at "vm"
    rw [if_pos (by rw [List.length_append]; omega)]
    walk_at "vm"
    exact ⟨_, rfl, by rw [List.length_append, List.length_append]; omega⟩
def resW : List (List Nat) := [[97, 110, 100], [97, 110, 115, 119, 101, 114], [97, 110, 115, 119, 101, 114, 115], [98, 101, 103, 105, 110], [98, 111, 111, 107], [99, 97, 115, 101], [99, 101, 108, 108], [100, 105, 118], [100, 111], [101, 108, 115, 101], [101, 110, 100], [102, 97, 105, 108], [102, 105, 110, 103, 101, 114], [102, 114, 111, 109], [103, 105, 118, 101, 110], [104, 101, 108, 112, 101, 114], [105, 102], [108, 105, 110, 101], [109, 97, 114, 107], [109, 111, 100], [110, 111, 116], [111, 114], [112, 105, 99, 107], [112, 108, 97, 99, 101, 115], [112, 114, 111, 99, 101, 100, 117, 114, 101], [112, 114, 111, 103, 114, 97, 109], [115, 101, 116], [115, 116, 111, 112], [116, 111], [119, 104, 101, 110], [119, 104, 105, 108, 101]]
theorem res_split : splitD (.str [97, 110, 100, 32, 97, 110, 115, 119, 101, 114, 32, 97, 110, 115, 119, 101, 114, 115, 32, 98, 101, 103, 105, 110, 32, 98, 111, 111, 107, 32, 99, 97, 115, 101, 32, 99, 101, 108, 108, 32, 100, 105, 118, 32, 100, 111, 32, 101, 108, 115, 101, 32, 101, 110, 100, 32, 102, 97, 105, 108, 32, 102, 105, 110, 103, 101, 114, 32, 102, 114, 111, 109, 32, 103, 105, 118, 101, 110, 32, 104, 101, 108, 112, 101, 114, 32, 105, 102, 32, 108, 105, 110, 101, 32, 109, 97, 114, 107, 32, 109, 111, 100, 32, 110, 111, 116, 32, 111, 114, 32, 112, 105, 99, 107, 32, 112, 108, 97, 99, 101, 115, 32, 112, 114, 111, 99, 101, 100, 117, 114, 101, 32, 112, 114, 111, 103, 114, 97, 109, 32, 115, 101, 116, 32, 115, 116, 111, 112, 32, 116, 111, 32, 119, 104, 101, 110, 32, 119, 104, 105, 108, 101]) [.str [32]] = .ok ⟨true, .lst (resW.map D.str)⟩ := by
  have e2 : spL [97, 110, 100, 32, 97, 110, 115, 119, 101, 114, 32, 97, 110, 115, 119, 101, 114, 115, 32, 98, 101, 103, 105, 110, 32, 98, 111, 111, 107, 32, 99, 97, 115, 101, 32, 99, 101, 108, 108, 32, 100, 105, 118, 32, 100, 111, 32, 101, 108, 115, 101, 32, 101, 110, 100, 32, 102, 97, 105, 108, 32, 102, 105, 110, 103, 101, 114, 32, 102, 114, 111, 109, 32, 103, 105, 118, 101, 110, 32, 104, 101, 108, 112, 101, 114, 32, 105, 102, 32, 108, 105, 110, 101, 32, 109, 97, 114, 107, 32, 109, 111, 100, 32, 110, 111, 116, 32, 111, 114, 32, 112, 105, 99, 107, 32, 112, 108, 97, 99, 101, 115, 32, 112, 114, 111, 99, 101, 100, 117, 114, 101, 32, 112, 114, 111, 103, 114, 97, 109, 32, 115, 101, 116, 32, 115, 116, 111, 112, 32, 116, 111, 32, 119, 104, 101, 110, 32, 119, 104, 105, 108, 101] [32] = resW := by decide +kernel
  unfold splitD
  simp only [e2]
  exact if_pos ⟨rfl, by decide, by decide +kernel⟩
theorem res_ok : g__law_reserved_f5be3 [] = .ok ⟨true, .lst (resW.map D.str)⟩ := by
  unfold g__law_reserved_f5be3 m__law_reserved_f5be3
  walk_at "vm"
  rw [res_split]
  walk_at "vm"
theorem resW_short : ∀ w ∈ resW, w.length ≤ 9 ∧ 1 ≤ w.length := by decide
theorem text_ok (c : Int) : ∃ x, g__law_text_0d91b [.int c] = .ok ⟨false, .str x⟩ ∧ x.length ≤ 10000 := by
  suffices h : Gives (g__law_text_0d91b [.int c]) (fun z => ∃ x : List Nat, z = ⟨false, .str x⟩ ∧ x.length ≤ 10000) by
    obtain ⟨z, e, x, rfl, h2⟩ := h.ex
    exact ⟨x, e, h2⟩
  obtain ⟨r, hr, hl, hb⟩ := digits_ok c [4, 10, 26, 10, 95, 2, 380, 95, 95, 95, 95, 95, 95, 95, 95, 95, 95] (by decide) (by decide)
  obtain ⟨r0, e0, _, _⟩ := dig_at hl hb 0 4 (by decide) rfl
  obtain ⟨r1, e1, b1, t1⟩ := dig_at hl hb 1 10 (by decide) rfl
  obtain ⟨r2, e2, _, _⟩ := dig_at hl hb 2 26 (by decide) rfl
  obtain ⟨r3, e3, _, _⟩ := dig_at hl hb 3 10 (by decide) rfl
  obtain ⟨r4, e4, _, _⟩ := dig_at hl hb 4 95 (by decide) rfl
  obtain ⟨r5, e5, b5, t5⟩ := dig_at hl hb 5 2 (by decide) rfl
  obtain ⟨r6, e6, b6, t6⟩ := dig_at hl hb 6 380 (by decide) rfl
  have e7 : ∀ j : Int, 0 ≤ j → j < 10 → ∃ x, atI (intsD r) (7 + j) = some (.int x) := fun j h0 h1 => by
    have : ∃ s, [4, 10, 26, 10, 95, 2, 380, 95, 95, 95, 95, 95, 95, 95, 95, 95, (95 : Int)][(7 + j).toNat]? = some s := by
      have hlt : (7 + j).toNat < 17 := by omega
      exact ⟨_, List.getElem?_eq_getElem (by simpa using hlt)⟩
    obtain ⟨s, hs⟩ := this
    obtain ⟨x, hx, _⟩ := dig_at hl hb (7 + j) s (by omega) hs
    exact ⟨x, hx⟩
  unfold g__law_text_0d91b m__law_text_0d91b
  refine gives_fin ?_
  refine wp_cut (fun S => S = [.fz (.int c), .own (.lst (intsD r)), .no, .no]) ?_ ?_
  · walk_at "vm"
    have em : mulD (.lst [.int 95]) (.int 10) = .ok ⟨true, .lst [.int 95, .int 95, .int 95, .int 95, .int 95, .int 95, .int 95, .int 95, .int 95, .int 95]⟩ := rfl
    have ed : g__law_digits_c35f8 [.int c, .lst [.int 4, .int 10, .int 26, .int 10, .int 95, .int 2, .int 380, .int 95, .int 95, .int 95, .int 95, .int 95, .int 95, .int 95, .int 95, .int 95, .int 95]] = .ok ⟨true, .lst (intsD r)⟩ := hr
    rw [em]
    walk_at "vm"
    rw [ed]
    walk_at "vm"
  rintro _ rfl
  refine wp_cut (fun S => ∃ x, x.length = 1 ∧ S = [.fz (.int c), .own (.lst (intsD r)), .fz (.str x), .no]) ?_ ?_
  · walk_at "vm"
    rw [e2]
    walk_at "vm"
    obtain ⟨ch, hc⟩ := sign_ok r2
    rw [hc]
    walk_at "vm"
    exact ⟨[ch], rfl, rfl⟩
  rintro _ ⟨x, hx, rfl⟩
  refine wp_cut (fun S => ∃ x, x.length ≤ 11 ∧ 1 ≤ x.length ∧ S = [.fz (.int c), .own (.lst (intsD r)), .fz (.str x), .no]) ?_ ?_
  · walk_at "vm"
    rw [e1]
    walk_at "vm"
    rw [if_pos (by omega)]
    walk_at "vm"
    refine wp_for (fun i S => ∃ x, x.length ≤ 1 + i ∧ 1 ≤ x.length ∧ S = [.fz (.int c), .own (.lst (intsD r)), .fz (.str x), .no]) ⟨x, by omega, by omega, rfl⟩ ?_ ?_
    · rintro i d S hd ⟨x, hx, hx1, rfl⟩
      obtain ⟨hi, rfl⟩ := rangeL_get hd
      obtain ⟨y, ey⟩ := e7 (0 + (i : Int)) (by omega) (by omega)
      obtain ⟨ch, hc⟩ := sign_ok y
      walk_at "vm"
      rw [ey]
      walk_at "vm"
      rw [hc]
      walk_at "vm"
      rw [if_pos (by omega)]
      walk_at "vm"
      exact ⟨x ++ [ch], by rw [List.length_append, List.length_singleton]; omega, by rw [List.length_append, List.length_singleton]; omega, rfl⟩
    · rintro S ⟨x, hx, hx1, rfl⟩
      rw [rangeL_len] at hx
      exact ⟨x, by omega, hx1, rfl⟩
  rintro _ ⟨x, hx, hx1, rfl⟩
  refine wp_cut (fun S => ∃ x, x.length ≤ 30 ∧ S = [.fz (.int c), .own (.lst (intsD r)), .fz (.str x), .no]) ?_ ?_
  · walk_at "vm"
    rw [e0]
    walk_at "vm"
    rw [eqD_int]
    walk_at "vm"
    cases (r0 == 1) with
    | false =>
      walk_at "vm"
      exact ⟨x, by omega, rfl⟩
    | true =>
      walk_at "vm"
      rw [e3, e4, e5, if_pos (by omega)]
      walk_at "vm"
      obtain ⟨ch, hc⟩ := char_ok r4
      rw [mod_pos (by omega), hc, eqD_int]
      walk_at "vm"
      obtain ⟨z, ez, hz⟩ := changed_ok x [ch] (r3 % (x.length : Int)) (r5 == 1) (by omega) (by simp)
      rw [ez]
      walk_at "vm"
      exact ⟨z, by rw [List.length_singleton] at hz; omega, rfl⟩
  rintro _ ⟨x, hx, rfl⟩
  refine wp_cut (fun S => ∃ x, x.length ≤ 30 ∧ S = [.fz (.int c), .own (.lst (intsD r)), .fz (.str x), .no]) ?_ ?_
  · walk_at "vm"
    rw [e0]
    walk_at "vm"
    rw [eqD_int]
    walk_at "vm"
    cases (r0 == 2) with
    | false =>
      walk_at "vm"
      exact ⟨x, by omega, rfl⟩
    | true =>
      walk_at "vm"
      rw [e1, e5]
      walk_at "vm"
      rw [if_pos (by omega)]
      walk_at "vm"
      have key := lcL_gen (tg := gN 3) (te := (mZ (mN g__law_char_12f06 (aCons (mZ (m2 ixD (vVar 1) (vE (m2 addD (vE (mC (.int 7))) (vVar 3))))) aNil)))) (S0 := [.fz (.int c), .own (.lst (intsD r)), .fz (.str x), .no]) (ds := rangeL 0 (r1 + r5).toNat) (fun d => ∃ ch, d = .str [ch]) (fun d hd => by
        obtain ⟨i, hi⟩ := List.mem_iff_getElem?.mp hd
        obtain ⟨hi, rfl⟩ := rangeL_get hi
        obtain ⟨y, ey⟩ := e7 (0 + (i : Int)) (by omega) (by omega)
        obtain ⟨ch, hc⟩ := char_ok y
        walk_at "vm"
        rw [ey]
        walk_at "vm"
        rw [hc]
        walk_at "vm"
        exact ⟨ch, rfl⟩)
      obtain ⟨k1, k2⟩ := key
      rw [k1]
      walk_at "vm"
      rw [if_pos (by rw [List.length_map, rangeL_len]; omega)]
      walk_at "vm"
      have q1 : ∀ d ∈ cutL ((rangeL 0 (r1 + r5).toNat).map (lcV (gN 3) (mZ (mN g__law_char_12f06 (aCons (mZ (m2 ixD (vVar 1) (vE (m2 addD (vE (mC (.int 7))) (vVar 3))))) aNil))) [.fz (.int c), .own (.lst (intsD r)), .fz (.str x), .no])) none (some 10), ∃ z, d = .str z ∧ z.length ≤ 1 := fun d hd => by
        obtain ⟨ch, rfl⟩ := k2 d (cut_mem hd)
        exact ⟨[ch], rfl, Nat.le_refl _⟩
      have q2 := cutL_le ((rangeL 0 (r1 + r5).toNat).map (lcV (gN 3) (mZ (mN g__law_char_12f06 (aCons (mZ (m2 ixD (vVar 1) (vE (m2 addD (vE (mC (.int 7))) (vVar 3))))) aNil))) [.fz (.int c), .own (.lst (intsD r)), .fz (.str x), .no])) none (some 10)
      rw [List.length_map, rangeL_len] at q2
      obtain ⟨ys, e, hy⟩ := strs_of q1
      rw [e] at q2 ⊢
      rw [List.length_map] at q2
      have h1 := sum_le hy
      have h2 := jnL_len [] ys
      simp only [List.length_nil, Nat.mul_zero, Nat.add_zero] at h2
      rw [joinD_l (by simp only [List.length_nil, Nat.mul_zero, Nat.add_zero]; omega)]
      walk_at "vm"
      exact ⟨_, by omega, rfl⟩
  rintro _ ⟨x, hx, rfl⟩
  refine wp_cut (fun S => ∃ x, x.length ≤ 10000 ∧ S = [.fz (.int c), .own (.lst (intsD r)), .fz (.str x), .no]) ?_ ?_
  · walk_at "vm"
    rw [e0]
    walk_at "vm"
    rw [eqD_int]
    walk_at "vm"
    cases (r0 == 3) with
    | false =>
      walk_at "vm"
      exact ⟨x, by omega, rfl⟩
    | true =>
      walk_at "vm"
      rw [e1, e6]
      walk_at "vm"
      rw [if_pos (by omega)]
      walk_at "vm"
      refine wp_for (fun i S => ∃ x, x.length ≤ 30 + i ∧ S = [.fz (.int c), .own (.lst (intsD r)), .fz (.str x), .no]) ⟨x, by omega, rfl⟩ ?_ ?_
      · rintro i d S hd ⟨x, hx, rfl⟩
        obtain ⟨hi, rfl⟩ := rangeL_get hd
        obtain ⟨y, ey⟩ := e7 ((0 + (i : Int)) % 10) (by omega) (by omega)
        obtain ⟨ch, hc⟩ := sign_ok (y + (0 + (i : Int)) / 10)
        walk_at "vm"
        rw [mod_pos (by decide)]
        walk_at "vm"
        rw [ey, div_small (by decide) (by decide)]
        walk_at "vm"
        rw [hc]
        walk_at "vm"
        rw [if_pos (by omega)]
        walk_at "vm"
        exact ⟨x ++ [ch], by rw [List.length_append, List.length_singleton]; omega, rfl⟩
      · rintro S ⟨x, hx, rfl⟩
        rw [rangeL_len] at hx
        exact ⟨x, by omega, rfl⟩
  rintro _ ⟨x, hx, rfl⟩
  walk_at "vm"
  exact ⟨x, rfl, hx⟩

end Sh

namespace Sh
open PySem VM L2
theorem near_ok (c : Int) : ∃ ys : List (List Nat), g__law_near_affea [.int c] = .ok ⟨true, .lst (ys.map D.str)⟩ ∧ ys.length = 9 ∧ ∀ y ∈ ys, y.length ≤ 10000 := by
  obtain ⟨r, hr, hl, hb⟩ := digits_ok c [31, 9, 95, 36] (by decide) (by decide)
  obtain ⟨r0, e0, b0, t0⟩ := dig_at hl hb 0 31 (by decide) rfl
  obtain ⟨r1, e1, _, _⟩ := dig_at hl hb 1 9 (by decide) rfl
  obtain ⟨r2, e2, _, _⟩ := dig_at hl hb 2 95 (by decide) rfl
  obtain ⟨r3, e3, _, _⟩ := dig_at hl hb 3 36 (by decide) rfl
  have ed : g__law_digits_c35f8 [.int c, .lst [.int 31, .int 9, .int 95, .int 36]] = .ok ⟨true, .lst (intsD r)⟩ := hr
  obtain ⟨w, hw, _, hm⟩ := atI_in (xs := resW) (i := r0) b0 (by show r0 < 31; exact t0)
  obtain ⟨w9, w1⟩ := resW_short w hm
  have hw2 : atI (resW.map D.str) r0 = some (.str w) := by rw [atI_map, hw]; rfl
  obtain ⟨c2, h2⟩ := char_ok r2
  obtain ⟨c3, h3⟩ := sign_ok r3
  obtain ⟨z1, ez1, hz1⟩ := changed_ok w [c2] (r1 % (w.length : Int)) false (by omega) (by simp)
  obtain ⟨z2, ez2, hz2⟩ := changed_ok w [c3] (r1 % (w.length : Int)) false (by omega) (by simp)
  rw [List.length_singleton] at hz1 hz2
  have l1 := cutL_le w (some 1) none
  have l2 := cutL_le w none (some ((w.length : Int) - 1))
  unfold g__law_near_affea m__law_near_affea
  repeat (first | walk_at "vm" | rw [if_pos (by omega)] | rw [mod_pos (by omega)] | rw [ed] | rw [res_ok] | rw [e0] | rw [hw2] | rw [e1] | rw [e2] | rw [h2] | rw [e3] | rw [h3] | rw [ez1] | rw [ez2])
  refine ⟨[w, w ++ [c2], w ++ [c3], c2 :: w, c3 :: w, cutL w (some 1) none, cutL w none (some (↑w.length - 1)), z1, z2], rfl, rfl, ?_⟩
  intro y hy
  simp only [List.mem_cons, List.not_mem_nil, or_false] at hy
  rcases hy with rfl | rfl | rfl | rfl | rfl | rfl | rfl | rfl | rfl <;> first | omega | (simp only [List.length_append, List.length_cons, List.length_nil]; omega)
end Sh
namespace Sh
open PySem VM L2
def ltrs : List Nat := [97, 98, 99, 100, 101, 102, 103, 104, 105, 106, 107, 108, 109, 110, 111, 112, 113, 114, 115, 116, 117, 118, 119, 120, 121, 122]
def digs : List Nat := [48, 49, 50, 51, 52, 53, 54, 55, 56, 57]
def goodB (c : Nat) : Bool := decide (c ∈ ltrs) || decide (c ∈ digs)
def nameB (x : List Nat) : Bool := decide (1 ≤ x.length) && decide (x.length ≤ 8) && !decide (x ∈ resW) && x.all goodB && (match x with
  | c :: _ => decide (c ∈ ltrs)
  | [] => false)
theorem flatAll_strs : ∀ ws : List (List Nat), D.flatAll (ws.map D.str) = true
  | [] => by simp [D.flatAll]
  | w :: ws => by simp [D.flatAll, D.flat, flatAll_strs ws]
theorem depAll_strs : ∀ ws : List (List Nat), D.depAll (ws.map D.str) = 0
  | [] => by simp [D.depAll]
  | w :: ws => by simp [D.depAll, D.dep, depAll_strs ws]
theorem anyEq_strs (x : List Nat) : ∀ ws : List (List Nat), anyEq (.str x) (ws.map D.str) = decide (x ∈ ws)
  | [] => by simp [anyEq]
  | w :: ws => by
    have ih := anyEq_strs x ws
    unfold anyEq at ih ⊢
    rw [List.map_cons, List.any_cons, ih]
    simp only [D.eqv, List.mem_cons, Bool.decide_or]
    congr 1
    by_cases h : w = x
    · subst h
      simp
    · rw [decide_eq_false (fun e => h e.symm)]
      simpa using h
theorem cmp_str (x : List Nat) : (D.str x).cmpOk = true := by simp [D.cmpOk, D.flat, D.dep]
theorem inD_tup (n : Bool) (x : List Nat) (ws : List (List Nat)) : inD n (.str x) (.tup (ws.map D.str)) = .ok ⟨false, .bl (xor n (decide (x ∈ ws)))⟩ := by
  have h : (D.tup (ws.map D.str)).cmpOk = true := by simp [D.cmpOk, D.flat, D.dep, flatAll_strs, depAll_strs]
  simp [inD, h, cmp_str, anyEq_strs, fzO]
theorem inD_lst (n : Bool) (x : List Nat) (ws : List (List Nat)) : inD n (.str x) (.lst (ws.map D.str)) = .ok ⟨false, .bl (xor n (decide (x ∈ ws)))⟩ := by
  have h : (D.lst (ws.map D.str)).cmpOk = true := by simp [D.cmpOk, D.flat, D.dep, flatAll_strs, depAll_strs]
  simp [inD, h, cmp_str, anyEq_strs, fzO]
theorem inD_ch (n : Bool) (c : Nat) (z : List Nat) : inD n (.str [c]) (.str z) = .ok ⟨false, .bl (xor n (decide (c ∈ z)))⟩ := rfl
theorem resC : c_RESERVED_d93c = .tup (resW.map D.str) := rfl
theorem ltrC : c_LETTERS_5792 = .str ltrs := rfl
theorem digC : c_DIGITS_f364 = .str digs := rfl
theorem lonC : c_LONGEST_NAME_c9f0 = .int 8 := rfl
theorem is_name_ok (x : List Nat) (hx : x.length ≤ 10000) : g_is_name_23e0c [.str x] = .ok ⟨false, .bl (nameB x)⟩ := by
  suffices h : Gives (g_is_name_23e0c [.str x]) (fun z => z = ⟨false, .bl (nameB x)⟩) from h.eq
  unfold g_is_name_23e0c m_is_name_23e0c
  refine gives_fin ?_
  repeat (first | walk_at "vm" | rw [if_pos (by omega)] | rw [resC] | rw [ltrC] | rw [digC] | rw [lonC] | rw [inD_tup])
  by_cases h1 : (1 : Int) ≤ x.length
  · by_cases h2 : (x.length : Int) ≤ 8
    · by_cases h3 : x ∈ resW
      · repeat (first | walk_at "vm" | rw [if_pos (by omega)] | rw [dT h1] | rw [dT h2] | rw [inD_tup] | rw [dT h3])
        show _ = _
        simp [nameB, h3]
      · have e1 := dT h1
        have e2 := dT h2
        repeat (first | walk_at "vm" | rw [if_pos (by omega)] | rw [e1] | rw [e2] | rw [inD_tup] | rw [dF h3] | rw [resC] | rw [ltrC] | rw [digC])
        refine wp_cut (fun S => S = [.fz (.str x), .no] ∧ x.all goodB = true) ?_ ?_
        · refine wp_for (fun i S => S = [.fz (.str x), .no] ∧ (x.take i).all goodB = true) ⟨rfl, rfl⟩ ?_ ?_
          · rintro i d S hd ⟨rfl, ha⟩
            rw [List.getElem?_map] at hd
            cases hx : x[i]? with
            | none =>
              rw [hx] at hd
              cases hd
            | some c =>
              rw [hx] at hd
              cases hd
              have ht : (x.take (i + 1)).all goodB = goodB c := by
                rw [List.take_add_one, hx, List.all_append, ha]
                simp
              by_cases g1 : c ∈ ltrs
              · repeat (first | walk_at "vm" | rw [if_pos (by omega)] | rw [ltrC] | rw [digC] | rw [inD_ch] | rw [dT g1])
                exact ⟨by trivial, by rw [ht]; simp [goodB, g1]⟩
              · by_cases g2 : c ∈ digs
                · repeat (first | walk_at "vm" | rw [if_pos (by omega)] | rw [ltrC] | rw [digC] | rw [inD_ch] | rw [dF g1] | rw [dT g2])
                  exact ⟨by trivial, by rw [ht]; simp [goodB, g2]⟩
                · repeat (first | walk_at "vm" | rw [if_pos (by omega)] | rw [ltrC] | rw [digC] | rw [inD_ch] | rw [dF g1] | rw [dF g2])
                  have hb : x.all goodB = false := by
                    rw [List.all_eq_false]
                    exact ⟨c, List.mem_of_getElem? hx, by simp [goodB, g1, g2]⟩
                  show _ = _
                  simp [nameB, hb]
          · rintro S ⟨rfl, ha⟩
            rw [List.length_map, List.take_length] at ha
            exact ⟨rfl, ha⟩
        · rintro S ⟨rfl, ha⟩
          cases x with
          | nil => simp at h1
          | cons c x =>
            have e0 : atI (c :: x) 0 = some c := by
              unfold atI ixN
              simp
            rw [List.length_cons] at hx
            repeat (first | walk_at "vm" | rw [if_pos (by omega)] | rw [e0] | rw [inD_ch])
            show _ = _
            rw [List.length_cons] at h1 h2
            have q1 : x.length + 1 ≤ 8 := by omega
            simp only [nameB, List.length_cons, h3, ha, q1, Bool.false_xor]
            simp
    · repeat (first | walk_at "vm" | rw [if_pos (by omega)] | rw [dT h1] | rw [dF h2] | rw [inD_tup])
      show _ = _
      have : ¬ (x.length ≤ 8) := by omega
      simp [nameB, this]
  · repeat (first | walk_at "vm" | rw [if_pos (by omega)] | rw [dF h1] | rw [inD_tup])
    show _ = _
    have : ¬ (1 ≤ x.length) := by omega
    simp [nameB, this]
end Sh
namespace Sh
open PySem VM L2
theorem due_ok (x : List Nat) (hx : x.length ≤ 10000) : g__law_due_a602c [.str x] = .ok ⟨false, .bl (nameB x)⟩ := by
  suffices h : Gives (g__law_due_a602c [.str x]) (fun z => z = ⟨false, .bl (nameB x)⟩) from h.eq
  unfold g__law_due_a602c m__law_due_a602c
  refine gives_fin ?_
  have rl : ([97, 98, 99, 100, 101, 102, 103, 104, 105, 106, 107, 108, 109, 110, 111, 112, 113, 114, 115, 116, 117, 118, 119, 120, 121, 122] : List Nat) = ltrs := rfl
  have rd : ([48, 49, 50, 51, 52, 53, 54, 55, 56, 57] : List Nat) = digs := rfl
  repeat (first | walk_at "vm" | rw [if_pos (by omega)] | rw [rl] | rw [rd])
  by_cases h1 : (1 : Int) ≤ x.length
  · by_cases h2 : (x.length : Int) ≤ 8
    · by_cases h3 : x ∈ resW
      · repeat (first | walk_at "vm" | rw [if_pos (by omega)] | rw [dF (show ¬ (x.length : Int) < 1 by omega)] | rw [dF (show ¬ (x.length : Int) > 8 by omega)] | rw [res_ok] | rw [inD_lst] | rw [dT h3])
        show _ = _
        simp [nameB, h3]
      · have e1 := dT h1
        have e2 := dT h2
        repeat (first | walk_at "vm" | rw [if_pos (by omega)] | rw [dF (show ¬ (x.length : Int) < 1 by omega)] | rw [dF (show ¬ (x.length : Int) > 8 by omega)] | rw [res_ok] | rw [inD_lst] | rw [dF h3])
        refine wp_cut (fun S => S = [.fz (.str x), .fz (.str ltrs), .fz (.str digs), .no] ∧ x.all goodB = true) ?_ ?_
        · refine wp_for (fun i S => S = [.fz (.str x), .fz (.str ltrs), .fz (.str digs), .no] ∧ (x.take i).all goodB = true) ⟨rfl, rfl⟩ ?_ ?_
          · rintro i d S hd ⟨rfl, ha⟩
            rw [List.getElem?_map] at hd
            cases hx : x[i]? with
            | none =>
              rw [hx] at hd
              cases hd
            | some c =>
              rw [hx] at hd
              cases hd
              have ht : (x.take (i + 1)).all goodB = goodB c := by
                rw [List.take_add_one, hx, List.all_append, ha]
                simp
              by_cases g1 : c ∈ ltrs
              · repeat (first | walk_at "vm" | rw [if_pos (by omega)] | rw [inD_ch] | rw [dT g1])
                exact ⟨by trivial, by rw [ht]; simp [goodB, g1]⟩
              · by_cases g2 : c ∈ digs
                · repeat (first | walk_at "vm" | rw [if_pos (by omega)] | rw [inD_ch] | rw [dF g1] | rw [dT g2])
                  exact ⟨by trivial, by rw [ht]; simp [goodB, g2]⟩
                · repeat (first | walk_at "vm" | rw [if_pos (by omega)] | rw [inD_ch] | rw [dF g1] | rw [dF g2])
                  have hb : x.all goodB = false := by
                    rw [List.all_eq_false]
                    exact ⟨c, List.mem_of_getElem? hx, by simp [goodB, g1, g2]⟩
                  show _ = _
                  simp [nameB, hb]
          · rintro S ⟨rfl, ha⟩
            rw [List.length_map, List.take_length] at ha
            exact ⟨rfl, ha⟩
        · rintro S ⟨rfl, ha⟩
          cases x with
          | nil => simp at h1
          | cons c x =>
            have e0 : atI (c :: x) 0 = some c := by
              unfold atI ixN
              simp
            rw [List.length_cons] at hx
            repeat (first | walk_at "vm" | rw [if_pos (by omega)] | rw [e0] | rw [inD_ch])
            show _ = _
            rw [List.length_cons] at h1 h2
            have q1 : x.length + 1 ≤ 8 := by omega
            simp only [nameB, List.length_cons, h3, ha, q1, Bool.false_xor]
            simp
    · repeat (first | walk_at "vm" | rw [if_pos (by omega)] | rw [dF (show ¬ (x.length : Int) < 1 by omega)] | rw [dT (show (x.length : Int) > 8 by omega)])
      show _ = _
      have : ¬ (x.length ≤ 8) := by omega
      simp [nameB, this]
  · repeat (first | walk_at "vm" | rw [if_pos (by omega)] | rw [dT (show (x.length : Int) < 1 by omega)])
    show _ = _
    have : ¬ (1 ≤ x.length) := by omega
    simp [nameB, this]
theorem told_ok (x : List Nat) (hx : x.length ≤ 10000) : g__law_told_3496c [.str x] = .ok ⟨false, .bl true⟩ := by
  unfold g__law_told_3496c m__law_told_3496c
  have h1 := is_name_ok x hx
  have h2 := due_ok x hx
  cases h : nameB x with
  | true =>
    rw [h] at h1 h2
    repeat (first | walk_at "vm" | rw [if_pos (by omega)] | rw [h1] | rw [h2])
    trace_state
  | false =>
    rw [h] at h1 h2
    repeat (first | walk_at "vm" | rw [if_pos (by omega)] | rw [h1] | rw [h2])
end Sh
namespace VM
open PySem L2
theorem lcL_some {tg : D → Ss → Option Ss} {te : MV} {S0 : Ss} {ds : List D} (P : D → Prop) (h : ∀ d ∈ ds, GivesD (Out.te (tg d S0) te) P) : ∃ ys, lcL tg mYes te S0 ds = .ok ys ∧ ys.length = ds.length ∧ ∀ y ∈ ys, P y := by
  obtain ⟨k1, k2⟩ := lcL_gen P h
  exact ⟨_, k1, List.length_map _, k2⟩
end VM
namespace Sh
open PySem VM L2
def shortP (d : D) : Prop := ∃ y : List Nat, d = .str y ∧ y.length ≤ 10000
theorem law04 (ns : List Int) : g_law_b6ead [.scr ns] = .ok ⟨false, .bl true⟩ := by
  suffices h : Gives (g_law_b6ead [.scr ns]) (fun z => z = ⟨false, .bl true⟩) from h.eq
  obtain ⟨z0, hz0⟩ := cell53_ok ns 0 (by decide) (by decide)
  obtain ⟨x, hx, lx⟩ := text_ok z0
  obtain ⟨N, hN⟩ : ∃ N : Nat, N = ((if (x.length : Int) < 12 then (x.length : Int) else 12) + 1).toNat := ⟨_, rfl⟩
  have hN2 : N ≤ 13 := by
    split at hN <;> omega
  obtain ⟨ts, k1, k2, k3⟩ := lcL_some (tg := gN 3) (te := mZ (mSl (vVar 1) oNone (oSome (vVar 3)))) (S0 := [.fz (.scr ns), .fz (.str x), .no, .no, .no]) (ds := rangeL 0 N) shortP (fun d hd => by
    obtain ⟨i, hi⟩ := List.mem_iff_getElem?.mp hd
    obtain ⟨hi, rfl⟩ := rangeL_get hi
    have l2 := cutL_le x none (some (0 + (i : Int)))
    repeat (first | walk_at "vm" | rw [if_pos (by omega)])
    exact ⟨_, by trivial, by omega⟩)
  rw [rangeL_len] at k2
  unfold g_law_b6ead m_law_b6ead
  refine gives_fin ?_
  repeat (first | walk_at "vm" | rw [if_pos (by omega)] | rw [hz0] | rw [hx] | rw [← hN] | rw [k1])
  refine wp_cut (fun S => ∃ us, (∀ d ∈ us, shortP d) ∧ us.length ≤ 50 ∧ S = [.fz (.scr ns), .fz (.str x), .own (.lst us), .no, .no]) ?_ ?_
  · repeat (first | walk_at "vm" | rw [if_pos (by omega)])
    refine wp_for (fun i S => ∃ us, (∀ d ∈ us, shortP d) ∧ us.length ≤ 14 + 9 * i ∧ S = [.fz (.scr ns), .fz (.str x), .own (.lst us), .no, .no]) ⟨_, ?_, ?_, rfl⟩ ?_ ?_
    · intro d hd
      rcases List.mem_append.mp hd with h | h
      · exact k3 d h
      · rw [List.mem_singleton] at h
        exact ⟨x, h, lx⟩
    · simp only [List.length_append, List.length_singleton]
      omega
    · rintro i d S hd ⟨us, hus, lus, rfl⟩
      obtain ⟨hi, rfl⟩ := rangeL_get hd
      obtain ⟨z1, hz1⟩ := cell53_ok ns (1 + (0 + (i : Int))) (by omega) (by omega)
      obtain ⟨ys, hy, ly, sy⟩ := near_ok z1
      repeat (first | walk_at "vm" | rw [if_pos (by omega)] | rw [hz1] | rw [hy] | rw [List.length_map])
      refine ⟨_, ?_, ?_, rfl⟩
      · intro d hd
        rcases List.mem_append.mp hd with h | h
        · exact hus d h
        · obtain ⟨y, m, rfl⟩ := List.mem_map.mp h
          exact ⟨y, rfl, sy y m⟩
      · rw [List.length_append, List.length_map]
        omega
    · rintro S ⟨us, hus, lus, rfl⟩
      rw [rangeL_len] at lus
      exact ⟨us, hus, by simp at lus; omega, rfl⟩
  rintro _ ⟨us, hus, lus, rfl⟩
  have go : foL [4] (gN 4) (ifS (tNotB (tB' (mZ (mN g__law_told_3496c (aCons (mZ (mVar 4)) aNil))))) (reS (mC (.bl false))) nxS) us [.fz (.scr ns), .fz (.str x), .fz (.lst us), .no, .no] = .nx [.fz (.scr ns), .fz (.str x), .fz (.lst us), .no, .no] := by
    obtain ⟨S', e, h⟩ := foL_inv (ks := [4]) (tg := gN 4) (body := ifS (tNotB (tB' (mZ (mN g__law_told_3496c (aCons (mZ (mVar 4)) aNil))))) (reS (mC (.bl false))) nxS) (fun _ S => S = [.fz (.scr ns), .fz (.str x), .fz (.lst us), .no, .no]) us 0 _ rfl (fun i d S hd hS => by
      subst hS
      obtain ⟨y, rfl, ly⟩ := hus d (List.mem_of_getElem? hd)
      have ht := told_ok y ly
      refine ⟨_, [.fz (.scr ns), .fz (.str x), .fz (.lst us), .no, .fz (.str y)], rfl, .inl ?_, rfl⟩
      repeat (first | walk_at "vm" | rw [if_pos (by omega)] | rw [ht]))
    rw [e, h]
  repeat (first | walk_at "vm" | rw [if_pos (by omega)] | rw [go])
end Sh

/-! printed by gen.py: the defs of the text, and the proofs that they do what their readings say -/
namespace Lk04
open PySem PySem.Spec PyProof.Rows L2 VM Sh
def top (i : Nat) : Stmt := PySem.Challenge.pw_sameroom_k04_names.main.body.getD i (.Pass ⟨0, 0, 0, 0⟩)
abbrev s_is_name : Stmt := top 5
abbrev s__law_cell : Stmt := top 7
abbrev s__law_digits : Stmt := top 8
abbrev s__law_reserved : Stmt := top 9
abbrev s__law_char : Stmt := top 10
abbrev s__law_sign : Stmt := top 11
abbrev s__law_changed : Stmt := top 12
abbrev s__law_text : Stmt := top 13
abbrev s__law_near : Stmt := top 14
abbrev s__law_due : Stmt := top 15
abbrev s__law_told : Stmt := top 16
abbrev s_law : Stmt := top 17
def fnL : List He.DefD := [⟨("is_name", none), "is_name", "is_name", defArgs s_is_name, defBody s_is_name, defScope s_is_name, [], []⟩,
  ⟨("_law_cell", none), "_law_cell", "_law_cell", defArgs s__law_cell, defBody s__law_cell, defScope s__law_cell, [], []⟩,
  ⟨("_law_digits", none), "_law_digits", "_law_digits", defArgs s__law_digits, defBody s__law_digits, defScope s__law_digits, [], []⟩,
  ⟨("_law_reserved", none), "_law_reserved", "_law_reserved", defArgs s__law_reserved, defBody s__law_reserved, defScope s__law_reserved, [], []⟩,
  ⟨("_law_char", none), "_law_char", "_law_char", defArgs s__law_char, defBody s__law_char, defScope s__law_char, [], []⟩,
  ⟨("_law_sign", none), "_law_sign", "_law_sign", defArgs s__law_sign, defBody s__law_sign, defScope s__law_sign, [], []⟩,
  ⟨("_law_changed", none), "_law_changed", "_law_changed", defArgs s__law_changed, defBody s__law_changed, defScope s__law_changed, [], []⟩,
  ⟨("_law_text", none), "_law_text", "_law_text", defArgs s__law_text, defBody s__law_text, defScope s__law_text, [], []⟩,
  ⟨("_law_near", none), "_law_near", "_law_near", defArgs s__law_near, defBody s__law_near, defScope s__law_near, [], []⟩,
  ⟨("_law_due", none), "_law_due", "_law_due", defArgs s__law_due, defBody s__law_due, defScope s__law_due, [], []⟩,
  ⟨("_law_told", none), "_law_told", "_law_told", defArgs s__law_told, defBody s__law_told, defScope s__law_told, [], []⟩,
  ⟨("law", none), "law", "law", defArgs s_law, defBody s_law, defScope s_law, [], []⟩]
def gloL : List Str := ["is_name", "_law_cell", "_law_digits", "_law_reserved", "_law_char", "_law_sign", "_law_changed", "_law_text", "_law_near", "_law_due", "_law_told", "law"]
def frL : List Str := ["len", "int", "range", "min"]
def csL : List (Str × D) := [("LONGEST_NAME", c_LONGEST_NAME_c9f0), ("RESERVED", c_RESERVED_d93c), ("LETTERS", c_LETTERS_5792), ("DIGITS", c_DIGITS_f364)]
section
variable {P : Program} {w : World} {K : PySem.W.Frag} {mg : Str → Option Value} {base : Heap}
abbrev N_is_name : List Str := ["text", "sign"]
theorem sc_is_name : FnScope N_is_name ["text"] (defScope s_is_name) := ⟨rfl, rfl, rfl, by decide +kernel, rfl, by decide +kernel, by decide +kernel⟩
theorem ok_is_name (T : Tx fnL gloL frL csL K mg) : Fx P w K mg base 1 ["text"] "is_name" g_is_name_23e0c := by
  refine fx_mk (N := N_is_name) (k := 0) (T.fn (i := 0) rfl) (T.glo (i := 0) rfl) sc_is_name (fun _ _ _ _ _ _ us hl => match us, hl with | [_], _ => rfl) (fun ds _ => rfl) ?_
  intro cdv A outer s H E hr
  have hu := hu65 hr
  have tk : Takes (cxOf (L2.CX P w) P w K mg base N_is_name "is_name" (defScope s_is_name) (He.ga K "is_name") cdv A outer s H E) (fun cls d _ H' => E cls d H') := takes_of rfl rfl rfl rfl
  have nd := (sc_is_name).nd
  exact (jss_cons (js_if ((jw_or (jt_not (jt_chain op_leD op_leD (je_int).v ((je_callB ca_len (by rfl) (T.free (i := 0) rfl) (by decide +kernel) (jw_cons (jv_var (pv 0)) jw_nil))).v ((je_cst (T.cst (i := 0) rfl) (by rfl))).v)) (jw_or1 (jt_cmp (op_inDD hu) (jv_var (pv 0)) ((je_cst (T.cst (i := 1) rfl) (by rfl))).v (by rfl))))).t (jss_one (js_ret je_bl)) jss_nil)
      (jss_cons (js_for [1] (passes_of rfl) rfl (ji_val ((je_var (pv 0))).z) (jg_name (pg_name (i := 1) nd rfl (by first | exact Or.inl rfl | exact Or.inr rfl))) (jss_one (js_if ((jw_and (jt_cmp (op_notInDD hu) (jv_var (pv 1)) ((je_cst (T.cst (i := 2) rfl) (by rfl))).v (by rfl)) (jw_and1 (jt_cmp (op_notInDD hu) (jv_var (pv 1)) ((je_cst (T.cst (i := 3) rfl) (by rfl))).v (by rfl))))).t (jss_one (js_ret je_bl)) jss_nil)))
      (jss_one (js_ret (je_cmp (op_inDD hu) ((je_item (jv_var (pv 0)) (je_int).v (fun _ _ => rfl))).v ((je_cst (T.cst (i := 2) rfl) (by rfl))).v (by rfl))))))
abbrev N__law_cell : List Str := ["script", "k", "seed", "cell"]
theorem sc__law_cell : FnScope N__law_cell ["script", "k"] (defScope s__law_cell) := ⟨rfl, rfl, rfl, by decide +kernel, rfl, by decide +kernel, by decide +kernel⟩
theorem ok__law_cell (T : Tx fnL gloL frL csL K mg) : Fx P w K mg base 1 ["script", "k"] "_law_cell" g__law_cell_53b2e := by
  refine fx_mk (N := N__law_cell) (k := 0) (T.fn (i := 1) rfl) (T.glo (i := 1) rfl) sc__law_cell (fun _ _ _ _ _ _ us hl => match us, hl with | [_, _], _ => rfl) (fun ds _ => rfl) ?_
  intro cdv A outer s H E hr
  have hu := hu65 hr
  have tk : Takes (cxOf (L2.CX P w) P w K mg base N__law_cell "_law_cell" (defScope s__law_cell) (He.ga K "_law_cell") cdv A outer s H E) (fun cls d _ H' => E cls d H') := takes_of rfl rfl rfl rfl
  have nd := (sc__law_cell).nd
  exact (jss_cons (js_if ((jw_and (jt_cmp op_ltD (jv_var (pv 1)) ((je_callB ca_len (by rfl) (T.free (i := 0) rfl) (by decide +kernel) (jw_cons (jv_var (pv 0)) jw_nil))).v (nomark _)) (jw_and1 (jt_cmp op_geD ((je_item (jv_var (pv 0)) (jv_var (pv 1)) (fun _ _ => rfl))).v ((je_op op_powD (je_int).v (je_int).v)).v (nomark _))))).t (jss_one (js_ret (je_item (jv_var (pv 0)) (jv_var (pv 1)) (fun _ _ => rfl)))) jss_nil)
      (jss_cons (js_set (i := 2) nd rfl (by first | exact Or.inl rfl | exact Or.inr rfl) je_int)
      (jss_cons (js_for [3] (passes_of rfl) rfl (ji_val ((je_var (pv 0))).z) (jg_name (pg_name (i := 3) nd rfl (by first | exact Or.inl rfl | exact Or.inr rfl))) (jss_one (js_set (i := 2) nd rfl (by first | exact Or.inl rfl | exact Or.inr rfl) (je_op op_modD ((je_callTy ca_int (by rfl) (T.free (i := 1) rfl) (by decide +kernel) (jw_cons ((je_op op_addD ((je_op op_mulD (jv_var (pv 2)) (je_int).v)).v ((je_op op_modD ((je_callTy ca_int (by rfl) (T.free (i := 1) rfl) (by decide +kernel) (jw_cons (jv_var (pv 3)) jw_nil))).v (je_int).v)).v)).v jw_nil))).v (je_int).v))))
      (jss_one (js_ret (je_op op_modD ((je_callTy ca_int (by rfl) (T.free (i := 1) rfl) (by decide +kernel) (jw_cons ((je_op op_mulD ((je_op op_mulD ((je_op op_addD (jv_var (pv 2)) (je_int).v)).v ((je_op op_addD (jv_var (pv 1)) (je_int).v)).v)).v (je_int).v)).v jw_nil))).v (je_int).v))))))
abbrev N__law_digits : List Str := ["cell", "sizes", "row", "rest", "size", "seed", "k", "twice"]
theorem sc__law_digits : FnScope N__law_digits ["cell", "sizes"] (defScope s__law_digits) := ⟨rfl, rfl, rfl, by decide +kernel, rfl, by decide +kernel, by decide +kernel⟩
theorem ok__law_digits (T : Tx fnL gloL frL csL K mg) : Fx P w K mg base 1 ["cell", "sizes"] "_law_digits" g__law_digits_c35f8 := by
  refine fx_mk (N := N__law_digits) (k := 0) (T.fn (i := 2) rfl) (T.glo (i := 2) rfl) sc__law_digits (fun _ _ _ _ _ _ us hl => match us, hl with | [_, _], _ => rfl) (fun ds _ => rfl) ?_
  intro cdv A outer s H E hr
  have hu := hu65 hr
  have tk : Takes (cxOf (L2.CX P w) P w K mg base N__law_digits "_law_digits" (defScope s__law_digits) (He.ga K "_law_digits") cdv A outer s H E) (fun cls d _ H' => E cls d H') := takes_of rfl rfl rfl rfl
  have nd := (sc__law_digits).nd
  exact (jss_cons (js_set (i := 2) nd rfl (by first | exact Or.inl rfl | exact Or.inr rfl) (je_lst ja_nil))
      (jss_cons (js_set (i := 3) nd rfl (by first | exact Or.inl rfl | exact Or.inr rfl) (je_callTy ca_int (by rfl) (T.free (i := 1) rfl) (by decide +kernel) (jw_cons (jv_var (pv 0)) jw_nil)))
      (jss_cons (js_if (jt_cmp op_geD (jv_var (pv 3)) ((je_op op_powD (je_int).v (je_int).v)).v (nomark _)) (jss_cons (js_set (i := 3) nd rfl (by first | exact Or.inl rfl | exact Or.inr rfl) (je_op op_subD (jv_var (pv 3)) ((je_op op_powD (je_int).v (je_int).v)).v))
      (jss_cons (js_for [4] (passes_of rfl) rfl (ji_val ((je_var (pv 1))).z) (jg_name (pg_name (i := 4) nd rfl (by first | exact Or.inl rfl | exact Or.inr rfl))) (jss_cons (js_app (pv 2) ((je_op op_modD ((je_callTy ca_int (by rfl) (T.free (i := 1) rfl) (by decide +kernel) (jw_cons (jv_var (pv 3)) jw_nil))).v (jv_var (pv 4)))).z)
      (jss_one (js_set (i := 3) nd rfl (by first | exact Or.inl rfl | exact Or.inr rfl) (je_op op_divD ((je_callTy ca_int (by rfl) (T.free (i := 1) rfl) (by decide +kernel) (jw_cons (jv_var (pv 3)) jw_nil))).v (jv_var (pv 4)))))))
      (jss_one (js_retv (pv 2))))) jss_nil)
      (jss_cons (js_set (i := 5) nd rfl (by first | exact Or.inl rfl | exact Or.inr rfl) (je_op op_modD ((je_callTy ca_int (by rfl) (T.free (i := 1) rfl) (by decide +kernel) (jw_cons (jv_var (pv 3)) jw_nil))).v (je_int).v))
      (jss_cons (js_for [6, 7] (passes_of rfl) rfl (ji_range1 (by rfl) (T.free (i := 2) rfl) (jw_cons ((je_callB ca_len (by rfl) (T.free (i := 0) rfl) (by decide +kernel) (jw_cons (jv_var (pv 1)) jw_nil))).v jw_nil)) (jg_name (pg_name (i := 6) nd rfl (by first | exact Or.inl rfl | exact Or.inr rfl))) (jss_cons (js_set (i := 5) nd rfl (by first | exact Or.inl rfl | exact Or.inr rfl) (je_op op_modD ((je_callTy ca_int (by rfl) (T.free (i := 1) rfl) (by decide +kernel) (jw_cons ((je_op op_addD ((je_op op_addD ((je_op op_mulD (jv_var (pv 5)) (je_int).v)).v ((je_op op_mulD (je_int).v (jv_var (pv 6)))).v)).v (je_int).v)).v jw_nil))).v (je_int).v))
      (jss_cons (js_set (i := 7) nd rfl (by first | exact Or.inl rfl | exact Or.inr rfl) (je_op op_modD ((je_callTy ca_int (by rfl) (T.free (i := 1) rfl) (by decide +kernel) (jw_cons ((je_op op_mulD (jv_var (pv 5)) ((je_op op_addD ((je_op op_divD (jv_var (pv 5)) (je_int).v)).v (je_int).v)).v)).v jw_nil))).v (je_int).v))
      (jss_one (js_app (pv 2) ((je_op op_modD ((je_op op_divD (jv_var (pv 7)) (je_int).v)).v ((je_item (jv_var (pv 1)) (jv_var (pv 6)) (fun _ _ => rfl))).v)).z)))))
      (jss_one (js_retv (pv 2))))))))
abbrev N__law_reserved : List Str := ["words"]
theorem sc__law_reserved : FnScope N__law_reserved [] (defScope s__law_reserved) := ⟨rfl, rfl, rfl, by decide +kernel, rfl, by decide +kernel, by decide +kernel⟩
theorem ok__law_reserved (T : Tx fnL gloL frL csL K mg) : Fx P w K mg base 1 [] "_law_reserved" g__law_reserved_f5be3 := by
  refine fx_mk (N := N__law_reserved) (k := 0) (T.fn (i := 3) rfl) (T.glo (i := 3) rfl) sc__law_reserved (fun _ _ _ _ _ _ us hl => match us, hl with | [], _ => rfl) (fun ds _ => rfl) ?_
  intro cdv A outer s H E hr
  have hu := hu65 hr
  have tk : Takes (cxOf (L2.CX P w) P w K mg base N__law_reserved "_law_reserved" (defScope s__law_reserved) (He.ga K "_law_reserved") cdv A outer s H E) (fun cls d _ H' => E cls d H') := takes_of rfl rfl rfl rfl
  have nd := (sc__law_reserved).nd
  exact (jss_cons (js_set (i := 0) nd rfl (by first | exact Or.inl rfl | exact Or.inr rfl) (je_str [97, 110, 100, 32, 97, 110, 115, 119, 101, 114, 32, 97, 110, 115, 119, 101, 114, 115, 32, 98, 101, 103, 105, 110, 32, 98, 111, 111, 107, 32, 99, 97, 115, 101, 32, 99, 101, 108, 108, 32, 100, 105, 118, 32, 100, 111, 32, 101, 108, 115, 101, 32, 101, 110, 100, 32, 102, 97, 105, 108, 32, 102, 105, 110, 103, 101, 114, 32, 102, 114, 111, 109, 32, 103, 105, 118, 101, 110, 32, 104, 101, 108, 112, 101, 114, 32, 105, 102, 32, 108, 105, 110, 101, 32, 109, 97, 114, 107, 32, 109, 111, 100, 32, 110, 111, 116] (by decide +kernel) (by decide +kernel)))
      (jss_cons (js_set (i := 0) nd rfl (by first | exact Or.inl rfl | exact Or.inr rfl) (je_op op_addD (jv_var (pv 0)) ((je_str [32, 111, 114, 32, 112, 105, 99, 107, 32, 112, 108, 97, 99, 101, 115, 32, 112, 114, 111, 99, 101, 100, 117, 114, 101, 32, 112, 114, 111, 103, 114, 97, 109, 32, 115, 101, 116, 32, 115, 116, 111, 112, 32, 116, 111, 32, 119, 104, 101, 110, 32, 119, 104, 105, 108, 101] (by decide +kernel) (by decide +kernel))).v))
      (jss_one (js_ret (je_bms PySem.F.slot_str_split PySem.F.type_str_split mt_splitD (jv_var (pv 0)) (jw_cons ((je_str [32] (by decide +kernel) (by decide +kernel))).v jw_nil))))))
abbrev N__law_char : List Str := ["digit", "chars"]
theorem sc__law_char : FnScope N__law_char ["digit"] (defScope s__law_char) := ⟨rfl, rfl, rfl, by decide +kernel, rfl, by decide +kernel, by decide +kernel⟩
theorem ok__law_char (T : Tx fnL gloL frL csL K mg) : Fx P w K mg base 1 ["digit"] "_law_char" g__law_char_12f06 := by
  refine fx_mk (N := N__law_char) (k := 0) (T.fn (i := 4) rfl) (T.glo (i := 4) rfl) sc__law_char (fun _ _ _ _ _ _ us hl => match us, hl with | [_], _ => rfl) (fun ds _ => rfl) ?_
  intro cdv A outer s H E hr
  have hu := hu65 hr
  have tk : Takes (cxOf (L2.CX P w) P w K mg base N__law_char "_law_char" (defScope s__law_char) (He.ga K "_law_char") cdv A outer s H E) (fun cls d _ H' => E cls d H') := takes_of rfl rfl rfl rfl
  have nd := (sc__law_char).nd
  exact (jss_cons (js_set (i := 1) nd rfl (by first | exact Or.inl rfl | exact Or.inr rfl) (je_str [32, 33, 34, 35, 36, 38, 39, 40, 41, 42, 43, 44, 45, 46, 47, 48, 49, 50, 51, 52, 53, 54, 55, 56, 57, 58, 59, 60, 61, 62, 63, 64, 65, 66, 67, 68, 69, 70, 71, 72, 73, 74, 75, 76, 77, 78, 79, 80, 81, 82, 83, 84, 85, 86, 87, 88, 89, 90, 91, 92, 93, 94, 95, 96] (by decide +kernel) (by decide +kernel)))
      (jss_cons (js_set (i := 1) nd rfl (by first | exact Or.inl rfl | exact Or.inr rfl) (je_op op_addD (jv_var (pv 1)) ((je_str [97, 98, 99, 100, 101, 102, 103, 104, 105, 106, 107, 108, 109, 110, 111, 112, 113, 114, 115, 116, 117, 118, 119, 120, 121, 122, 123, 124, 125, 126, 10] (by decide +kernel) (by decide +kernel))).v))
      (jss_one (js_ret (je_item (jv_var (pv 1)) ((je_op op_modD ((je_callTy ca_int (by rfl) (T.free (i := 1) rfl) (by decide +kernel) (jw_cons (jv_var (pv 0)) jw_nil))).v (je_int).v)).v (fun _ _ => rfl))))))
abbrev N__law_sign : List Str := ["digit", "signs"]
theorem sc__law_sign : FnScope N__law_sign ["digit"] (defScope s__law_sign) := ⟨rfl, rfl, rfl, by decide +kernel, rfl, by decide +kernel, by decide +kernel⟩
theorem ok__law_sign (T : Tx fnL gloL frL csL K mg) : Fx P w K mg base 1 ["digit"] "_law_sign" g__law_sign_805c8 := by
  refine fx_mk (N := N__law_sign) (k := 0) (T.fn (i := 5) rfl) (T.glo (i := 5) rfl) sc__law_sign (fun _ _ _ _ _ _ us hl => match us, hl with | [_], _ => rfl) (fun ds _ => rfl) ?_
  intro cdv A outer s H E hr
  have hu := hu65 hr
  have tk : Takes (cxOf (L2.CX P w) P w K mg base N__law_sign "_law_sign" (defScope s__law_sign) (He.ga K "_law_sign") cdv A outer s H E) (fun cls d _ H' => E cls d H') := takes_of rfl rfl rfl rfl
  have nd := (sc__law_sign).nd
  exact (jss_cons (js_set (i := 1) nd rfl (by first | exact Or.inl rfl | exact Or.inr rfl) (je_str [97, 98, 99, 100, 101, 102, 103, 104, 105, 106, 107, 108, 109, 110, 111, 112, 113, 114, 115, 116, 117, 118, 119, 120, 121, 122, 48, 49, 50, 51, 52, 53, 54, 55, 56, 57] (by decide +kernel) (by decide +kernel)))
      (jss_one (js_ret (je_item (jv_var (pv 1)) ((je_op op_modD ((je_callTy ca_int (by rfl) (T.free (i := 1) rfl) (by decide +kernel) (jw_cons (jv_var (pv 0)) jw_nil))).v (je_int).v)).v (fun _ _ => rfl)))))
abbrev N__law_changed : List Str := ["text", "at", "char", "more"]
theorem sc__law_changed : FnScope N__law_changed ["text", "at", "char", "more"] (defScope s__law_changed) := ⟨rfl, rfl, rfl, by decide +kernel, rfl, by decide +kernel, by decide +kernel⟩
theorem ok__law_changed (T : Tx fnL gloL frL csL K mg) : Fx P w K mg base 1 ["text", "at", "char", "more"] "_law_changed" g__law_changed_d4b0e := by
  refine fx_mk (N := N__law_changed) (k := 0) (T.fn (i := 6) rfl) (T.glo (i := 6) rfl) sc__law_changed (fun _ _ _ _ _ _ us hl => match us, hl with | [_, _, _, _], _ => rfl) (fun ds _ => rfl) ?_
  intro cdv A outer s H E hr
  have hu := hu65 hr
  have tk : Takes (cxOf (L2.CX P w) P w K mg base N__law_changed "_law_changed" (defScope s__law_changed) (He.ga K "_law_changed") cdv A outer s H E) (fun cls d _ H' => E cls d H') := takes_of rfl rfl rfl rfl
  have nd := (sc__law_changed).nd
  exact (jss_cons (js_if (jt_val (je_var (pv 3))) (jss_one (js_ret (je_op op_addD ((je_op op_addD ((je_slice (jv_var (pv 0)) jo_none (jo_some (jv_var (pv 1))))).v (jv_var (pv 2)))).v ((je_slice (jv_var (pv 0)) (jo_some (jv_var (pv 1))) jo_none)).v))) jss_nil)
      (jss_one (js_ret (je_op op_addD ((je_op op_addD ((je_slice (jv_var (pv 0)) jo_none (jo_some (jv_var (pv 1))))).v (jv_var (pv 2)))).v ((je_slice (jv_var (pv 0)) (jo_some ((je_op op_addD (jv_var (pv 1)) (je_int).v)).v) jo_none)).v))))
abbrev N__law_text : List Str := ["cell", "row", "text", "k"]
theorem sc__law_text : FnScope N__law_text ["cell"] (defScope s__law_text) := ⟨rfl, rfl, rfl, by decide +kernel, rfl, by decide +kernel, by decide +kernel⟩
theorem ok__law_text (T : Tx fnL gloL frL csL K mg) : Fx P w K mg base 2 ["cell"] "_law_text" g__law_text_0d91b := by
  refine fx_mk (N := N__law_text) (k := 1) (T.fn (i := 7) rfl) (T.glo (i := 7) rfl) sc__law_text (fun _ _ _ _ _ _ us hl => match us, hl with | [_], _ => rfl) (fun ds _ => rfl) ?_
  intro cdv A outer s H E hr
  have hu := hu65 hr
  have tk : Takes (cxOf (L2.CX P w) P w K mg base N__law_text "_law_text" (defScope s__law_text) (He.ga K "_law_text") cdv A outer s H E) (fun cls d _ H' => E cls d H') := takes_of rfl rfl rfl rfl
  have nd := (sc__law_text).nd
  exact (jss_cons (js_set (i := 1) nd rfl (by first | exact Or.inl rfl | exact Or.inr rfl) (je_fx (ok__law_digits T) hr (by decide) (by rfl) tk (ja_cons ((je_var (pv 0))).z (ja_cons ((je_op op_addD ((je_lst (ja_cons (je_int).z (ja_cons (je_int).z (ja_cons (je_int).z (ja_cons (je_int).z (ja_cons (je_int).z (ja_cons (je_int).z (ja_cons (je_int).z ja_nil))))))))).v ((je_op op_mulD ((je_lst (ja_cons (je_int).z ja_nil))).v (je_int).v)).v)).z ja_nil)) (ALen.cons (ALen.cons ALen.nil))))
      (jss_cons (js_set (i := 2) nd rfl (by first | exact Or.inl rfl | exact Or.inr rfl) (je_fx (ok__law_sign T) hr (by decide) (by rfl) tk (ja_cons ((je_item (jv_var (pv 1)) (je_int).v (fun _ _ => rfl))).z ja_nil) (ALen.cons ALen.nil)))
      (jss_cons (js_for [3] (passes_of rfl) rfl (ji_range1 (by rfl) (T.free (i := 2) rfl) (jw_cons ((je_item (jv_var (pv 1)) (je_int).v (fun _ _ => rfl))).v jw_nil)) (jg_name (pg_name (i := 3) nd rfl (by first | exact Or.inl rfl | exact Or.inr rfl))) (jss_one (js_set (i := 2) nd rfl (by first | exact Or.inl rfl | exact Or.inr rfl) (je_op op_addD (jv_var (pv 2)) ((je_fx (ok__law_sign T) hr (by decide) (by rfl) tk (ja_cons ((je_item (jv_var (pv 1)) ((je_op op_addD (je_int).v (jv_var (pv 3)))).v (fun _ _ => rfl))).z ja_nil) (ALen.cons ALen.nil))).v))))
      (jss_cons (js_if (jt_cmp (op_eqDD hu) ((je_item (jv_var (pv 1)) (je_int).v (fun _ _ => rfl))).v (je_int).v (nomark _)) (jss_one (js_frw [2] (js_set (i := 2) nd rfl (by first | exact Or.inl rfl | exact Or.inr rfl) (je_fx (ok__law_changed T) hr (by decide) (by rfl) tk (ja_cons ((je_var (pv 2))).z (ja_cons ((je_op op_modD ((je_callTy ca_int (by rfl) (T.free (i := 1) rfl) (by decide +kernel) (jw_cons ((je_item (jv_var (pv 1)) (je_int).v (fun _ _ => rfl))).v jw_nil))).v ((je_callB ca_len (by rfl) (T.free (i := 0) rfl) (by decide +kernel) (jw_cons (jv_var (pv 2)) jw_nil))).v)).z (ja_cons ((je_fx (ok__law_char T) hr (by decide) (by rfl) tk (ja_cons ((je_item (jv_var (pv 1)) (je_int).v (fun _ _ => rfl))).z ja_nil) (ALen.cons ALen.nil))).z (ja_cons ((je_cmp (op_eqDD hu) ((je_item (jv_var (pv 1)) (je_int).v (fun _ _ => rfl))).v (je_int).v (nomark _))).z ja_nil)))) (ALen.cons (ALen.cons (ALen.cons (ALen.cons ALen.nil)))))))) jss_nil)
      (jss_cons (js_if (jt_cmp (op_eqDD hu) ((je_item (jv_var (pv 1)) (je_int).v (fun _ _ => rfl))).v (je_int).v (nomark _)) (jss_one (js_set (i := 2) nd rfl (by first | exact Or.inl rfl | exact Or.inr rfl) (je_bms PySem.F.slot_str_join PySem.F.type_str_join mt_joinD ((je_str [] (by decide +kernel) (by decide +kernel))).v (jw_cons ((je_slice ((je_lc (own := [("k", 3)]) rfl nd (ji_range1 (by rfl) (T.free (i := 2) rfl) (jw_cons ((je_op op_addD ((je_item (jv_var (pv 1)) (je_int).v (fun _ _ => rfl))).v ((je_item (jv_var (pv 1)) (je_int).v (fun _ _ => rfl))).v)).v jw_nil)) (blkOk_by (N := N__law_text) (sc := defScope s__law_text) (own := [("k", 3)]) (by decide +kernel)) (fun _ _ _ _ _ => (jg_name (pg_name (i := 3) nd rfl (by first | exact Or.inl rfl | exact Or.inr rfl)))) (fun _ _ _ _ _ => jts_nil) (fun _ _ _ _ _ => ((je_fx (ok__law_char T) hr (by decide) (by rfl) takes0 (ja_cons ((je_item (jv_var (pv 1)) ((je_op op_addD (je_int).v (jv_var (pv 3)))).v (fun _ _ => rfl))).z ja_nil) (ALen.cons ALen.nil))).z) (by decide))).v jo_none (jo_some (je_int).v))).v jw_nil)))) jss_nil)
      (jss_cons (js_if (jt_cmp (op_eqDD hu) ((je_item (jv_var (pv 1)) (je_int).v (fun _ _ => rfl))).v (je_int).v (nomark _)) (jss_one (js_for [3] (passes_of rfl) rfl (ji_range1 (by rfl) (T.free (i := 2) rfl) (jw_cons ((je_op op_subD ((je_op op_addD (je_int).v ((je_item (jv_var (pv 1)) (je_int).v (fun _ _ => rfl))).v)).v ((je_item (jv_var (pv 1)) (je_int).v (fun _ _ => rfl))).v)).v jw_nil)) (jg_name (pg_name (i := 3) nd rfl (by first | exact Or.inl rfl | exact Or.inr rfl))) (jss_one (js_set (i := 2) nd rfl (by first | exact Or.inl rfl | exact Or.inr rfl) (je_op op_addD (jv_var (pv 2)) ((je_fx (ok__law_sign T) hr (by decide) (by rfl) tk (ja_cons ((je_op op_addD ((je_item (jv_var (pv 1)) ((je_op op_addD (je_int).v ((je_op op_modD (jv_var (pv 3)) (je_int).v)).v)).v (fun _ _ => rfl))).v ((je_op op_divD (jv_var (pv 3)) (je_int).v)).v)).z ja_nil) (ALen.cons ALen.nil))).v))))) jss_nil)
      (jss_one (js_retv (pv 2)))))))))
abbrev N__law_near : List Str := ["cell", "row", "word", "at", "texts"]
theorem sc__law_near : FnScope N__law_near ["cell"] (defScope s__law_near) := ⟨rfl, rfl, rfl, by decide +kernel, rfl, by decide +kernel, by decide +kernel⟩
theorem ok__law_near (T : Tx fnL gloL frL csL K mg) : Fx P w K mg base 2 ["cell"] "_law_near" g__law_near_affea := by
  refine fx_mk (N := N__law_near) (k := 1) (T.fn (i := 8) rfl) (T.glo (i := 8) rfl) sc__law_near (fun _ _ _ _ _ _ us hl => match us, hl with | [_], _ => rfl) (fun ds _ => rfl) ?_
  intro cdv A outer s H E hr
  have hu := hu65 hr
  have tk : Takes (cxOf (L2.CX P w) P w K mg base N__law_near "_law_near" (defScope s__law_near) (He.ga K "_law_near") cdv A outer s H E) (fun cls d _ H' => E cls d H') := takes_of rfl rfl rfl rfl
  have nd := (sc__law_near).nd
  exact (jss_cons (js_set (i := 1) nd rfl (by first | exact Or.inl rfl | exact Or.inr rfl) (je_fx (ok__law_digits T) hr (by decide) (by rfl) tk (ja_cons ((je_var (pv 0))).z (ja_cons ((je_lst (ja_cons (je_int).z (ja_cons (je_int).z (ja_cons (je_int).z (ja_cons (je_int).z ja_nil)))))).z ja_nil)) (ALen.cons (ALen.cons ALen.nil))))
      (jss_cons (js_set (i := 2) nd rfl (by first | exact Or.inl rfl | exact Or.inr rfl) (je_item ((je_fx0 (ok__law_reserved T) hr (by decide) (by rfl) tk)).v ((je_item (jv_var (pv 1)) (je_int).v (fun _ _ => rfl))).v (fun _ _ => rfl)))
      (jss_cons (js_set (i := 3) nd rfl (by first | exact Or.inl rfl | exact Or.inr rfl) (je_op op_modD ((je_callTy ca_int (by rfl) (T.free (i := 1) rfl) (by decide +kernel) (jw_cons ((je_item (jv_var (pv 1)) (je_int).v (fun _ _ => rfl))).v jw_nil))).v ((je_callB ca_len (by rfl) (T.free (i := 0) rfl) (by decide +kernel) (jw_cons (jv_var (pv 2)) jw_nil))).v))
      (jss_cons (js_frw [2] (js_set (i := 4) nd rfl (by first | exact Or.inl rfl | exact Or.inr rfl) (je_lst (ja_cons ((je_var (pv 2))).z (ja_cons ((je_op op_addD (jv_var (pv 2)) ((je_fx (ok__law_char T) hr (by decide) (by rfl) tk (ja_cons ((je_item (jv_var (pv 1)) (je_int).v (fun _ _ => rfl))).z ja_nil) (ALen.cons ALen.nil))).v)).z (ja_cons ((je_op op_addD (jv_var (pv 2)) ((je_fx (ok__law_sign T) hr (by decide) (by rfl) tk (ja_cons ((je_item (jv_var (pv 1)) (je_int).v (fun _ _ => rfl))).z ja_nil) (ALen.cons ALen.nil))).v)).z (ja_cons ((je_op op_addD ((je_fx (ok__law_char T) hr (by decide) (by rfl) tk (ja_cons ((je_item (jv_var (pv 1)) (je_int).v (fun _ _ => rfl))).z ja_nil) (ALen.cons ALen.nil))).v (jv_var (pv 2)))).z ja_nil)))))))
      (jss_cons (js_set (i := 4) nd rfl (by first | exact Or.inl rfl | exact Or.inr rfl) (je_op op_addD (jv_var (pv 4)) ((je_lst (ja_cons ((je_op op_addD ((je_fx (ok__law_sign T) hr (by decide) (by rfl) tk (ja_cons ((je_item (jv_var (pv 1)) (je_int).v (fun _ _ => rfl))).z ja_nil) (ALen.cons ALen.nil))).v (jv_var (pv 2)))).z (ja_cons ((je_slice (jv_var (pv 2)) (jo_some (je_int).v) jo_none)).z (ja_cons ((je_slice (jv_var (pv 2)) jo_none (jo_some ((je_op op_subD ((je_callB ca_len (by rfl) (T.free (i := 0) rfl) (by decide +kernel) (jw_cons (jv_var (pv 2)) jw_nil))).v (je_int).v)).v))).z ja_nil))))).v))
      (jss_cons (js_frw [2] (js_app (pv 4) ((je_fx (ok__law_changed T) hr (by decide) (by rfl) tk (ja_cons ((je_var (pv 2))).z (ja_cons ((je_var (pv 3))).z (ja_cons ((je_fx (ok__law_char T) hr (by decide) (by rfl) tk (ja_cons ((je_item (jv_var (pv 1)) (je_int).v (fun _ _ => rfl))).z ja_nil) (ALen.cons ALen.nil))).z (ja_cons (je_bl).z ja_nil)))) (ALen.cons (ALen.cons (ALen.cons (ALen.cons ALen.nil)))))).z))
      (jss_cons (js_frw [2] (js_app (pv 4) ((je_fx (ok__law_changed T) hr (by decide) (by rfl) tk (ja_cons ((je_var (pv 2))).z (ja_cons ((je_var (pv 3))).z (ja_cons ((je_fx (ok__law_sign T) hr (by decide) (by rfl) tk (ja_cons ((je_item (jv_var (pv 1)) (je_int).v (fun _ _ => rfl))).z ja_nil) (ALen.cons ALen.nil))).z (ja_cons (je_bl).z ja_nil)))) (ALen.cons (ALen.cons (ALen.cons (ALen.cons ALen.nil)))))).z))
      (jss_one (js_retv (pv 4))))))))))
abbrev N__law_due : List Str := ["text", "letters", "figures", "char"]
theorem sc__law_due : FnScope N__law_due ["text"] (defScope s__law_due) := ⟨rfl, rfl, rfl, by decide +kernel, rfl, by decide +kernel, by decide +kernel⟩
theorem ok__law_due (T : Tx fnL gloL frL csL K mg) : Fx P w K mg base 2 ["text"] "_law_due" g__law_due_a602c := by
  refine fx_mk (N := N__law_due) (k := 1) (T.fn (i := 9) rfl) (T.glo (i := 9) rfl) sc__law_due (fun _ _ _ _ _ _ us hl => match us, hl with | [_], _ => rfl) (fun ds _ => rfl) ?_
  intro cdv A outer s H E hr
  have hu := hu65 hr
  have tk : Takes (cxOf (L2.CX P w) P w K mg base N__law_due "_law_due" (defScope s__law_due) (He.ga K "_law_due") cdv A outer s H E) (fun cls d _ H' => E cls d H') := takes_of rfl rfl rfl rfl
  have nd := (sc__law_due).nd
  exact (jss_cons (js_set (i := 1) nd rfl (by first | exact Or.inl rfl | exact Or.inr rfl) (je_str [97, 98, 99, 100, 101, 102, 103, 104, 105, 106, 107, 108, 109, 110, 111, 112, 113, 114, 115, 116, 117, 118, 119, 120, 121, 122] (by decide +kernel) (by decide +kernel)))
      (jss_cons (js_set (i := 2) nd rfl (by first | exact Or.inl rfl | exact Or.inr rfl) (je_str [48, 49, 50, 51, 52, 53, 54, 55, 56, 57] (by decide +kernel) (by decide +kernel)))
      (jss_cons (js_if ((jw_or (jt_cmp op_ltD ((je_callB ca_len (by rfl) (T.free (i := 0) rfl) (by decide +kernel) (jw_cons (jv_var (pv 0)) jw_nil))).v (je_int).v (nomark _)) (jw_or (jt_cmp op_gtD ((je_callB ca_len (by rfl) (T.free (i := 0) rfl) (by decide +kernel) (jw_cons (jv_var (pv 0)) jw_nil))).v (je_int).v (nomark _)) (jw_or1 (jt_cmp (op_inDD hu) (jv_var (pv 0)) ((je_fx0 (ok__law_reserved T) hr (by decide) (by rfl) tk)).v (by rfl)))))).t (jss_one (js_ret je_bl)) jss_nil)
      (jss_cons (js_for [3] (passes_of rfl) rfl (ji_val ((je_var (pv 0))).z) (jg_name (pg_name (i := 3) nd rfl (by first | exact Or.inl rfl | exact Or.inr rfl))) (jss_one (js_if ((jw_and (jt_cmp (op_notInDD hu) (jv_var (pv 3)) (jv_var (pv 1)) (by rfl)) (jw_and1 (jt_cmp (op_notInDD hu) (jv_var (pv 3)) (jv_var (pv 2)) (by rfl))))).t (jss_one (js_ret je_bl)) jss_nil)))
      (jss_one (js_ret (je_cmp (op_inDD hu) ((je_item (jv_var (pv 0)) (je_int).v (fun _ _ => rfl))).v (jv_var (pv 1)) (by rfl))))))))
abbrev N__law_told : List Str := ["text"]
theorem sc__law_told : FnScope N__law_told ["text"] (defScope s__law_told) := ⟨rfl, rfl, rfl, by decide +kernel, rfl, by decide +kernel, by decide +kernel⟩
theorem ok__law_told (T : Tx fnL gloL frL csL K mg) : Fx P w K mg base 3 ["text"] "_law_told" g__law_told_3496c := by
  refine fx_mk (N := N__law_told) (k := 2) (T.fn (i := 10) rfl) (T.glo (i := 10) rfl) sc__law_told (fun _ _ _ _ _ _ us hl => match us, hl with | [_], _ => rfl) (fun ds _ => rfl) ?_
  intro cdv A outer s H E hr
  have hu := hu65 hr
  have tk : Takes (cxOf (L2.CX P w) P w K mg base N__law_told "_law_told" (defScope s__law_told) (He.ga K "_law_told") cdv A outer s H E) (fun cls d _ H' => E cls d H') := takes_of rfl rfl rfl rfl
  have nd := (sc__law_told).nd
  exact (jss_cons (js_if (jt_val (je_fx (ok__law_due T) hr (by decide) (by rfl) tk (ja_cons ((je_var (pv 0))).z ja_nil) (ALen.cons ALen.nil))) (jss_one (js_ret (je_cmp op_isDD ((je_fx (ok_is_name T) hr (by decide) (by rfl) tk (ja_cons ((je_var (pv 0))).z ja_nil) (ALen.cons ALen.nil))).v (je_bl).v (nomark _)))) jss_nil)
      (jss_one (js_ret (je_cmp op_isDD ((je_fx (ok_is_name T) hr (by decide) (by rfl) tk (ja_cons ((je_var (pv 0))).z ja_nil) (ALen.cons ALen.nil))).v (je_bl).v (nomark _)))))
abbrev N_law : List Str := ["script", "text", "texts", "k", "one"]
theorem sc_law : FnScope N_law ["script"] (defScope s_law) := ⟨rfl, rfl, rfl, by decide +kernel, rfl, by decide +kernel, by decide +kernel⟩
theorem ok_law (T : Tx fnL gloL frL csL K mg) : Fx P w K mg base 4 ["script"] "law" g_law_b6ead := by
  refine fx_mk (N := N_law) (k := 3) (T.fn (i := 11) rfl) (T.glo (i := 11) rfl) sc_law (fun _ _ _ _ _ _ us hl => match us, hl with | [_], _ => rfl) (fun ds _ => rfl) ?_
  intro cdv A outer s H E hr
  have hu := hu65 hr
  have tk : Takes (cxOf (L2.CX P w) P w K mg base N_law "law" (defScope s_law) (He.ga K "law") cdv A outer s H E) (fun cls d _ H' => E cls d H') := takes_of rfl rfl rfl rfl
  have nd := (sc_law).nd
  exact (jss_cons (js_set (i := 1) nd rfl (by first | exact Or.inl rfl | exact Or.inr rfl) (je_fx (ok__law_text T) hr (by decide) (by rfl) tk (ja_cons ((je_fx (ok__law_cell T) hr (by decide) (by rfl) tk (ja_cons ((je_var (pv 0))).z (ja_cons (je_int).z ja_nil)) (ALen.cons (ALen.cons ALen.nil)))).z ja_nil) (ALen.cons ALen.nil)))
      (jss_cons (js_setLc (i := 2) (own := [("k", 3)]) rfl nd rfl rfl (sw_true rfl rfl rfl (by decide +kernel)) (ji_range1 (by rfl) (T.free (i := 2) rfl) (jw_cons ((je_op op_addD ((je_callB (ca_min rfl) (by rfl) (T.free (i := 3) rfl) (by decide +kernel) (jw_cons (je_int).v (jw_cons ((je_callB ca_len (by rfl) (T.free (i := 0) rfl) (by decide +kernel) (jw_cons (jv_var (pv 1)) jw_nil))).v jw_nil)))).v (je_int).v)).v jw_nil)) (blkOk_by (N := N_law) (sc := defScope s_law) (own := [("k", 3)]) (by decide +kernel)) (fun _ _ _ _ _ => (jg_name (pg_name (i := 3) nd rfl (by first | exact Or.inl rfl | exact Or.inr rfl)))) (fun _ _ _ _ _ => jts_nil) (fun _ _ _ _ _ => ((je_slice (jv_var (pv 1)) jo_none (jo_some (jv_var (pv 3))))).z) (by decide))
      (jss_cons (js_frw [1] (js_app (pv 2) ((je_var (pv 1))).z))
      (jss_cons (js_for [3] (passes_of rfl) rfl (ji_range1 (by rfl) (T.free (i := 2) rfl) (jw_cons (je_int).v jw_nil)) (jg_name (pg_name (i := 3) nd rfl (by first | exact Or.inl rfl | exact Or.inr rfl))) (jss_one (js_set (i := 2) nd rfl (by first | exact Or.inl rfl | exact Or.inr rfl) (je_op op_addD (jv_var (pv 2)) ((je_fx (ok__law_near T) hr (by decide) (by rfl) tk (ja_cons ((je_fx (ok__law_cell T) hr (by decide) (by rfl) tk (ja_cons ((je_var (pv 0))).z (ja_cons ((je_op op_addD (je_int).v (jv_var (pv 3)))).z ja_nil)) (ALen.cons (ALen.cons ALen.nil)))).z ja_nil) (ALen.cons ALen.nil))).v))))
      (jss_cons (js_frw [2] (js_for [4] (passes_of rfl) rfl (ji_val ((je_var (pv 2))).z) (jg_name (pg_name (i := 4) nd rfl (by first | exact Or.inl rfl | exact Or.inr rfl))) (jss_one (js_if (jt_not (jt_val (je_fx (ok__law_told T) hr (by decide) (by rfl) tk (ja_cons ((je_var (pv 4))).z ja_nil) (ALen.cons ALen.nil)))) (jss_one (js_ret je_bl)) jss_nil))))
      (jss_cons (js_frw [2] (js_for [4] (passes_of rfl) rfl (ji_val ((je_var (pv 2))).z) (jg_name (pg_name (i := 4) nd rfl (by first | exact Or.inl rfl | exact Or.inr rfl))) (jss_one (js_if (jt_not (jt_val (je_fx (ok__law_told T) hr (by decide) (by rfl) tk (ja_cons ((je_var (pv 4))).z ja_nil) (ALen.cons ALen.nil)))) (jss_one (js_ret je_bl)) jss_nil))))
      (jss_one (js_ret je_bl))))))))
end
end Lk04


namespace Lk04
theorem law_true : ∀ ns : List Int, ns.length ≤ 63 → (∀ z ∈ ns, PySem.Builtin.Int.intBits z ≤ 1048576) → Sh.g_law_b6ead [.scr ns] = .ok ⟨false, .bl true⟩ := fun ns _ _ => Sh.law04 ns
end Lk04


namespace Lk04
open PySem PySem.Spec PyProof.Rows L2 VM
abbrev Rw : PySem.W.OpenRow := PySem.W.OpenLaw.row PySem.Challenge.rw_sameroom_k04_names
abbrev hk : PySem.W.Hook := He.hookX 6 (faOf gloL frL) fnL [] [] (exOf csL)
def ob (s : PySem.W.SharedT) : He.AlX := He.obsX 6 (faOf gloL frL) fnL [] [] (exOf csL) (HandSHeadRun.getT s)
theorem ob_eq (s : PySem.W.SharedT) : ob s = hk.obs s.abs := He.obsX_eq (HandSHeadRun.getT_eq s)
def looseL : List PySem.Str := (["RESERVED", "LETTERS", "DIGITS", "LONGEST_NAME", "is_name", "_law_cell", "_law_digits", "_law_reserved", "_law_char", "_law_sign", "_law_changed", "_law_text", "_law_near", "_law_due", "_law_told"] : List PySem.Str)
theorem run (w : World) : HandSHeadRun.RunEq Rw (PySem.W.view Rw.prog [17]) hk ob 600 looseL w := by
  intro os
  kernel_rfl
end Lk04
open PySem PySem.W PySem.Calls PyProof.Rows
set_option maxRecDepth 100000 in
set_option maxHeartbeats 0 in
theorem PySem.Challenge.cw_sameroom_k04_names_holds : PySem.Challenge.rw_sameroom_k04_names.Holds := by
  w_on; o_law
  refine HandSHeadRun.head_any (r := OpenLaw.row PySem.Challenge.rw_sameroom_k04_names) (q := view (OpenLaw.row PySem.Challenge.rw_sameroom_k04_names).prog [17]) (H := Lk04.hk) (ob := Lk04.ob) (M := 600) (loose := Lk04.looseL) (d := HandSHeadRun.topDef (OpenLaw.row PySem.Challenge.rw_sameroom_k04_names).prog 17) (kwd := []) Lk04.ob_eq
    (by kernel_rfl) (fun s => by kernel_rfl) Lk04.run (by kernel_rfl) (by kernel_rfl) (by kernel_rfl) (by rfl) (by first | assumption | decide +kernel) (by decide +kernel) ⟨rfl, rfl, rfl, rfl, rfl, by decide +kernel⟩ ?hw ?hc
  case hw => w_witness2
  case hc =>
    refine VM.walk_E (l := PySem.Challenge.rw_sameroom_k04_names) (n := 63) (k := 4) (g := Sh.g_law_b6ead) rfl (by decide) (by kernel_rfl) ⟨rfl, by decide, by decide⟩ ?F Lk04.law_true
    intro w mg fa h Y G hmg0
    obtain ⟨K, KX, c⟩ := Y
    have hmg : mg ("law" : PySem.Str) = some (.ref fa) := by
      have e : (HandSHeadRun.topDef (OpenLaw.row PySem.Challenge.rw_sameroom_k04_names).prog 17).name = ("law" : PySem.Str) := by kernel_rfl
      rw [← e]
      exact hmg0
    have T := VM.tx_of KX G c
    obtain ⟨fd, hb, hF⟩ := VM.law_fx (P := (PySem.Challenge.rw_sameroom_k04_names).prog) (w := w) (fun base => Lk04.ok_law (base := base) T) hmg
    exact ⟨K, fd, "script", KX, hb, fun base _ _ => hF base⟩
#print axioms PySem.Challenge.cw_sameroom_k04_names_holds

