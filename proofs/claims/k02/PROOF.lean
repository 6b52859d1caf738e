import PyProof.Rows.All
import Wide.All
import OpenK.AllK
import Wide.FinOn
import KE.KStateDown
import Lean
import HandS.ForMost
import HandS.Defaults
import HandS.WordsExc
import HandS.HeadHook1
import HandS.TupAny
import HandS.Wide
import HandS.Flow
import HandS.Deep
import HandS.IsInst
import HandS.Walk
import HandS.Zip
import HandS.Conv
import HandS.Head0
import HandS.Head1
import HandS.Head2
import HandS.HeadEnd
import HandS.HeadHook2
import HandS.EndBits
import HandS.TupMul
import HandS.Style
import KE.DataMinMax
import HandS.SortInts
import HandS.Star
import HandS.Property
import HandS.SetIn
import KE.KUnpack
import KE.GoesMore
import HandS.Iter
import HandS.Dict
import HandS.Strs
import HandS.Comp
import KE.KSetDisp
import HandS.Codes
import PyProof.Rows.RegFStrParts
import PyProof.Rows.StrDigitsNeg
import PyProof.Rows.StrJoinMade
import PySem.Challenge.RW_anydistance_k02_whole_kinds_within
set_option Elab.async false
set_option linter.all false
set_option maxRecDepth 100000
set_option maxHeartbeats 4000000
/-! Ev1: pure values as trees, the mutable objects, how they lie in HandS's heap. -/
namespace Ev
open PySem PySem.Spec PyProof.Rows L2

/-- a value: tuples and lists that nobody changes any more are trees (scr: one that may be the script, or a written one); ref: an object that may be changed (or a class) -/
inductive PV where
  | non | bl (b : Bool) | int (i : Int) | str (x : Str) | tup (xs : List PV) | lst (xs : List PV) | scr (xs : List PV) | ref (a : Addr) | ty (n : String) | tpl (xs : List PV)
deriving Inhabited

abbrev Frag := PySem.W.Frag
/-- a list that stays as it is: locked -/
def FzL (H : Hp) (a : Addr) (xs : List V) : Prop := ∃ o, H a = some (.frz o (.lst xs))
theorem FzL.rd {H : Hp} {a : Addr} {xs : List V} (h : FzL H a xs) : Rd H a (.lst xs) := let ⟨o, e⟩ := h; .inr ⟨o, e⟩
/-- locked, or written -/
def FzW (K : Frag) (H : Hp) (a : Addr) (xs : List V) : Prop :=
  (∃ o, H a = some (.frz o (.lst xs))) ∨
    ∃ (o : Obj) (its : Array Value) (n : Nat), K.lookup a = some o ∧ o.cls = .type "list" ∧ o.dict = none ∧ o.data = .seq its n ∧ its.size ≤ sizeLine ∧ Vals xs its.toList
theorem FzW.sq {K : Frag} {H : Hp} {a : Addr} {xs : List V} (h : FzW K H a xs) : SqL K H a xs := by
  rcases h with ⟨o, h⟩ | h
  · exact .inl (.inr ⟨o, h⟩)
  · exact .inr h

/-- a tuple that is known to the object: without a dict of its own -/
def TpD (H : Hp) (a : Addr) (xs : List V) : Prop := ∃ o, H a = some (.frz o (.tup xs)) ∧ o.dict = none
theorem TpD.sq {K : Frag} {H : Hp} {a : Addr} {xs : List V} (h : TpD H a xs) : SqT K H a xs := let ⟨o, e, _⟩ := h; .inl (.inr ⟨o, e⟩)
mutual
inductive RepV (K : Frag) (H : Hp) : PV → V → Prop
  | non : RepV K H .non .non
  | bl (b : Bool) : RepV K H (.bl b) (.bl b)
  | int (i : Int) : RepV K H (.int i) (.int i)
  | str (x : Str) : RepV K H (.str x) (.str x)
  | ty (n : String) : RepV K H (.ty n) (.ty n)
  | ref (a : Addr) : RepV K H (.ref a) (.ref a)
  | tup {a : Addr} {xs : List PV} {vs : List V} : SqT K H a vs → RepL K H xs vs → RepV K H (.tup xs) (.ref a)
  | lst {a : Addr} {xs : List PV} {vs : List V} : FzL H a vs → RepL K H xs vs → RepV K H (.lst xs) (.ref a)
  | scr {a : Addr} {xs : List PV} {vs : List V} : FzW K H a vs → RepL K H xs vs → RepV K H (.scr xs) (.ref a)
  | tpl {a : Addr} {xs : List PV} {vs : List V} : TpD H a vs → RepL K H xs vs → RepV K H (.tpl xs) (.ref a)
inductive RepL (K : Frag) (H : Hp) : List PV → List V → Prop
  | nil : RepL K H [] []
  | cons {x : PV} {xs : List PV} {v : V} {vs : List V} : RepV K H x v → RepL K H xs vs → RepL K H (x :: xs) (v :: vs)
end

/-- what may be changed -/
inductive MO where
  | lst (xs : List PV)
  | dK (kvs : List (Key × PV))
  | dT (kvs : List (List Key × PV))
  | ins (C : Str) (fs : List (Str × PV))
abbrev MH := Addr → Option MO
def mupd (h : MH) (a : Addr) (o : MO) : MH := fun b => if b = a then some o else h b
theorem mupd_same {h : MH} {a : Addr} {o : MO} : mupd h a o a = some o := by unfold mupd; rw [if_pos rfl]
theorem mupd_ne {h : MH} {a b : Addr} {o : MO} (e : b ≠ a) : mupd h a o b = h b := by unfold mupd; rw [if_neg e]
theorem mupd_mupd {h : MH} {a : Addr} {o u : MO} : mupd (mupd h a o) a u = mupd h a u := by
  funext b; unfold mupd; split <;> rfl

def KR {κ : Type} (K : Frag) (H : Hp) : List (κ × PV) → List (κ × V) → Prop := Paired fun p q => p.1 = q.1 ∧ RepV K H p.2 q.2
def ObjRel (K : Frag) (H : Hp) (a : Addr) : MO → Prop
  | .lst xs => ∃ vs, H a = some (.lst vs) ∧ RepL K H xs vs
  | .dK kvs => ∃ ws, H a = some (.dK ws) ∧ KR K H kvs ws
  | .dT kvs => ∃ ws, H a = some (.dT ws) ∧ KR K H kvs ws
  | .ins C fs => ∃ dx ws, H a = some (.ins (He.ga K C) dx ws) ∧ KR K H fs ws

/-- A: addresses that are out of sight -/
structure Rel (K : Frag) (A : Addr → Prop) (H : Hp) (h : MH) : Prop where
  obj : ∀ a o, h a = some o → ObjRel K H a o
  hid : ∀ d, A d → h d = none ∧ ∃ o, H d = some o
structure Mon (A : Addr → Prop) (H H' : Hp) : Prop where
  tup : ∀ b xs, H b = some (.tup xs) → H' b = some (.tup xs)
  frz : ∀ b o u, H b = some (.frz o u) → H' b = some (.frz o u)
  hid : ∀ d, A d → H' d = H d
section
variable {K : Frag} {A B : Addr → Prop} {H H' H1 H2 : Hp} {h h' : MH} {a p : Addr} {o : HO}
theorem Mon.refl : Mon A H H := ⟨fun _ _ e => e, fun _ _ _ e => e, fun _ _ => rfl⟩
theorem Mon.trans (x : Mon A H H1) (y : Mon A H1 H2) : Mon A H H2 :=
  ⟨fun b xs e => y.tup b xs (x.tup b xs e), fun b o u e => y.frz b o u (x.frz b o u e), fun d hd => (y.hid d hd).trans (x.hid d hd)⟩
theorem Mon.sub (x : Mon A H H1) (s : ∀ d, B d → A d) : Mon B H H1 := ⟨x.tup, x.frz, fun d hd => x.hid d (s d hd)⟩
theorem Mon.sqT {vs : List V} (m : Mon A H H') (x : SqT K H a vs) : SqT K H' a vs := by
  rcases x with (x | ⟨o, x⟩) | x
  · exact .inl (.inl (m.tup _ _ x))
  · exact .inl (.inr ⟨o, m.frz _ _ _ x⟩)
  · exact .inr x
theorem Mon.fzL {vs : List V} (m : Mon A H H') (x : FzL H a vs) : FzL H' a vs := let ⟨o, e⟩ := x; ⟨o, m.frz _ _ _ e⟩
theorem Mon.fzW {vs : List V} (m : Mon A H H') (x : FzW K H a vs) : FzW K H' a vs := by
  rcases x with ⟨o, x⟩ | x
  · exact .inl ⟨o, m.frz _ _ _ x⟩
  · exact .inr x
theorem Mon.tpD {vs : List V} (m : Mon A H H') (x : TpD H a vs) : TpD H' a vs := let ⟨o, e, d⟩ := x; ⟨o, m.frz _ _ _ e, d⟩
mutual
theorem RepV.mon (m : Mon A H H') : ∀ {x : PV} {v : V}, RepV K H x v → RepV K H' x v
  | _, _, .non => .non
  | _, _, .bl b => .bl b
  | _, _, .int i => .int i
  | _, _, .str x => .str x
  | _, _, .ty n => .ty n
  | _, _, .ref a => .ref a
  | _, _, .tup s r => .tup (m.sqT s) (RepL.mon m r)
  | _, _, .lst s r => .lst (m.fzL s) (RepL.mon m r)
  | _, _, .scr s r => .scr (m.fzW s) (RepL.mon m r)
  | _, _, .tpl s r => .tpl (m.tpD s) (RepL.mon m r)
theorem RepL.mon (m : Mon A H H') : ∀ {xs : List PV} {vs : List V}, RepL K H xs vs → RepL K H' xs vs
  | _, _, .nil => .nil
  | _, _, .cons r t => .cons (RepV.mon m r) (RepL.mon m t)
end
theorem KR.mon {κ : Type} (m : Mon A H H') {kvs : List (κ × PV)} {ws : List (κ × V)} (r : KR K H kvs ws) : KR K H' kvs ws :=
  Paired.mapP r fun _ _ z => ⟨z.1, z.2.mon m⟩
theorem ObjRel.mon (m : Mon A H H') (e : H' a = H a) : ∀ {o : MO}, ObjRel K H a o → ObjRel K H' a o
  | .lst _, ⟨vs, q, r⟩ => ⟨vs, e.trans q, r.mon m⟩
  | .dK _, ⟨vs, q, r⟩ => ⟨vs, e.trans q, KR.mon m r⟩
  | .dT _, ⟨vs, q, r⟩ => ⟨vs, e.trans q, KR.mon m r⟩
  | .ins _ _, ⟨dx, vs, q, r⟩ => ⟨dx, vs, e.trans q, KR.mon m r⟩
theorem ObjRel.some_ {o : MO} (r : ObjRel K H a o) : ∃ u, H a = some u := by
  cases o with
  | lst xs => obtain ⟨vs, e, _⟩ := r; exact ⟨_, e⟩
  | dK xs => obtain ⟨vs, e, _⟩ := r; exact ⟨_, e⟩
  | dT xs => obtain ⟨vs, e, _⟩ := r; exact ⟨_, e⟩
  | ins C fs => obtain ⟨dx, vs, e, _⟩ := r; exact ⟨_, e⟩
theorem Rel.free (r : Rel K A H h) (e : H p = none) : h p = none := by
  cases q : h p with
  | none => rfl
  | some o =>
    obtain ⟨u, z⟩ := (r.obj p o q).some_
    rw [e] at z; cases z
theorem Rel.nothid (r : Rel K A H h) (e : H p = none) : ∀ d, A d → d ≠ p := fun d hd z => by
  obtain ⟨_, o, q⟩ := r.hid d hd
  rw [z, e] at q; cases q
theorem mon_new (e : H p = none) (hn : ∀ d, A d → d ≠ p) : Mon A H (upd H p o) :=
  ⟨fun b xs q => by rw [upd_ne (ne_of_none q e)]; exact q, fun b ob u q => by rw [upd_ne (ne_of_none q e)]; exact q, fun d hd => upd_ne (hn d hd)⟩
theorem Rel.mon_new (r : Rel K A H h) (e : H p = none) : Mon A H (upd H p o) := Ev.mon_new e (r.nothid e)
/-- a new object that the abstract heap does not tell of -/
theorem Rel.laid (r : Rel K A H h) (e : H p = none) : Rel K A (upd H p o) h := by
  refine ⟨fun a ob q => ?_, fun d hd => ?_⟩
  · have x := r.obj a ob q
    obtain ⟨u, z⟩ := x.some_
    exact x.mon (r.mon_new e) (upd_ne (ne_of_none z e))
  · obtain ⟨h1, o1, h2⟩ := r.hid d hd
    exact ⟨h1, o1, by rw [upd_ne (r.nothid e d hd)]; exact h2⟩
/-- a new object that it tells of -/
theorem Rel.tell {ob : MO} (r : Rel K A H h) (e : H p = none) (n : ObjRel K (upd H p o) p ob) : Rel K A (upd H p o) (mupd h p ob) := by
  have l := r.laid (o := o) e
  refine ⟨fun a u q => ?_, fun d hd => ⟨?_, (l.hid d hd).2⟩⟩
  · by_cases ha : a = p
    · subst ha
      rw [mupd_same] at q; cases q
      exact n
    · rw [mupd_ne ha] at q
      exact l.obj a u q
  · rw [mupd_ne (r.nothid e d hd)]
    exact (l.hid d hd).1
/-- it tells of less -/
theorem Rel.less (r : Rel K A H h) (s : ∀ a o, h' a = some o → h a = some o) : Rel K A H h' := by
  refine ⟨fun a o e => r.obj a o (s a o e), fun d hd => ⟨?_, (r.hid d hd).2⟩⟩
  cases q : h' d with
  | none => rfl
  | some o =>
    have z := s d o q
    rw [(r.hid d hd).1] at z
    cases z
theorem Rel.sub (r : Rel K A H h) (s : ∀ d, B d → A d) : Rel K B H h := ⟨r.obj, fun d hd => r.hid d (s d hd)⟩
/-- an object that it tells of is written -/
theorem mon_write {u : HO} (e : H p = some u) (h1 : ∀ xs, u ≠ .tup xs) (h2 : ∀ ob x, u ≠ .frz ob x) (hn : ∀ d, A d → d ≠ p) : Mon A H (upd H p o) :=
  ⟨fun b xs q => by rw [upd_ne (ne_of q e fun z => h1 xs z.symm)]; exact q, fun b ob x q => by rw [upd_ne (ne_of q e fun z => h2 ob x z.symm)]; exact q, fun d hd => upd_ne (hn d hd)⟩
theorem ObjRel.plain {ob : MO} (r : ObjRel K H a ob) : ∃ u, H a = some u ∧ (∀ xs, u ≠ .tup xs) ∧ ∀ q x, u ≠ .frz q x := by
  cases ob with
  | lst xs => obtain ⟨vs, e, _⟩ := r; exact ⟨_, e, fun _ => (by intro z; cases z), fun _ _ => (by intro z; cases z)⟩
  | dK xs => obtain ⟨vs, e, _⟩ := r; exact ⟨_, e, fun _ => (by intro z; cases z), fun _ _ => (by intro z; cases z)⟩
  | dT xs => obtain ⟨vs, e, _⟩ := r; exact ⟨_, e, fun _ => (by intro z; cases z), fun _ _ => (by intro z; cases z)⟩
  | ins C fs => obtain ⟨dx, vs, e, _⟩ := r; exact ⟨_, e, fun _ => (by intro z; cases z), fun _ _ => (by intro z; cases z)⟩
theorem Rel.seen {ob : MO} (r : Rel K A H h) (e : h p = some ob) : ∀ d, A d → d ≠ p := fun d hd z => by
  have := (r.hid d hd).1
  rw [z, e] at this; cases this
theorem Rel.mon_write {ob : MO} (r : Rel K A H h) (e : h p = some ob) : Mon A H (upd H p o) := by
  obtain ⟨u, q, h1, h2⟩ := (r.obj p ob e).plain
  exact Ev.mon_write q h1 h2 (r.seen e)
theorem Rel.write {ob new : MO} (r : Rel K A H h) (e : h p = some ob) (n : ObjRel K (upd H p o) p new) : Rel K A (upd H p o) (mupd h p new) := by
  have m := r.mon_write (o := o) e
  refine ⟨fun a u q => ?_, fun d hd => ⟨?_, ?_⟩⟩
  · by_cases ha : a = p
    · subst ha
      rw [mupd_same] at q; cases q
      exact n
    · rw [mupd_ne ha] at q
      exact (r.obj a u q).mon m (upd_ne ha)
  · rw [mupd_ne (r.seen e d hd)]
    exact (r.hid d hd).1
  · rw [upd_ne (r.seen e d hd)]
    exact (r.hid d hd).2

/-! ### lists of values -/
theorem RepL.length : ∀ {xs : List PV} {vs : List V}, RepL K H xs vs → xs.length = vs.length
  | _, _, .nil => rfl
  | _, _, .cons _ t => by rw [List.length_cons, List.length_cons, RepL.length t]
theorem RepL.get : ∀ {xs : List PV} {vs : List V} {i : Nat} {x : PV}, RepL K H xs vs → xs[i]? = some x → ∃ v, vs[i]? = some v ∧ RepV K H x v
  | _, _, _, _, .nil, e => by simp at e
  | _, _, 0, _, .cons r _, e => by simp at e; subst e; exact ⟨_, rfl, r⟩
  | _, _, i + 1, x, .cons _ t, e => by
    obtain ⟨u, h1, h2⟩ := RepL.get (i := i) (x := x) t (by simpa using e)
    exact ⟨u, by simpa using h1, h2⟩
theorem RepL.get' : ∀ {xs : List PV} {vs : List V} {i : Nat} {v : V}, RepL K H xs vs → vs[i]? = some v → ∃ x, xs[i]? = some x ∧ RepV K H x v
  | _, _, _, _, .nil, e => by simp at e
  | _, _, 0, _, .cons r _, e => by simp at e; subst e; exact ⟨_, rfl, r⟩
  | _, _, i + 1, x, .cons _ t, e => by
    obtain ⟨u, h1, h2⟩ := RepL.get' (i := i) (v := x) t (by simpa using e)
    exact ⟨u, by simpa using h1, h2⟩
theorem RepL.append : ∀ {xs ys : List PV} {vs ws : List V}, RepL K H xs vs → RepL K H ys ws → RepL K H (xs ++ ys) (vs ++ ws)
  | _, _, _, _, .nil, s => s
  | _, _, _, _, .cons r t, s => .cons r (RepL.append t s)
theorem RepL.take : ∀ {xs : List PV} {vs : List V} (n : Nat), RepL K H xs vs → RepL K H (xs.take n) (vs.take n)
  | _, _, 0, _ => .nil
  | _, _, _ + 1, .nil => .nil
  | _, _, n + 1, .cons r t => .cons r (RepL.take n t)
theorem RepL.drop : ∀ {xs : List PV} {vs : List V} (n : Nat), RepL K H xs vs → RepL K H (xs.drop n) (vs.drop n)
  | _, _, 0, r => r
  | _, _, _ + 1, .nil => .nil
  | _, _, n + 1, .cons _ t => RepL.drop n t
theorem RepL.set {x : PV} {v : V} (r : RepV K H x v) : ∀ {xs : List PV} {vs : List V} (i : Nat), RepL K H xs vs → RepL K H (xs.set i x) (vs.set i v)
  | _, _, _, .nil => .nil
  | _, _, 0, .cons _ t => .cons r t
  | _, _, i + 1, .cons q t => .cons q (RepL.set r i t)
theorem RepL.rep {xs : List PV} {vs : List V} (r : RepL K H xs vs) : ∀ k : Nat, RepL K H (List.replicate k xs).flatten (List.replicate k vs).flatten
  | 0 => .nil
  | k + 1 => by
    rw [List.replicate_succ, List.replicate_succ, List.flatten_cons, List.flatten_cons]
    exact r.append (RepL.rep r k)
theorem RepL.dropLast {xs : List PV} {vs : List V} (r : RepL K H xs vs) : RepL K H xs.dropLast vs.dropLast := by
  rw [List.dropLast_eq_take, List.dropLast_eq_take, r.length]
  exact r.take _
theorem RepL.reverse {xs : List PV} {vs : List V} (r : RepL K H xs vs) : RepL K H xs.reverse vs.reverse := by
  induction xs generalizing vs with
  | nil => cases r; exact .nil
  | cons x xs ih =>
    cases r with
    | cons a b =>
      rw [List.reverse_cons, List.reverse_cons]
      exact (ih b).append (.cons a .nil)
theorem RepL.map_int : ∀ {ns : List Int} {vs : List V}, RepL K H (ns.map PV.int) vs → vs = ns.map V.int
  | [], _, r => by cases r; rfl
  | n :: ns, _, r => by
    cases r with
    | cons a b =>
      cases a
      rw [RepL.map_int b]
      rfl
theorem RepL.of_int : ∀ (ns : List Int), RepL K H (ns.map PV.int) (ns.map V.int)
  | [] => .nil
  | n :: ns => .cons (.int n) (RepL.of_int ns)
theorem RepL.map_bl : ∀ {ns : List Bool} {vs : List V}, RepL K H (ns.map PV.bl) vs → vs = ns.map V.bl
  | [], _, r => by cases r; rfl
  | n :: ns, _, r => by
    cases r with
    | cons a b =>
      cases a
      rw [RepL.map_bl b]
      rfl
theorem RepL.map_str : ∀ {ns : List Str} {vs : List V}, RepL K H (ns.map PV.str) vs → vs = ns.map V.str
  | [], _, r => by cases r; rfl
  | n :: ns, _, r => by
    cases r with
    | cons a b =>
      cases a
      rw [RepL.map_str b]
      rfl

/-- the slots -/
abbrev Env := List (Option PV)
structure RepSt (K : Frag) (H : Hp) (ρ : Env) (σ : L2.St) : Prop where
  len : ρ.length = σ.length
  val : ∀ (i : Nat) (x : PV), ρ[i]? = some (some x) → ∃ v, σ[i]? = some (some v) ∧ RepV K H x v
theorem RepSt.mon {ρ : Env} {σ : L2.St} (m : Mon A H H') (r : RepSt K H ρ σ) : RepSt K H' ρ σ :=
  ⟨r.len, fun i x e => let ⟨v, e1, e2⟩ := r.val i x e; ⟨v, e1, e2.mon m⟩⟩
theorem RepSt.set {ρ : Env} {σ : L2.St} {x : PV} {v : V} (r : RepSt K H ρ σ) (i : Nat) (rv : RepV K H x v) : RepSt K H (ρ.set i (some x)) (σ.set i (some v)) := by
  refine ⟨by simpa using r.len, fun j y e => ?_⟩
  by_cases hj : i = j
  · subst hj
    rw [List.getElem?_set] at e ⊢
    rw [if_pos rfl] at e ⊢
    split at e
    · rename_i hl
      cases e
      exact ⟨v, by rw [if_pos (by rw [← r.len]; exact hl)], rv⟩
    · cases e
  · rw [List.getElem?_set_ne hj] at e ⊢
    exact r.val j y e
end
/-- some slots forgotten -/
def wipeE (ρ : Env) : List Nat → Env
  | [] => ρ
  | i :: is => (wipeE ρ is).set i none
theorem RepSt.wipe {K : Frag} {H : Hp} {ρ : Env} {σ : L2.St} (r : RepSt K H ρ σ) : ∀ is : List Nat, RepSt K H (wipeE ρ is) (L2.wipe σ is)
  | [] => r
  | i :: is => by
    have q := RepSt.wipe r is
    refine ⟨by unfold wipeE L2.wipe; simpa using q.len, fun j x e => ?_⟩
    unfold wipeE at e
    unfold L2.wipe
    by_cases hj : i = j
    · subst hj
      rw [List.getElem?_set, if_pos rfl] at e
      split at e <;> cases e
    · rw [List.getElem?_set_ne hj] at e ⊢
      exact q.val j x e
end Ev

set_option Elab.async false
set_option linter.all false
set_option maxRecDepth 100000
set_option maxHeartbeats 4000000
/-! Ev2: readings over pure values; the operations by values. -/
namespace Ev
open PySem PySem.Spec PyProof.Rows L2

abbrev PK := PV → MH → Prop
abbrev LK := List PV → MH → Prop
abbrev WE := Env → MH → PK → Prop
abbrev WT := Env → MH → (Bool → MH → Prop) → Prop
abbrev WA := Env → MH → LK → Prop
abbrev O1 := PV → MH → PK → Prop
abbrev O2 := PV → PV → MH → PK → Prop
abbrev OL := List PV → MH → PK → Prop
def MonE (w : WE) : Prop := ∀ ρ h (P Q : PK), (∀ x h, P x h → Q x h) → w ρ h P → w ρ h Q
def MonT (w : WT) : Prop := ∀ ρ h (P Q : Bool → MH → Prop), (∀ x h, P x h → Q x h) → w ρ h P → w ρ h Q
def MonA (w : WA) : Prop := ∀ ρ h (P Q : LK), (∀ x h, P x h → Q x h) → w ρ h P → w ρ h Q
def Mon1 (o : O1) : Prop := ∀ x h (P Q : PK), (∀ x h, P x h → Q x h) → o x h P → o x h Q
def Mon2 (o : O2) : Prop := ∀ x y h (P Q : PK), (∀ x h, P x h → Q x h) → o x y h P → o x y h Q
def MonL (o : OL) : Prop := ∀ xs h (P Q : PK), (∀ x h, P x h → Q x h) → o xs h P → o xs h Q

/-- what is kept in mind of the heap as it goes (for what is raised) -/
abbrev Jw := (Addr → Prop) → Hp → Prop
structure JOk (J : Jw) : Prop where
  mon : ∀ {A H H'}, J A H → Mon A H H' → J A H'
  big : ∀ {A B H}, J A H → (∀ d, A d → B d) → J B H
abbrev J0 : Jw := fun _ _ => True
theorem j0 : JOk J0 := ⟨fun _ _ => trivial, fun _ _ => trivial⟩
section
variable (K : Frag)
/-- what a wish about the value's reading wants of the value -/
def up (A : Addr → Prop) (H : Hp) (Q : VK) : PK := fun x h' => ∀ v H', Mon A H H' → Rel K A H' h' → RepV K H' x v → Q v H'
def upL (A : Addr → Prop) (H : Hp) (Q : List V → Hp → Prop) : LK := fun x h' => ∀ v H', Mon A H H' → Rel K A H' h' → RepL K H' x v → Q v H'
def upT (A : Addr → Prop) (H : Hp) (Q : Bool → Hp → Prop) : Bool → MH → Prop := fun b h' => ∀ H', Mon A H H' → Rel K A H' h' → Q b H'
def tE (J : Jw) (w : WE) : TE := fun σ H Q => ∃ A ρ h, J A H ∧ RepSt K H ρ σ ∧ Rel K A H h ∧ w ρ h (up K A H Q)
def tT (J : Jw) (w : WT) : TT := fun σ H Q => ∃ A ρ h, J A H ∧ RepSt K H ρ σ ∧ Rel K A H h ∧ w ρ h (upT K A H Q)
def tA (J : Jw) (w : WA) : TA := fun σ H Q => ∃ A ρ h, J A H ∧ RepSt K H ρ σ ∧ Rel K A H h ∧ w ρ h (upL K A H Q)
def l1 (o : O1) : V → Hp → VK → Prop := fun x H Q => ∃ A a h, Rel K A H h ∧ RepV K H a x ∧ o a h (up K A H Q)
def l2 (o : O2) : R2 := fun x y H Q => ∃ A a b h, Rel K A H h ∧ RepV K H a x ∧ RepV K H b y ∧ o a b h (up K A H Q)
def lL (o : OL) : List V → Hp → VK → Prop := fun xs H Q => ∃ A as h, Rel K A H h ∧ RepL K H as xs ∧ o as h (up K A H Q)
end
section
variable {K : Frag} {A : Addr → Prop} {H H' H1 : Hp} {h h1 : MH} {ρ : Env} {σ : L2.St}
theorem up.trans {Q : VK} {x : PV} {h' : MH} (m : Mon A H H1) (u : up K A H Q x h') : up K A H1 Q x h' := fun v H' m' r rv => u v H' (m.trans m') r rv
theorem tE_of {J : Jw} {w : WE} {R : VK} {P : PK} (jj : JOk J) (j : J A H) (rs : RepSt K H ρ σ) (r : Rel K A H h) (m : MonE w) (hw : w ρ h P)
    (k : ∀ x h1 v H1, P x h1 → J A H1 → RepSt K H1 ρ σ → Mon A H H1 → Rel K A H1 h1 → RepV K H1 x v → R v H1) : tE K J w σ H R :=
  ⟨A, ρ, h, j, rs, r, m _ _ _ _ (fun x h1 p v H1 mo re rv => k x h1 v H1 p (jj.mon j mo) (rs.mon mo) mo re rv) hw⟩
theorem tT_of {J : Jw} {w : WT} {R : Bool → Hp → Prop} {P : Bool → MH → Prop} (jj : JOk J) (j : J A H) (rs : RepSt K H ρ σ) (r : Rel K A H h) (m : MonT w) (hw : w ρ h P)
    (k : ∀ x h1 H1, P x h1 → J A H1 → RepSt K H1 ρ σ → Mon A H H1 → Rel K A H1 h1 → R x H1) : tT K J w σ H R :=
  ⟨A, ρ, h, j, rs, r, m _ _ _ _ (fun x h1 p H1 mo re => k x h1 H1 p (jj.mon j mo) (rs.mon mo) mo re) hw⟩
theorem tA_of {J : Jw} {w : WA} {R : List V → Hp → Prop} {P : LK} (jj : JOk J) (j : J A H) (rs : RepSt K H ρ σ) (r : Rel K A H h) (m : MonA w) (hw : w ρ h P)
    (k : ∀ x h1 v H1, P x h1 → J A H1 → RepSt K H1 ρ σ → Mon A H H1 → Rel K A H1 h1 → RepL K H1 x v → R v H1) : tA K J w σ H R :=
  ⟨A, ρ, h, j, rs, r, m _ _ _ _ (fun x h1 p v H1 mo re rv => k x h1 v H1 p (jj.mon j mo) (rs.mon mo) mo re rv) hw⟩
theorem up.now {Q : VK} {x : PV} {v : V} {h : MH} (u : up K A H Q x h) (r : Rel K A H h) (rv : RepV K H x v) : Q v H := u v H .refl r rv
end

/-! ### freezing -/
def fz (Q : VK) : VK := fun v H1 => ∃ a xs, v = .ref a ∧ H1 a = some (.lst xs) ∧ ∀ o, Q v (upd H1 a (.frz o (.lst xs)))
section
variable {X : Cx} {pins : List (Addr × Obj)} {σ : L2.St}
theorem ep_fz {Q : VK} {u : Value} {s' : Shared} (e : EP X pins σ (fz Q) u s') : EP X pins σ Q u s' := by
  obtain ⟨v, H', I, r, a, xs, rfl, ha, q⟩ := e
  obtain ⟨od, J⟩ := I.lock ha trivial
  exact ⟨_, _, J, r, q od⟩
theorem pe_fz {e : Expr} {t : TE} (h : PE X e t) : PE X e (fun σ H Q => t σ H (Ev.fz Q)) :=
  ⟨fun pins s σ H Q I hw => thn (h.run pins s σ H _ I hw) fun _ _ z => ep_fz z⟩
theorem opr_fz {f : Value → Value → Sem Value} {r : R2} (h : OpR X f r) : OpR X f (fun x y H Q => r x y H (Ev.fz Q)) :=
  fun pins s σ H x y v u Q I rx ry hw => thn (h pins s σ H x y v u _ I rx ry hw) fun _ _ z => ep_fz z
theorem callr_fz {f : Value} {r : List V → Hp → VK → Prop} (h : CallR X f r) : CallR X f (fun xs H Q => r xs H (Ev.fz Q)) :=
  fun pins s σ H vs us Q I rv hw => thn (h pins s σ H vs us _ I rv hw) fun _ _ z => ep_fz z
end
/-- a new list: one that may be changed, or a frozen one -/
def allocL (m : Bool) (xs : List PV) (h : MH) (Q : PK) : Prop := match m with
  | false => Q (.lst xs) h
  | true => ∀ p, h p = none → Q (.ref p) (mupd h p (.lst xs))
theorem allocL_mono {m : Bool} {xs : List PV} {h : MH} {P Q : PK} (k : ∀ x h, P x h → Q x h) (a : allocL m xs h P) : allocL m xs h Q := by
  cases m with
  | false => exact k _ _ a
  | true => exact fun p hp => k _ _ (a p hp)
def fzm (m : Bool) (Q : VK) : VK := match m with
  | false => fz Q
  | true => Q
section
variable {X : Cx} {K : Frag} {A : Addr → Prop} {H H' : Hp} {h : MH} {xs : List PV} {vs : List V} {Q : VK} {m : Bool}
/-- the new list stands at p already: (the list at p was out of sight, or is new) -/
theorem alloc_at {H0 : Hp} {p : Addr} (m0 : Mon A H0 (upd H p (.lst vs))) (r : Rel K A (upd H p (.lst vs)) h) (hp : h p = none) (np : ∀ d, A d → d ≠ p) (fr : ∀ o, Mon A H0 (upd H p (.frz o (.lst vs))))
    (rl : RepL K (upd H p (.lst vs)) xs vs) (rl2 : ∀ o, RepL K (upd H p (.frz o (.lst vs))) xs vs) (r2 : ∀ o, Rel K A (upd H p (.frz o (.lst vs))) h) (q : allocL m xs h (up K A H0 Q)) : fzm m Q (.ref p) (upd H p (.lst vs)) := by
  cases m with
  | true =>
    refine q p hp (.ref p) _ m0 ⟨fun a u e => ?_, fun d hd => ⟨?_, (r.hid d hd).2⟩⟩ (.ref p)
    · by_cases ha : a = p
      · subst ha
        rw [mupd_same] at e; cases e
        exact ⟨vs, upd_same, rl⟩
      · rw [mupd_ne ha] at e
        exact r.obj a u e
    · rw [mupd_ne (np d hd)]
      exact (r.hid d hd).1
  | false =>
    refine ⟨p, vs, rfl, upd_same, fun o => ?_⟩
    rw [upd_upd]
    exact q (.ref p) _ (fr o) (r2 o) (.lst ⟨o, upd_same⟩ (rl2 o))
theorem alloc_new {p : Addr} (r : Rel K A H h) (rl : RepL K H xs vs) (hp : H p = none) (q : allocL m xs h (up K A H Q)) : fzm m Q (.ref p) (upd H p (.lst vs)) :=
  alloc_at (r.mon_new hp) (r.laid hp) (r.free hp) (r.nothid hp) (fun o => r.mon_new hp) (rl.mon (r.mon_new hp)) (fun o => rl.mon (r.mon_new (o := .frz o (.lst vs)) hp)) (fun o => r.laid hp) q
theorem tup_new {p : Addr} (r : Rel K A H h) (rl : RepL K H xs vs) (hp : H p = none) (q : up K A H Q (.tup xs) h) : Q (.ref p) (upd H p (.tup vs)) :=
  q (.ref p) _ (r.mon_new hp) (r.laid hp) (.tup (.of upd_same) (rl.mon (r.mon_new (o := .tup vs) hp)))
theorem opr_fzm {f : Value → Value → Sem Value} {r : R2} (hr : OpR X f r) (m : Bool) : OpR X f (fun x y H Q => r x y H (Ev.fzm m Q)) := by
  cases m with
  | true => exact hr
  | false => exact opr_fz hr
theorem callr_fzm {f : Value} {r : List V → Hp → VK → Prop} (hr : CallR X f r) (m : Bool) : CallR X f (fun xs H Q => r xs H (Ev.fzm m Q)) := by
  cases m with
  | true => exact hr
  | false => exact callr_fz hr
theorem pe_fzm {e : Expr} {t : TE} (hr : PE X e t) (m : Bool) : PE X e (fun σ H Q => t σ H (Ev.fzm m Q)) := by
  cases m with
  | true => exact hr
  | false => exact pe_fz hr
end

/-! ### the lists behind a value -/
/-- the items of a list -/
def asLst (h : MH) : PV → Option (List PV)
  | .lst xs => some xs
  | .ref r => (match h r with
    | some (.lst xs) => some xs
    | _ => none)
  | _ => none
/-- .. or of the script -/
def asLstW (h : MH) : PV → Option (List PV)
  | .scr xs => some xs
  | x => asLst h x
/-- .. or of a tuple -/
def asSeq (h : MH) : PV → Option (List PV)
  | .tup xs => some xs
  | .tpl xs => some xs
  | x => asLstW h x
section
variable {K : Frag} {A : Addr → Prop} {H : Hp} {h : MH} {x : PV} {v : V} {xs : List PV}
theorem asLst_rd (r : Rel K A H h) (rv : RepV K H x v) (e : asLst h x = some xs) : ∃ a vs, v = .ref a ∧ Rd H a (.lst vs) ∧ RepL K H xs vs := by
  cases rv with
  | lst s l => cases e; exact ⟨_, _, rfl, s.rd, l⟩
  | ref a =>
    have e : (match h a with | some (.lst xs) => some xs | _ => none) = some xs := e
    split at e
    · rename_i ys q
      cases e
      obtain ⟨vs, z, l⟩ := r.obj a _ q
      exact ⟨_, _, rfl, .of z, l⟩
    · cases e
  | _ => cases e
theorem asLstW_sq (r : Rel K A H h) (rv : RepV K H x v) (e : asLstW h x = some xs) : ∃ a vs, v = .ref a ∧ SqL K H a vs ∧ RepL K H xs vs := by
  have go : asLst h x = some xs → ∃ a vs, v = .ref a ∧ SqL K H a vs ∧ RepL K H xs vs := fun e =>
    let ⟨a, vs, e1, q, l⟩ := asLst_rd r rv e
    ⟨a, vs, e1, .inl q, l⟩
  cases rv with
  | scr s l => cases e; exact ⟨_, _, rfl, s.sq, l⟩
  | _ => exact go e
theorem asSeq_sq (r : Rel K A H h) (rv : RepV K H x v) (e : asSeq h x = some xs) : ∃ a vs, v = .ref a ∧ ((SqL K H a vs ∧ asLstW h x = some xs) ∨ (SqT K H a vs ∧ (x = .tup xs ∨ x = .tpl xs))) ∧ RepL K H xs vs := by
  have go : asLstW h x = some xs → ∃ a vs, v = .ref a ∧ ((SqL K H a vs ∧ asLstW h x = some xs) ∨ (SqT K H a vs ∧ (x = .tup xs ∨ x = .tpl xs))) ∧ RepL K H xs vs := fun e =>
    let ⟨a, vs, e1, q, l⟩ := asLstW_sq r rv e
    ⟨a, vs, e1, .inl ⟨q, e⟩, l⟩
  cases rv with
  | tup s l => cases e; exact ⟨_, _, rfl, .inr ⟨s, .inl rfl⟩, l⟩
  | tpl s l => cases e; exact ⟨_, _, rfl, .inr ⟨s.sq, .inr rfl⟩, l⟩
  | _ => exact go e
end
end Ev

set_option Elab.async false
set_option linter.all false
set_option maxRecDepth 100000
set_option maxHeartbeats 4000000
/-! Ev3: the operations by values. -/
namespace Ev
open PySem PySem.Spec PyProof.Rows L2

/-! ### data -/
mutual
def datV (g : Addr → Option PyData) : PV → Option PyData
  | .non => some .none
  | .bl b => some (.bool b)
  | .int i => some (.int i)
  | .str x => some (.str x)
  | .tup xs => (datL g xs).map .tuple
  | .lst xs => (datL g xs).map .list
  | .scr xs => (datL g xs).map .list
  | .ref a => g a
  | .tpl xs => (datL g xs).map .tuple
  | .ty _ => none
def datL (g : Addr → Option PyData) : List PV → Option (List PyData)
  | [] => some []
  | x :: xs => (datV g x).bind fun d => (datL g xs).map fun ds => d :: ds
end
def deref (h : MH) : Nat → Addr → Option PyData
  | 0, _ => none
  | n + 1, a => match h a with
    | some (.lst xs) => (datL (deref h n) xs).map .list
    | _ => none
/-- the data that a value is, lists that may be changed as they stand (five deep) -/
def dat (h : MH) (x : PV) : Option PyData := datV (deref h 5) x
section
variable {K : Frag} {A : Addr → Prop} {H : Hp} {h : MH}
mutual
theorem datV_dp {g : Addr → Option PyData} (hg : ∀ a d, g a = some d → Dp K H (.ref a) d) : ∀ {x : PV} {v : V} {d : PyData}, RepV K H x v → datV g x = some d → Dp K H v d
  | _, _, _, .non, e => by cases e; exact .non
  | _, _, _, .bl b, e => by cases e; exact .bl b
  | _, _, _, .int b, e => by cases e; exact .int b
  | _, _, _, .str b, e => by cases e; exact .str b
  | _, _, _, .ty b, e => by cases e
  | _, _, _, .ref a, e => hg a _ e
  | _, _, _, .tup (xs := xs) s l, e => by
    simp only [datV] at e
    obtain ⟨ds, e1, rfl⟩ := Option.map_eq_some_iff.mp e
    exact .tup s (datL_dp hg l e1)
  | _, _, _, .lst (xs := xs) s l, e => by
    simp only [datV] at e
    obtain ⟨ds, e1, rfl⟩ := Option.map_eq_some_iff.mp e
    exact .lst (.inl s.rd) (datL_dp hg l e1)
  | _, _, _, .scr (xs := xs) s l, e => by
    simp only [datV] at e
    obtain ⟨ds, e1, rfl⟩ := Option.map_eq_some_iff.mp e
    exact .lst s.sq (datL_dp hg l e1)
  | _, _, _, .tpl (xs := xs) s l, e => by
    simp only [datV] at e
    obtain ⟨ds, e1, rfl⟩ := Option.map_eq_some_iff.mp e
    exact .tup s.sq (datL_dp hg l e1)
theorem datL_dp {g : Addr → Option PyData} (hg : ∀ a d, g a = some d → Dp K H (.ref a) d) : ∀ {xs : List PV} {vs : List V} {ds : List PyData}, RepL K H xs vs → datL g xs = some ds → DpAll K H vs ds
  | _, _, _, .nil, e => by cases e; exact .nil
  | _, _, _, .cons r t, e => by
    simp only [datL] at e
    obtain ⟨d, e1, e2⟩ := Option.bind_eq_some_iff.mp e
    obtain ⟨ds, e3, rfl⟩ := Option.map_eq_some_iff.mp e2
    exact .cons (datV_dp hg r e1) (datL_dp hg t e3)
end
theorem deref_dp (r : Rel K A H h) : ∀ (n : Nat) (a : Addr) (d : PyData), deref h n a = some d → Dp K H (.ref a) d
  | 0, _, _, e => by cases e
  | n + 1, a, d, e => by
    unfold deref at e
    split at e
    · rename_i xs q
      obtain ⟨ds, e1, rfl⟩ := Option.map_eq_some_iff.mp e
      obtain ⟨vs, z, l⟩ := r.obj a _ q
      exact .lst (.of z) (datL_dp (deref_dp r n) l e1)
    · cases e
theorem dat_dp (r : Rel K A H h) {x : PV} {v : V} {d : PyData} (rv : RepV K H x v) (e : dat h x = some d) : Dp K H v d := datV_dp (deref_dp r 5) rv e
end

/-! ### binary operations -/
inductive BOp where
  | add | sub | mul | fdiv | mod | pow
  deriving DecidableEq
def BOp.op : BOp → Operator
  | .add => .Add | .sub => .Sub | .mul => .Mult | .fdiv => .FloorDiv | .mod => .Mod | .pow => .Pow
def opAdd (m : Bool) : O2 := fun x y h Q => match x, y with
  | .int i, .int j => Q (.int (i + j)) h
  | .str a, .str b => a.length + b.length ≤ sizeLine ∧ Q (.str (a ++ b)) h
  | .tup xs, .tup ys => xs.length + ys.length ≤ sizeLine ∧ Q (.tup (xs ++ ys)) h
  | x, y => ∃ xs ys, asLst h x = some xs ∧ asLst h y = some ys ∧ xs.length + ys.length ≤ sizeLine ∧ allocL m (xs ++ ys) h Q
def opSub : O2 := fun x y h Q => match x, y with
  | .int i, .int j => Q (.int (i - j)) h
  | _, _ => False
def opMul (m : Bool) : O2 := fun x y h Q => match x, y with
  | .int i, .int j => (CMul i j ∨ CMulW i j) ∧ Q (.int (i * j)) h
  | .tup xs, .int k => xs ≠ [] ∧ 2 ≤ k ∧ k ≤ 1000 ∧ xs.length ≤ 1000 ∧ Q (.tup (List.replicate k.toNat xs).flatten) h
  | x, .int k => ∃ xs, asLst h x = some xs ∧ -(2 ^ 63) ≤ k ∧ k < 2 ^ 63 ∧ xs.length * k.toNat ≤ sizeLine ∧ allocL m (List.replicate k.toNat xs).flatten h Q
  | _, _ => False
def opFdiv : O2 := fun x y h Q => match x, y with
  | .int i, .int j => CDivW i j ∧ Q (.int (i / j)) h
  | _, _ => False
def opMod : O2 := fun x y h Q => match x, y with
  | .int i, .int j => 0 < j ∧ Q (.int (i % j)) h
  | _, _ => False
def opPow : O2 := fun x y h Q => match x, y with
  | .int i, .int j => CPow i j ∧ Q (.int (i ^ j.toNat)) h
  | _, _ => False
def binOp (m : Bool) : BOp → O2
  | .add => opAdd m | .sub => opSub | .mul => opMul m | .fdiv => opFdiv | .mod => opMod | .pow => opPow

theorem mono_opAdd (m : Bool) : Mon2 (opAdd m) := by
  intro x y h P Q k
  unfold opAdd
  split
  · exact k _ _
  · exact fun z => ⟨z.1, k _ _ z.2⟩
  · exact fun z => ⟨z.1, k _ _ z.2⟩
  · exact fun ⟨xs, ys, e1, e2, e3, a⟩ => ⟨xs, ys, e1, e2, e3, allocL_mono k a⟩
theorem mono_opSub : Mon2 opSub := by
  intro x y h P Q k
  unfold opSub
  split
  · exact k _ _
  · exact id
theorem mono_opMul (m : Bool) : Mon2 (opMul m) := by
  intro x y h P Q k
  unfold opMul
  split
  · exact fun z => ⟨z.1, k _ _ z.2⟩
  · exact fun ⟨e1, e2, e3, e4, a⟩ => ⟨e1, e2, e3, e4, k _ _ a⟩
  · exact fun ⟨xs, e1, e2, e3, e4, a⟩ => ⟨xs, e1, e2, e3, e4, allocL_mono k a⟩
  · exact id
theorem mono_opFdiv : Mon2 opFdiv := by
  intro x y h P Q k
  unfold opFdiv
  split
  · exact fun z => ⟨z.1, k _ _ z.2⟩
  · exact id
theorem mono_opMod : Mon2 opMod := by
  intro x y h P Q k
  unfold opMod
  split
  · exact fun z => ⟨z.1, k _ _ z.2⟩
  · exact id
theorem mono_opPow : Mon2 opPow := by
  intro x y h P Q k
  unfold opPow
  split
  · exact fun z => ⟨z.1, k _ _ z.2⟩
  · exact id
theorem mono_bin (m : Bool) : ∀ op, Mon2 (binOp m op)
  | .add => mono_opAdd m | .sub => mono_opSub | .mul => mono_opMul m | .fdiv => mono_opFdiv | .mod => mono_opMod | .pow => mono_opPow

section
variable {X : Cx}
/-- list + list, lists that are read -/
def rCatR : R2 := fun x y H Q => ∃ l b xs zs, x = .ref l ∧ y = .ref b ∧ Rd H l (.lst xs) ∧ Rd H b (.lst zs) ∧ xs.length + zs.length ≤ sizeLine ∧ ∀ p, H p = none → Q (.ref p) (upd H p (.lst (xs ++ zs)))
theorem rdL {pins : List (Addr × Obj)} {σ : L2.St} {H : Hp} {s : Shared} {l : Addr} {xs : List V} (I : Inv X pins σ H s) (hH : Rd H l (.lst xs)) :
    xs.length ≤ sizeLine ∧ ∃ (its : List Value) (n : Nat), Vals xs its ∧ xs.length = its.length ∧ s.heap.get? l = some { cls := .type "list", data := .seq its.toArray n } := by
  obtain ⟨z, its, n, r, e⟩ := hH.ok I.hok
  exact ⟨z, its, n, r, r.length, e⟩
theorem op_catR : OpR X (binaryOp .Add) rCatR := by
  intro pins s σ H x y v u Q I rx ry h
  obtain ⟨l, b, xs, zs, rfl, rfl, hH, hB, hz, q⟩ := h
  cases rx
  cases ry
  obtain ⟨z, its, n, r, hl, e⟩ := rdL I hH
  obtain ⟨z2, its2, n2, r2, hl2, e2⟩ := rdL I hB
  refine PySem.P.add_list e e2 ?_ (by rw [List.size_toArray, List.size_toArray]; omega)
  have ea : its.toArray ++ its2.toArray = (its ++ its2).toArray := by simp
  rw [ea]
  exact ⟨.ref _, _, I.lnew (t' := s.toks) (r.append r2) (by rw [List.length_append]; omega), rfl, q _ I.fresh⟩
def rRepR : R2 := fun x y H Q => ∃ l k xs, x = .ref l ∧ y = .int k ∧ Rd H l (.lst xs) ∧ -(2 ^ 63) ≤ k ∧ k < 2 ^ 63 ∧ xs.length * k.toNat ≤ sizeLine ∧
  ∀ p, H p = none → Q (.ref p) (upd H p (.lst (List.replicate k.toNat xs).flatten))
theorem op_repR : OpR X (binaryOp .Mult) rRepR := by
  intro pins s σ H x y v u Q I rx ry h
  obtain ⟨l, k, xs, rfl, rfl, hH, h1, h2, hz, q⟩ := h
  cases rx
  obtain ⟨t, rfl⟩ := ry
  obtain ⟨z, its, n, r, hl, e⟩ := rdL I hH
  have hlen : its.toArray.size * k.toNat ≤ sizeLine := by rw [List.size_toArray, ← hl]; exact hz
  have hcap : ¬ its.toArray.size * k.toNat > (2 ^ 63 - 1) / 8 := by
    have : (sizeLine : Nat) ≤ (2 ^ 63 - 1) / 8 := by decide
    omega
  have hfit : ¬ (!Builtin.List.listFitsIndex k) = true := by
    rw [fitsIndex_both h1 h2]
    exact Bool.false_ne_true
  have hlong : ¬ Builtin.List.listTooLong (its.toArray.size * k.toNat) = true := by
    rw [notLongL hlen]
    exact Bool.false_ne_true
  have hnew : List.foldl (fun x1 x2 => x1 ++ x2) #[] (List.replicate (if its.toArray.isEmpty = true then 0 else k.toNat) its.toArray) = (List.replicate k.toNat its).flatten.toArray := by
    have f0 : ∀ m : Nat, List.foldl (fun x1 x2 => x1 ++ x2) #[] (List.replicate m its.toArray) = (List.replicate m its).flatten.toArray := fun m => by
      have := foldl_rep its m []
      rw [List.nil_append] at this
      exact this
    rw [f0]
    cases its with
    | nil => simp
    | cons a r' => rw [if_neg (by simp)]
  refine wpAny_binaryOp_repeat_ref (T := "list") (U := "int") (by decide) ⟨_, e, rfl⟩ (fun s' => typeIs_int s' k t) noFill_list_mul F.fills_int_mul F.slot_int_rmul repeat_list F.slot_int_index.lookup
    (call_meets F.slot_int_rmul (typeIs_int s k t) F.entry_int_rmul (F.args_int_rmul_2 _ _) (int___rmul___int_list k t l its.toArray n)
      ⟨e, rfl, ⟨_, e, rfl⟩, call_meets F.slot_list_mul ⟨_, e, rfl⟩ F.entry_list_mul (F.args_list_mul_2 _ _) (AutoListH.list___mul___list_int_3 l its.toArray n k t hfit hcap hlong) ⟨e, ?_⟩⟩)
  rw [hnew]
  exact ⟨.ref _, _, I.lnew (t' := s.toks) (r.rep k.toNat) (by rw [PyProof.Rows.lm_len_rep_flat, Nat.mul_comm]; exact hz), rfl, q _ I.fresh⟩

theorem ok_opAdd (m : Bool) : OpR X (binaryOp .Add) (l2 X.K (opAdd m)) := by
  intro pins s σ H x y v u Q I rx ry hw
  obtain ⟨A, a, b, h, r, ra, rb, q⟩ := hw
  have lists : (∃ xs ys, asLst h a = some xs ∧ asLst h b = some ys ∧ xs.length + ys.length ≤ sizeLine ∧ allocL m (xs ++ ys) h (up X.K A H Q)) → wpAny (model X.prog X.w) X.A (binaryOp .Add v u) (EP X pins σ Q) X.xe s := by
    rintro ⟨xs, ys, e1, e2, hz, al⟩
    obtain ⟨l, vs, rfl, h1, l1⟩ := asLst_rd r ra e1
    obtain ⟨l', ws, rfl, h2, l2⟩ := asLst_rd r rb e2
    exact opr_fzm op_catR m pins s σ H _ _ v u Q I rx ry ⟨l, l', vs, ws, rfl, rfl, h1, h2, by rw [← l1.length, ← l2.length]; exact hz, fun p hp => alloc_new r (l1.append l2) hp al⟩
  unfold opAdd at q
  split at q
  · cases ra; cases rb
    exact op_add pins s σ H _ _ v u Q I rx ry ⟨_, _, rfl, rfl, q.now r (.int _)⟩
  · cases ra; cases rb
    exact op_add_str pins s σ H _ _ v u Q I rx ry ⟨_, _, rfl, rfl, q.1, q.2.now r (.str _)⟩
  · cases ra with
    | tup s1 t1 =>
      cases rb with
      | tup s2 t2 =>
        refine op_catA pins s σ H _ _ v u Q I rx ry ⟨_, _, _, _, rfl, rfl, s1, s2, by rw [← t1.length, ← t2.length]; exact q.1, fun e => ?_, fun e1 e2 => ?_, fun e1 e2 p hp => ?_⟩
        · subst e
          cases t1
          exact q.2.now r (.tup s2 t2)
        · subst e2
          cases t2
          refine q.2.now r ?_
          rw [List.append_nil]
          exact .tup s1 t1
        · exact tup_new r (t1.append t2) hp q.2
  · exact lists q
theorem ok_opSub : OpR X (binaryOp .Sub) (l2 X.K opSub) := by
  intro pins s σ H x y v u Q I rx ry hw
  obtain ⟨A, a, b, h, r, ra, rb, q⟩ := hw
  unfold opSub at q
  split at q
  · cases ra; cases rb
    exact op_sub pins s σ H _ _ v u Q I rx ry ⟨_, _, rfl, rfl, q.now r (.int _)⟩
  · exact q.elim
theorem ok_opMul (m : Bool) : OpR X (binaryOp .Mult) (l2 X.K (opMul m)) := by
  intro pins s σ H x y v u Q I rx ry hw
  obtain ⟨A, a, b, h, r, ra, rb, q⟩ := hw
  unfold opMul at q
  split at q
  · cases ra; cases rb
    rcases q.1 with z | z
    · exact op_mul pins s σ H _ _ v u Q I rx ry ⟨_, _, rfl, rfl, z, q.2.now r (.int _)⟩
    · exact op_mulW pins s σ H _ _ v u Q I rx ry ⟨_, _, rfl, rfl, z, q.2.now r (.int _)⟩
  · cases rb
    cases ra with
    | tup s1 t1 =>
      obtain ⟨n0, k1, k2, hz, q⟩ := q
      refine op_repT pins s σ H _ _ v u Q I rx ry ⟨_, _, _, rfl, rfl, s1, fun e => ?_, k1, k2, by rw [← t1.length]; exact hz, fun p hp => tup_new r (t1.rep _) hp q⟩
      subst e
      cases t1
      exact n0 rfl
  · cases rb
    obtain ⟨xs, e1, k1, k2, hz, al⟩ := q
    obtain ⟨l, vs, rfl, h1, l1⟩ := asLst_rd r ra e1
    exact opr_fzm op_repR m pins s σ H _ _ v u Q I rx ry ⟨l, _, vs, rfl, rfl, h1, k1, k2, by rw [← l1.length]; exact hz, fun p hp => alloc_new r (l1.rep _) hp al⟩
  · exact q.elim
theorem ok_opFdiv : OpR X (binaryOp .FloorDiv) (l2 X.K opFdiv) := by
  intro pins s σ H x y v u Q I rx ry hw
  obtain ⟨A, a, b, h, r, ra, rb, q⟩ := hw
  unfold opFdiv at q
  split at q
  · cases ra; cases rb
    exact op_fdivW pins s σ H _ _ v u Q I rx ry ⟨_, _, rfl, rfl, q.1, q.2.now r (.int _)⟩
  · exact q.elim
theorem ok_opMod : OpR X (binaryOp .Mod) (l2 X.K opMod) := by
  intro pins s σ H x y v u Q I rx ry hw
  obtain ⟨A, a, b, h, r, ra, rb, q⟩ := hw
  unfold opMod at q
  split at q
  · cases ra; cases rb
    exact op_mod pins s σ H _ _ v u Q I rx ry ⟨_, _, rfl, rfl, q.1, q.2.now r (.int _)⟩
  · exact q.elim
theorem ok_opPow : OpR X (binaryOp .Pow) (l2 X.K opPow) := by
  intro pins s σ H x y v u Q I rx ry hw
  obtain ⟨A, a, b, h, r, ra, rb, q⟩ := hw
  unfold opPow at q
  split at q
  · cases ra; cases rb
    exact op_pow pins s σ H _ _ v u Q I rx ry ⟨_, _, rfl, rfl, q.1, q.2.now r (.int _)⟩
  · exact q.elim
theorem ok_bin (m : Bool) : ∀ op, OpR X (binaryOp op.op) (l2 X.K (binOp m op))
  | .add => ok_opAdd m | .sub => ok_opSub | .mul => ok_opMul m | .fdiv => ok_opFdiv | .mod => ok_opMod | .pow => ok_opPow
end

/-! ### comparisons -/
inductive COp where
  | eq | ne | lt | le | gt | ge | in_ | notIn | is_ | isNot | eqE | neE
  deriving DecidableEq
def COp.op : COp → CmpOp
  | .eq => .Eq | .ne => .NotEq | .lt => .Lt | .le => .LtE | .gt => .Gt | .ge => .GtE | .in_ => .In | .notIn => .NotIn | .is_ => .Is | .isNot => .IsNot | .eqE => .Eq | .neE => .NotEq
def opEq (neg : Bool) : O2 := fun x y h Q => match x, y with
  | .str a, .str b => Q (.bl (neg != decide (a = b))) h
  | x, y => ∃ d e, dat h x = some d ∧ dat h y = some e ∧ SeqAt.shaped d = true ∧ SeqAt.shaped e = true ∧ Q (.bl (neg != PyData.eqv d e)) h
def opCmp (p : Int → Int → Bool) : O2 := fun x y h Q => match x, y with
  | .int i, .int j => Q (.bl (p i j)) h
  | _, _ => False
def opIn (neg : Bool) : O2 := fun x y h Q => match x, y with
  | .str a, .str b => Q (.bl (neg != !(Builtin.Str.occurrences b a 0 b.length 1).isEmpty)) h
  | x, y => ∃ xs d ds, asSeq h y = some xs ∧ dat h x = some d ∧ datL (deref h 5) xs = some ds ∧ SeqAt.shaped d = true ∧ SeqAt.shaped (.list ds) = true ∧ Q (.bl (neg != ds.any fun z => PyData.eqv z d)) h
def isNon : PV → Bool
  | .non => true
  | _ => false
def opIs (neg : Bool) : O2 := fun x y h Q => match y with
  | .non => Q (.bl (neg != isNon x)) h
  | .bl b => (match x with
    | .bl a => Q (.bl (neg != decide (a = b))) h
    | _ => False)
  | _ => False
/-- == with an empty list, an empty tuple -/
def opEqE (neg : Bool) : O2 := fun x y h Q => match y with
  | .lst [] => ∃ xs, asLstW h x = some xs ∧ Q (.bl (neg != xs.isEmpty)) h
  | .tup [] => (match x with
    | .tup xs => Q (.bl (neg != xs.isEmpty)) h
    | _ => False)
  | _ => False
def cmpOp : COp → O2
  | .eq => opEq false | .ne => opEq true
  | .lt => opCmp fun i j => decide (i < j) | .le => opCmp fun i j => decide (i ≤ j)
  | .gt => opCmp fun i j => decide (j < i) | .ge => opCmp fun i j => decide (j ≤ i)
  | .in_ => opIn false | .notIn => opIn true | .is_ => opIs false | .isNot => opIs true | .eqE => opEqE false | .neE => opEqE true
theorem mono_opEq (n : Bool) : Mon2 (opEq n) := by
  intro x y h P Q k
  unfold opEq
  split
  · exact k _ _
  · exact fun ⟨d, e, h1, h2, h3, h4, q⟩ => ⟨d, e, h1, h2, h3, h4, k _ _ q⟩
theorem mono_opCmp (p : Int → Int → Bool) : Mon2 (opCmp p) := by
  intro x y h P Q k
  unfold opCmp
  split
  · exact k _ _
  · exact id
theorem mono_opIn (n : Bool) : Mon2 (opIn n) := by
  intro x y h P Q k
  unfold opIn
  split
  · exact k _ _
  · exact fun ⟨xs, d, ds, h1, h2, h3, h4, h5, q⟩ => ⟨xs, d, ds, h1, h2, h3, h4, h5, k _ _ q⟩
theorem mono_opIs (n : Bool) : Mon2 (opIs n) := by
  intro x y h P Q k
  unfold opIs
  split
  · exact k _ _
  · split
    · exact k _ _
    · exact id
  · exact id
theorem mono_opEqE (n : Bool) : Mon2 (opEqE n) := by
  intro x y h P Q k
  unfold opEqE
  split
  · exact fun ⟨xs, e, q⟩ => ⟨xs, e, k _ _ q⟩
  · split
    · exact k _ _
    · exact id
  · exact id
theorem mono_cmp : ∀ op, Mon2 (cmpOp op)
  | .eq => mono_opEq _ | .ne => mono_opEq _ | .lt => mono_opCmp _ | .le => mono_opCmp _ | .gt => mono_opCmp _ | .ge => mono_opCmp _
  | .in_ => mono_opIn _ | .notIn => mono_opIn _ | .is_ => mono_opIs _ | .isNot => mono_opIs _ | .eqE => mono_opEqE _ | .neE => mono_opEqE _
section
variable {X : Cx}
theorem isNon_iff {K : Frag} {H : Hp} {x : PV} {v : V} (r : RepV K H x v) : isNon x = decide (v = .non) := by
  cases r <;> first | rfl | (symm; exact decide_eq_false (fun z => nomatch z))
theorem str_dec {a b : Str} : decide (V.str a = V.str b) = decide (a = b) := by
  by_cases e : a = b
  · rw [decide_eq_true e, decide_eq_true (congrArg V.str e)]
  · rw [decide_eq_false e, decide_eq_false (fun z => e (V.str.inj z))]
theorem ok_opEq (hu : X.A.units + 64 < cLine) : OpR X (compareOp .Eq) (l2 X.K (opEq false)) := by
  intro pins s σ H x y v u Q I rx ry hw
  obtain ⟨A, a, b, h, r, ra, rb, hw⟩ := hw
  unfold opEq at hw
  split at hw
  · cases ra; cases rb
    refine op_eq pins s σ H _ _ v u Q I rx ry ⟨rfl, ?_⟩
    rw [str_dec, ← Bool.false_bne (decide _)]
    exact hw.now r (.bl _)
  obtain ⟨d, e, e1, e2, s1, s2, q⟩ := hw
  exact op_eqD hu pins s σ H x y v u Q I rx ry ⟨d, e, dat_dp r ra e1, dat_dp r rb e2, s1, s2, by rw [← Bool.false_bne (PyData.eqv d e)]; exact q.now r (.bl _)⟩
theorem ok_opNe (hu : X.A.units + 64 < cLine) : OpR X (compareOp .NotEq) (l2 X.K (opEq true)) := by
  intro pins s σ H x y v u Q I rx ry hw
  obtain ⟨A, a, b, h, r, ra, rb, hw⟩ := hw
  unfold opEq at hw
  split at hw
  · cases ra; cases rb
    refine op_ne pins s σ H _ _ v u Q I rx ry ⟨rfl, ?_⟩
    rw [str_dec, ← Bool.true_bne (decide _)]
    exact hw.now r (.bl _)
  obtain ⟨d, e, e1, e2, s1, s2, q⟩ := hw
  exact op_neD hu pins s σ H x y v u Q I rx ry ⟨d, e, dat_dp r ra e1, dat_dp r rb e2, s1, s2, by rw [← Bool.true_bne (PyData.eqv d e)]; exact q.now r (.bl _)⟩
theorem ok_cmpI {op : CmpOp} {p : Int → Int → Bool} (ho : OpR X (compareOp op) (rI0 fun i j => .bl (p i j))) : OpR X (compareOp op) (l2 X.K (opCmp p)) := by
  intro pins s σ H x y v u Q I rx ry hw
  obtain ⟨A, a, b, h, r, ra, rb, q⟩ := hw
  unfold opCmp at q
  split at q
  · cases ra; cases rb
    exact ho pins s σ H _ _ v u Q I rx ry ⟨_, _, rfl, rfl, q.now r (.bl _)⟩
  · exact q.elim
theorem ok_opIs : OpR X (compareOp .Is) (l2 X.K (opIs false)) := by
  intro pins s σ H x y v u Q I rx ry hw
  obtain ⟨A, a, b, h, r, ra, rb, q⟩ := hw
  unfold opIs at q
  split at q
  · cases rb
    refine op_isN pins s σ H _ _ v u Q I rx ry ⟨rfl, ?_⟩
    rw [← isNon_iff ra, ← Bool.false_bne (isNon a)]
    exact q.now r (.bl _)
  · cases rb
    split at q
    · cases ra
      refine op_isBl pins s σ H _ _ v u Q I rx ry ⟨_, _, rfl, rfl, ?_⟩
      rw [← Bool.false_bne (decide _)]
      exact q.now r (.bl _)
    · exact q.elim
  · exact q.elim
theorem ok_opIsNot : OpR X (compareOp .IsNot) (l2 X.K (opIs true)) := by
  intro pins s σ H x y v u Q I rx ry hw
  obtain ⟨A, a, b, h, r, ra, rb, q⟩ := hw
  unfold opIs at q
  split at q
  · cases rb
    refine op_notN pins s σ H _ _ v u Q I rx ry ⟨rfl, ?_⟩
    rw [← isNon_iff ra, ← Bool.true_bne (isNon a)]
    exact q.now r (.bl _)
  · cases rb
    split at q
    · cases ra
      refine op_notBl pins s σ H _ _ v u Q I rx ry ⟨_, _, rfl, rfl, ?_⟩
      rw [← Bool.true_bne (decide _)]
      exact q.now r (.bl _)
    · exact q.elim
  · exact q.elim
end
end Ev

set_option Elab.async false
set_option linter.all false
set_option maxRecDepth 100000
set_option maxHeartbeats 4000000
/-! Ev4: in, subscripts, slices, calls of built-ins by values. -/
namespace Ev
open PySem PySem.Spec PyProof.Rows L2
section
variable {X : Cx}
/-- the list or tuple behind a value, read -/
theorem seq_reads {K : Frag} {pins : List (Addr × Obj)} {σ : L2.St} {A : Addr → Prop} {H : Hp} {h : MH} {s : Shared} {y : PV} {v : V} {u : Value} {xs : List PV} {ds : List PyData} (I : Inv X pins σ H s) (eK : X.K = K) (r : Rel K A H h) (rv : RepV K H y v) (rx : RelV v u) (e : asSeq h y = some xs) (ed : datL (deref h 5) xs = some ds) :
    (∃ as, Reads s.heap u (.list ds) as) ∨ ∃ as, Reads s.heap u (.tuple ds) as := by
  subst eK
  obtain ⟨a, vs, rfl, hq, l⟩ := asSeq_sq r rv e
  have dl := datL_dp (deref_dp r 5) l ed
  rcases hq with ⟨hq, _⟩ | ⟨hq, _⟩
  · exact .inl (Dp.reads I (.list ds) _ _ (.lst hq dl) rx)
  · exact .inr (Dp.reads I (.tuple ds) _ _ (.tup hq dl) rx)
theorem ok_opIn (hu : X.A.units + 65 < cLine) : OpR X (compareOp .In) (l2 X.K (opIn false)) := by
  intro pins s σ H x y v u Q I rx ry hw
  obtain ⟨A, a, b, h, r, ra, rb, q⟩ := hw
  unfold opIn at q
  split at q
  · cases ra; cases rb
    refine op_in_str pins s σ H _ _ v u Q I rx ry ⟨_, _, rfl, rfl, ?_⟩
    rw [← Bool.false_bne (!_)]
    exact q.now r (.bl _)
  · obtain ⟨xs, d, ds, e1, e2, e3, s1, s2, q⟩ := q
    obtain ⟨bs, r1⟩ := Dp.reads I d x v (dat_dp r ra e2) rx
    rw [Bool.false_bne] at q
    rcases seq_reads I rfl r rb ry e1 e3 with ⟨as, r2⟩ | ⟨as, r2⟩
    · exact SeqAt.in_list_reads r2 r1 (SeqAt.canLay_of_shaped s2) (SeqAt.canLay_of_shaped s1) (room_in_shaped s1 hu) ⟨.bl _, H, I, rfl, q.now r (.bl _)⟩
    · exact SeqAt.in_tuple_reads r2 r1 (SeqAt.canLay_of_shaped s2) (SeqAt.canLay_of_shaped s1) (room_in_shaped s1 hu) ⟨.bl _, H, I, rfl, q.now r (.bl _)⟩
theorem ok_opNotIn (hu : X.A.units + 65 < cLine) : OpR X (compareOp .NotIn) (l2 X.K (opIn true)) := by
  intro pins s σ H x y v u Q I rx ry hw
  obtain ⟨A, a, b, h, r, ra, rb, q⟩ := hw
  unfold opIn at q
  split at q
  · cases ra; cases rb
    refine op_notIn_str pins s σ H _ _ v u Q I rx ry ⟨_, _, rfl, rfl, ?_⟩
    rw [← Bool.true_bne (!_)]
    exact q.now r (.bl _)
  · obtain ⟨xs, d, ds, e1, e2, e3, s1, s2, q⟩ := q
    obtain ⟨bs, r1⟩ := Dp.reads I d x v (dat_dp r ra e2) rx
    rw [Bool.true_bne] at q
    rcases seq_reads I rfl r rb ry e1 e3 with ⟨as, r2⟩ | ⟨as, r2⟩
    · exact SeqAt.notIn_list_reads r2 r1 (SeqAt.canLay_of_shaped s2) (SeqAt.canLay_of_shaped s1) (room_in_shaped s1 hu) ⟨.bl _, H, I, rfl, q.now r (.bl _)⟩
    · exact SeqAt.notIn_tuple_reads r2 r1 (SeqAt.canLay_of_shaped s2) (SeqAt.canLay_of_shaped s1) (room_in_shaped s1 hu) ⟨.bl _, H, I, rfl, q.now r (.bl _)⟩
theorem all_nil {e : Nat → Bool} {n m : Nat} (h : min n m = 0) : (List.range (min n m)).all e = true := by rw [h]; rfl
theorem isEmpty_len {xs : List PV} {vs : List V} {us : List Value} {K : Frag} {H : Hp} (l : RepL K H xs vs) (r : Vals vs us) : xs.isEmpty = us.isEmpty := by
  have h := l.length.trans r.length
  cases xs <;> cases us <;> simp_all
theorem ok_opEqE (hu : X.A.units + 65 < cLine) : OpR X (compareOp .Eq) (l2 X.K (opEqE false)) := by
  intro pins s σ H x y v u Q I rx ry hw
  obtain ⟨A, a, b, h, r, ra, rb, q⟩ := hw
  have hu' : X.A.units < cLine := by omega
  unfold opEqE at q
  split at q
  · obtain ⟨xs, e, q⟩ := q
    rw [Bool.false_bne] at q
    obtain ⟨p, vs, rfl, hq, l⟩ := asLstW_sq r ra e
    cases rb with
    | lst sb lb =>
      cases lb
      cases rx; cases ry
      obtain ⟨its, rv, pl, _⟩ := I.list hq
      obtain ⟨its2, rv2, pl2, _⟩ := I.list (.inl sb.rd)
      cases rv2
      rw [isEmpty_len l rv] at q
      by_cases z : its = []
      · subst z
        exact SeqAt.RcAt.lists (e := fun _ => true) pl.isList pl2.isList rfl hu' (fun j h1 => by simp at h1) X.prog X.w _ _ ⟨.bl true, H, I, rfl, q.now r (.bl _)⟩
      · have hz : (its.toArray.size != ([] : List Value).toArray.size) = true := by cases its <;> simp_all
        have e0 : its.isEmpty = false := by cases its <;> simp_all
        rw [e0] at q
        exact SeqAt.RcAt.lists_lengths pl.isList pl2.isList hz hu' X.prog X.w _ _ ⟨.bl false, H, I, rfl, q.now r (.bl _)⟩
  · split at q
    · cases ra with
      | tup sa la =>
        cases rb with
        | tup sb lb =>
          cases lb
          rename_i xs _ _ _
          cases rx; cases ry
          obtain ⟨its, rv, pl, _⟩ := I.tuple sa
          obtain ⟨its2, rv2, pl2, _⟩ := I.tuple sb
          cases rv2
          rw [Bool.false_bne, isEmpty_len la rv] at q
          refine SeqAt.RcAt.tuples (e := fun _ => true) pl pl2 hu' (fun j h1 h2 => by simp at h2) X.prog X.w _ _ ⟨.bl its.isEmpty, H, I, ?_, q.now r (.bl _)⟩
          show Value.bool _ = Value.bool _
          congr 1
          cases its <;> simp
    · exact q.elim
  · exact q.elim
theorem ok_opNeE (hu : X.A.units + 65 < cLine) : OpR X (compareOp .NotEq) (l2 X.K (opEqE true)) := by
  intro pins s σ H x y v u Q I rx ry hw
  obtain ⟨A, a, b, h, r, ra, rb, q⟩ := hw
  have hu' : X.A.units < cLine := by omega
  unfold opEqE at q
  split at q
  · obtain ⟨xs, e, q⟩ := q
    rw [Bool.true_bne] at q
    obtain ⟨p, vs, rfl, hq, l⟩ := asLstW_sq r ra e
    cases rb with
    | lst sb lb =>
      cases lb
      cases rx; cases ry
      obtain ⟨its, rv, pl, _⟩ := I.list hq
      obtain ⟨its2, rv2, pl2, _⟩ := I.list (.inl sb.rd)
      cases rv2
      rw [isEmpty_len l rv] at q
      by_cases z : its = []
      · subst z
        exact SeqAt.RcNeAt.lists (e := fun _ => true) pl.isList pl2.isList rfl hu' (fun j h1 => by simp at h1) X.prog X.w _ _ ⟨.bl false, H, I, rfl, q.now r (.bl _)⟩
      · have hz : (its.toArray.size != ([] : List Value).toArray.size) = true := by cases its <;> simp_all
        have e0 : its.isEmpty = false := by cases its <;> simp_all
        rw [e0] at q
        exact SeqAt.RcNeAt.lists_lengths pl.isList pl2.isList hz hu' X.prog X.w _ _ ⟨.bl true, H, I, rfl, q.now r (.bl _)⟩
  · split at q
    · cases ra with
      | tup sa la =>
        cases rb with
        | tup sb lb =>
          cases lb
          cases rx; cases ry
          obtain ⟨its, rv, pl, _⟩ := I.tuple sa
          obtain ⟨its2, rv2, pl2, _⟩ := I.tuple sb
          cases rv2
          rw [Bool.true_bne, isEmpty_len la rv] at q
          refine SeqAt.RcNeAt.tuples (e := fun _ => true) pl pl2 hu' (fun j h1 h2 => by simp at h2) X.prog X.w _ _ ⟨.bl (!its.isEmpty), H, I, ?_, q.now r (.bl _)⟩
          show Value.bool _ = Value.bool _
          congr 1
          cases its <;> simp
    · exact q.elim
  · exact q.elim
theorem ok_cmp (hu : X.A.units + 65 < cLine) : ∀ op : COp, OpR X (compareOp op.op) (l2 X.K (cmpOp op))
  | .eq => ok_opEq (by omega) | .ne => ok_opNe (by omega)
  | .lt => ok_cmpI op_lt | .le => ok_cmpI op_le | .gt => ok_cmpI op_gt | .ge => ok_cmpI op_ge
  | .in_ => ok_opIn hu | .notIn => ok_opNotIn hu | .is_ => ok_opIs | .isNot => ok_opIsNot | .eqE => ok_opEqE hu | .neE => ok_opNeE hu

/-! ### subscripts -/
def opIx : O2 := fun x y h Q => match y with
  | .int i => (match x with
    | .str z => z.length ≤ sizeLine ∧ ∃ c, atI z.cps.toList i = some c ∧ Q (.str ⟨#[c]⟩) h
    | x => ∃ xs v, asSeq h x = some xs ∧ atI xs i = some v ∧ Q v h)
  | _ => False
theorem mono_opIx : Mon2 opIx := by
  intro x y h P Q k
  unfold opIx
  split
  · split
    · exact fun ⟨z, c, e, q⟩ => ⟨z, c, e, k _ _ q⟩
    · exact fun ⟨xs, v, e1, e2, q⟩ => ⟨xs, v, e1, e2, k _ _ q⟩
  · exact id
theorem RepL.atI {K : Frag} {H : Hp} {xs : List PV} {vs : List V} {i : Int} {x : PV} (l : RepL K H xs vs) (e : L2.atI xs i = some x) : ∃ v, L2.atI vs i = some v ∧ RepV K H x v := by
  unfold L2.atI at e ⊢
  obtain ⟨j, e1, e2⟩ := Option.bind_eq_some_iff.mp e
  obtain ⟨v, e3, rv⟩ := l.get e2
  exact ⟨v, by rw [← l.length, e1]; exact e3, rv⟩
theorem ok_opIx : IxR X (l2 X.K opIx) := by
  intro value slice pins s σ H x y v u Q I rx ry hw hs
  obtain ⟨A, a, b, h, r, ra, rb, q⟩ := hw
  unfold opIx at q
  split at q
  · cases rb
    split at q
    · cases ra
      obtain ⟨hz, c, e, q⟩ := q
      exact ix_str value slice pins s σ H _ _ v u Q I rx ry ⟨_, _, c, rfl, rfl, hz, e, q.now r (.str _)⟩ hs
    · obtain ⟨xs, z, e1, e2, q⟩ := q
      obtain ⟨p, vs, rfl, hq, l⟩ := asSeq_sq r ra e1
      obtain ⟨w, e3, rw'⟩ := l.atI e2
      rcases hq with ⟨hq, _⟩ | ⟨hq, _⟩
      · exact ix_list value slice pins s σ H _ _ v u Q I rx ry ⟨p, vs, _, w, rfl, rfl, hq, e3, q.now r rw'⟩ hs
      · exact ix_tup value slice pins s σ H _ _ v u Q I rx ry ⟨p, vs, _, w, rfl, rfl, hq, e3, q.now r rw'⟩ hs
  · exact q.elim
/-- a[lo:hi] -/
def cutP (xs : List PV) (lo hi : Option Int) : List PV := (xs.drop (HT.sIx xs.length 0 lo)).take (HT.sIx xs.length xs.length hi - HT.sIx xs.length 0 lo)
def opSl (m : Bool) (x : PV) (lo hi : Option Int) (h : MH) (Q : PK) : Prop := match x with
  | .tup xs => Q (.tup (cutP xs lo hi)) h
  | .tpl xs => Q (.tup (cutP xs lo hi)) h
  | .str z => z.length ≤ sizeLine ∧ Q (.str (cutS z lo hi)) h
  | x => ∃ xs, asLstW h x = some xs ∧ allocL m (cutP xs lo hi) h Q
theorem mono_opSl (m : Bool) (x : PV) (lo hi : Option Int) (h : MH) (P Q : PK) (k : ∀ x h, P x h → Q x h) : opSl m x lo hi h P → opSl m x lo hi h Q := by
  unfold opSl
  split
  · exact k _ _
  · exact k _ _
  · exact fun z => ⟨z.1, k _ _ z.2⟩
  · exact fun ⟨xs, e, q⟩ => ⟨xs, e, allocL_mono k q⟩
theorem cut_rep {K : Frag} {H : Hp} {xs : List PV} {vs : List V} (l : RepL K H xs vs) (lo hi : Option Int) : RepL K H (cutP xs lo hi) (cutV vs lo hi) := by
  unfold cutP cutV
  rw [l.length]
  exact (l.drop _).take _
def l2S (K : Frag) (m : Bool) : V → Option Int → Option Int → Hp → VK → Prop := fun x lo hi H Q => ∃ A a h, Rel K A H h ∧ RepV K H a x ∧ opSl m a lo hi h (up K A H Q)
theorem slr_fzm {r : V → Option Int → Option Int → Hp → VK → Prop} (h : SlR X r) (m : Bool) : SlR X (fun x lo hi H Q => r x lo hi H (fzm m Q)) := by
  cases m with
  | true => exact h
  | false =>
    intro pins s σ H x v vl vu lo hi sl Q I rx hs pl pu q
    obtain ⟨T, id, e1, e2, e3⟩ := h pins s σ H x v vl vu lo hi sl _ I rx hs pl pu q
    exact ⟨T, id, e1, e2, thn e3 fun _ _ z => ep_fz z⟩
theorem ok_opSl (m : Bool) : SlR X (l2S X.K m) := by
  intro pins s σ H x v vl vu lo hi sl Q I rx hs pl pu hw
  obtain ⟨A, a, h, r, ra, q⟩ := hw
  unfold opSl at q
  split at q
  · cases ra with
    | tup s1 l1 =>
      refine sl_tupA pins s σ H _ v vl vu lo hi sl Q I rx hs pl pu ⟨_, _, rfl, s1, fun ⟨z1, z2⟩ => ?_, fun _ p hp => tup_new r (cut_rep l1 lo hi) hp q⟩
      refine q.now r (.tup s1 ?_)
      unfold cutP
      rw [l1.length, z1, z2, List.drop_zero, Nat.sub_zero, ← l1.length, List.take_length]
      exact l1
  · cases ra with
    | tpl s1 l1 =>
      refine sl_tupA pins s σ H _ v vl vu lo hi sl Q I rx hs pl pu ⟨_, _, rfl, s1.sq, fun ⟨z1, z2⟩ => ?_, fun _ p hp => tup_new r (cut_rep l1 lo hi) hp q⟩
      refine q.now r (.tup s1.sq ?_)
      unfold cutP
      rw [l1.length, z1, z2, List.drop_zero, Nat.sub_zero, ← l1.length, List.take_length]
      exact l1
  · cases ra
    exact sl_str pins s σ H _ v vl vu lo hi sl Q I rx hs pl pu ⟨_, rfl, q.1, q.2.now r (.str _)⟩
  · obtain ⟨xs, e, al⟩ := q
    obtain ⟨p, vs, rfl, hq, l⟩ := asLstW_sq r ra e
    exact slr_fzm sl_list m pins s σ H _ v vl vu lo hi sl Q I rx hs pl pu ⟨p, vs, rfl, hq, fun p hp => alloc_new r (cut_rep l lo hi) hp al⟩

/-! ### built-ins -/
inductive Bi where
  | minp | tupd | len | abs | int | min | max | tuple | list | repr | sum | all | any | str | sorted
  deriving DecidableEq
def Bi.name : Bi → Str
  | .minp => "min" | .tupd => "tuple" | .len => "len" | .abs => "abs" | .int => "int" | .min => "min" | .max => "max" | .tuple => "tuple" | .list => "list" | .repr => "repr" | .sum => "sum" | .all => "all" | .any => "any" | .str => "str" | .sorted => "sorted"
/-- a built-in type, or a function -/
def Bi.val : Bi → Value
  | .minp => .builtin "min" | .tupd => .type "tuple" | .len => .builtin "len" | .abs => .builtin "abs" | .int => .type "int" | .min => .builtin "min" | .max => .builtin "max" | .tuple => .type "tuple" | .list => .type "list" | .repr => .builtin "repr" | .sum => .builtin "sum"
  | .all => .builtin "all" | .any => .builtin "any" | .str => .type "str" | .sorted => .builtin "sorted"
def opLen : OL := fun xs h Q => match xs with
  | [.str z] => z.length ≤ sizeLine ∧ Q (.int z.length) h
  | [x] => ∃ ys, asSeq h x = some ys ∧ Q (.int ys.length) h
  | _ => False
def opAbs : OL := fun xs h Q => match xs with
  | [.int i] => Q (.int i.natAbs) h
  | _ => False
def opInt : OL := fun xs h Q => match xs with
  | [.int i] => Q (.int i) h
  | [.bl b] => Q (.int (if b then 1 else 0)) h
  | _ => False
def opMin : OL := fun xs h Q => match xs with
  | [.int i, .int j] => Q (.int (min i j)) h
  | [x] => ∃ n ns, asSeq h x = some ((n :: ns).map .int) ∧ Q (.int (ns.foldl min n)) h
  | _ => False
def opMax : OL := fun xs h Q => match xs with
  | [.int i, .int j] => Q (.int (max i j)) h
  | [x] => ∃ n ns, asSeq h x = some ((n :: ns).map .int) ∧ Q (.int (ns.foldl max n)) h
  | _ => False
def encP (p : Int × Int) : PV := .tup [.int p.1, .int p.2]
def encPD (p : Int × Int) : PyData := .tuple [.int p.1, .int p.2]
def leP (p q : Int × Int) : Prop := p.1 < q.1 ∨ (p.1 = q.1 ∧ p.2 ≤ q.2)
/-- min of a list of pairs of ints -/
def opMinp : OL := fun xs h Q => match xs with
  | [x] => ∃ ps : List (Int × Int), ps ≠ [] ∧ asSeq h x = some (ps.map encP) ∧ ∀ q ∈ ps, (∀ r ∈ ps, leP q r) → Q (encP q) h
  | _ => False
def opTuple : OL := fun xs h Q => match xs with
  | [x] => ∃ ys, asSeq h x = some ys ∧ Q (.tup ys) h
  | _ => False
/-- tuple(a list): a tuple that is known to have no dict -/
def opTupd : OL := fun xs h Q => match xs with
  | [x] => ∃ ys, asLstW h x = some ys ∧ Q (.tpl ys) h
  | _ => False
def opList (m : Bool) : OL := fun xs h Q => match xs with
  | [x] => ∃ ys, asSeq h x = some ys ∧ allocL m ys h Q
  | _ => False
structure Shw (d : PyData) : Prop where
  sh : d.showable = true
  len : d.shown.length ≤ sizeLine
  dep : d.depth ≤ 60
def opRepr : OL := fun xs h Q => match xs with
  | [x] => ∃ d, dat h x = some d ∧ Shw d ∧ Q (.str d.shown) h
  | _ => False
def opSum : OL := fun xs h Q => match xs with
  | [x] => ∃ ns : List Int, asLstW h x = some (ns.map .int) ∧ Q (.int ns.sum) h
  | _ => False
def opAll : OL := fun xs h Q => match xs with
  | [x] => ∃ bs : List Bool, asLstW h x = some (bs.map .bl) ∧ Q (.bl (bs.all id)) h
  | _ => False
def opAny : OL := fun xs h Q => match xs with
  | [x] => ∃ bs : List Bool, asLstW h x = some (bs.map .bl) ∧ Q (.bl (bs.any id)) h
  | _ => False
def opStr : OL := fun xs h Q => match xs with
  | [.int i] => i.natAbs.log2 < 1920 ∧ Q (.str (toString i)) h
  | _ => False
def opSorted (m : Bool) : OL := fun xs h Q => match xs with
  | [x] => ∃ ns : List Int, asLstW h x = some (ns.map .int) ∧ ∀ ns' : List Int, ns'.Perm ns → ns'.Pairwise (· ≤ ·) → allocL m (ns'.map .int) h Q
  | _ => False
def biOp (m : Bool) : Bi → OL
  | .minp => opMinp | .tupd => opTupd | .len => opLen | .abs => opAbs | .int => opInt | .min => opMin | .max => opMax | .tuple => opTuple | .list => opList m | .repr => opRepr | .sum => opSum | .all => opAll | .any => opAny | .str => opStr | .sorted => opSorted m
theorem mono_bi (m : Bool) (b : Bi) : MonL (biOp m b) := by
  intro xs h P Q k
  cases b <;> simp only [biOp, opMinp, opTupd, opLen, opAbs, opInt, opMin, opMax, opTuple, opList, opRepr, opSum, opAll, opAny, opStr, opSorted] <;> split
  all_goals first
    | exact id
    | exact k _ _
    | exact fun z => ⟨z.1, k _ _ z.2⟩
    | exact fun ⟨ys, e, q⟩ => ⟨ys, e, k _ _ q⟩
    | exact fun ⟨n, ns, e, q⟩ => ⟨n, ns, e, k _ _ q⟩
    | exact fun ⟨ps, e0, e, q⟩ => ⟨ps, e0, e, fun q0 h1 h2 => k _ _ (q q0 h1 h2)⟩
    | exact fun ⟨ys, e, q⟩ => ⟨ys, e, allocL_mono k q⟩
    | exact fun ⟨ns, e, q⟩ => ⟨ns, e, fun a b c => allocL_mono k (q a b c)⟩
theorem repL1 {K : Frag} {H : Hp} {x : PV} {xs : List V} (l : RepL K H [x] xs) : ∃ v, xs = [v] ∧ RepV K H x v := by
  cases l with
  | cons r t => cases t; exact ⟨_, rfl, r⟩
theorem repL2 {K : Frag} {H : Hp} {x y : PV} {xs : List V} (l : RepL K H [x, y] xs) : ∃ v w, xs = [v, w] ∧ RepV K H x v ∧ RepV K H y w := by
  cases l with
  | cons r t =>
    cases t with
    | cons r2 t2 => cases t2; exact ⟨_, _, rfl, r, r2⟩
theorem ok_opLen : CallR X (.builtin "len") (lL X.K opLen) := by
  intro pins s σ H xs us Q I rv hw
  obtain ⟨A, as, h, r, l, q⟩ := hw
  unfold opLen at q
  split at q
  · obtain ⟨v, rfl, ra⟩ := repL1 l
    cases ra
    exact call_len_str pins s σ H _ us Q I rv ⟨_, rfl, q.1, q.2.now r (.int _)⟩
  · obtain ⟨v, rfl, ra⟩ := repL1 l
    obtain ⟨ys, e, q⟩ := q
    obtain ⟨p, vs, rfl, hq, l2⟩ := asSeq_sq r ra e
    refine call_len_seq pins s σ H _ us Q I rv ⟨p, vs, rfl, hq.elim (fun z => .inl z.1) (fun z => .inr z.1), ?_⟩
    rw [← l2.length]
    exact q.now r (.int _)
  · exact q.elim
theorem ok_opAbs : CallR X (.builtin "abs") (lL X.K opAbs) := by
  intro pins s σ H xs us Q I rv hw
  obtain ⟨A, as, h, r, l, q⟩ := hw
  unfold opAbs at q
  split at q
  · rename_i i
    obtain ⟨v, rfl, ra⟩ := repL1 l
    cases ra
    refine call_abs pins s σ H _ us Q I rv ⟨_, rfl, ?_⟩
    rw [show (if i < 0 then -i else i) = (i.natAbs : Int) by split <;> omega]
    exact q.now r (.int _)
  · exact q.elim
theorem ok_opInt : CallR X (.type "int") (lL X.K opInt) := by
  intro pins s σ H xs us Q I rv hw
  obtain ⟨A, as, h, r, l, q⟩ := hw
  unfold opInt at q
  split at q
  · obtain ⟨v, rfl, ra⟩ := repL1 l
    cases ra
    exact call_int1 pins s σ H _ us Q I rv (.inl ⟨_, rfl, q.now r (.int _)⟩)
  · obtain ⟨v, rfl, ra⟩ := repL1 l
    cases ra
    exact call_int1 pins s σ H _ us Q I rv (.inr ⟨_, rfl, q.now r (.int _)⟩)
  · exact q.elim
theorem alike_ints (ns : List Int) : PySem.W.AlikeAll (ns.map PyData.int) := by
  refine ⟨fun x hx y hy => ?_, fun x hx => ?_⟩
  · obtain ⟨i, _, rfl⟩ := List.mem_map.mp hx
    obtain ⟨j, _, rfl⟩ := List.mem_map.mp hy
    rfl
  · obtain ⟨i, _, rfl⟩ := List.mem_map.mp hx
    exact fun z => nomatch z
theorem depth_ints : ∀ ns : List Int, PyData.depthAll (ns.map PyData.int) = 0
  | [] => rfl
  | n :: ns => by simp [PyData.depthAll, PyData.depth, depth_ints ns]
theorem datL_ints (g : Addr → Option PyData) : ∀ ns : List Int, datL g (ns.map PV.int) = some (ns.map PyData.int)
  | [] => rfl
  | n :: ns => by simp [datL, datV, datL_ints g ns]
/-- a list or a tuple of ints, as the library has it -/
theorem seq_ints {pins : List (Addr × Obj)} {σ : L2.St} {A : Addr → Prop} {H : Hp} {h : MH} {s : Shared} {y : PV} {v : V} {u : Value} {ns : List Int} (I : Inv X pins σ H s) (r : Rel X.K A H h) (rv : RepV X.K H y v) (rx : RelV v u) (e : asSeq h y = some (ns.map .int)) :
    ∃ a, u = .ref a ∧ ∃ its : Array Value, (∃ as, ReadsAll s.heap its.toList (ns.map .int) as) ∧ (s.heap.IsList a its ∨ s.heap.IsTuple a its) := by
  rcases seq_reads I rfl r rv rx e (datL_ints _ ns) with ⟨as, q⟩ | ⟨as, q⟩
  · cases q with
    | list h1 h2 h3 h4 => exact ⟨_, rfl, _, ⟨_, h4⟩, .inl ⟨_, h1, h2, _, h3⟩⟩
  · cases q with
    | tuple h1 h2 h3 h4 => exact ⟨_, rfl, _, ⟨_, h4⟩, .inr ⟨_, h1, h2, _, h3⟩⟩
theorem reads_int {h : Heap} {v : Value} {n : Int} {as : List Addr} (r : Reads h v (.int n) as) : ∃ t, v = .int n t := by
  cases r
  exact ⟨_, rfl⟩
theorem ok_opMin (hc : X.calm = true) (hu : X.A.units + 64 < cLine) : CallR X (.builtin "min") (lL X.K opMin) := by
  intro pins s σ H xs us Q I rv hw
  obtain ⟨A, as, h, r, l, q⟩ := hw
  unfold opMin at q
  split at q
  · rename_i i j
    obtain ⟨v, w, rfl, ra, rb⟩ := repL2 l
    cases ra; cases rb
    refine call_min2 hc pins s σ H _ us Q I rv ⟨_, _, rfl, ?_⟩
    rw [show (if j < i then j else i) = min i j by split <;> omega]
    exact q.now r (.int _)
  · obtain ⟨v, rfl, ra⟩ := repL1 l
    obtain ⟨n, ns, e, q⟩ := q
    obtain ⟨u, rfl, ru⟩ := vals1 rv
    obtain ⟨a, rfl, its, ⟨as', ra'⟩, hq⟩ := seq_ints I r ra ru e
    have hd := alike_ints (n :: ns)
    have hdp : X.A.units + 1 + PyData.depthAll (PyData.int n :: ns.map PyData.int) < cLine := by
      have := depth_ints (n :: ns)
      simp only [List.map_cons] at this
      rw [this]; omega
    have fin : ∀ (i : Nat) (v : Value) (h' : Heap) (tk : Nat) (bs : List Addr), its[i]? = some v → Reads h' v (PySem.W.minD (.int n) (ns.map .int)) bs → (∀ b o, s.heap.get? b = some o → h'.get? b = some o) → EP X pins σ Q v { s with heap := h', toks := tk } := fun i v h' tk bs _ rd k => by
      rw [PySem.W.minD_ints] at rd
      obtain ⟨t, rfl⟩ := reads_int rd
      exact ⟨.int _, H, I.kept k, ⟨t, rfl⟩, q.now r (.int _)⟩
    rcases hq with hq | hq
    · exact PySem.W.min_list_data (I.ok.hd hc) hq ra' hd hdp fin
    · exact PySem.W.min_tuple_data (I.ok.hd hc) hq ra' hd hdp fin
  · exact q.elim
theorem lt_pair (p q : Int × Int) : PySem.W.dataLt (encPD p) (encPD q) = decide (p.1 < q.1 ∨ (p.1 = q.1 ∧ p.2 < q.2)) := by
  obtain ⟨a, b⟩ := p
  obtain ⟨c, d⟩ := q
  have e : ∀ x y : Int, PySem.W.keyToks (encPD (x, y)) = [.inl 1, .inl x, .inl 1, .inl y, .inl 0] := fun x y => by
    simp [encPD, PySem.W.keyToks, PySem.W.keyToksAll]
  unfold PySem.W.dataLt
  rw [e, e, PyProof.Rows.lex_self (O := itemOrd)]
  by_cases h1 : a = c
  · subst h1
    rw [PyProof.Rows.lex_self (O := itemOrd), PyProof.Rows.lex_self (O := itemOrd)]
    by_cases h2 : b = d
    · subst h2
      rw [PyProof.Rows.lex_self (O := itemOrd), PyProof.Rows.lex_self (O := itemOrd)]
      simp [PyProof.Rows.lexLt]
    · rw [PyProof.Rows.lex_diff (O := itemOrd) (fun z => h2 (Sum.inl.inj z))]
      show decide (b < d) = _
      simp
  · rw [PyProof.Rows.lex_diff (O := itemOrd) (fun z => h1 (Sum.inl.inj z))]
    show decide (a < c) = _
    simp [h1]
theorem min_pair : ∀ (ps : List (Int × Int)) (p : Int × Int), ∃ q ∈ p :: ps, PySem.W.minD (encPD p) (ps.map encPD) = encPD q ∧ ∀ r ∈ p :: ps, leP q r
  | [], p => ⟨p, List.mem_cons_self, rfl, fun r hr => by
    cases List.mem_singleton.mp hr
    exact .inr ⟨rfl, Int.le_refl _⟩⟩
  | a :: ps, p => by
    have step : PySem.W.minD (encPD p) ((a :: ps).map encPD) = PySem.W.minD (encPD (if PySem.W.dataLt (encPD a) (encPD p) = true then a else p)) (ps.map encPD) := by
      unfold PySem.W.minD
      rw [List.map_cons, List.foldl_cons]
      split <;> rfl
    rw [step, lt_pair]
    by_cases c : a.1 < p.1 ∨ (a.1 = p.1 ∧ a.2 < p.2)
    · rw [decide_eq_true c, if_pos rfl]
      obtain ⟨q, hq, e, hl⟩ := min_pair ps a
      refine ⟨q, List.mem_cons_of_mem _ hq, e, fun r hr => ?_⟩
      rcases List.mem_cons.mp hr with rfl | hr
      · have := hl a List.mem_cons_self
        unfold leP at this ⊢
        omega
      · exact hl r hr
    · rw [decide_eq_false c, if_neg Bool.false_ne_true]
      obtain ⟨q, hq, e, hl⟩ := min_pair ps p
      refine ⟨q, by rcases List.mem_cons.mp hq with rfl | hq; exact List.mem_cons_self; exact List.mem_cons_of_mem _ (List.mem_cons_of_mem _ hq), e, fun r hr => ?_⟩
      rcases List.mem_cons.mp hr with rfl | hr
      · exact hl _ List.mem_cons_self
      · rcases List.mem_cons.mp hr with rfl | hr
        · have := hl p List.mem_cons_self
          unfold leP at this ⊢
          omega
        · exact hl r (List.mem_cons_of_mem _ hr)
theorem datL_pairs (g : Addr → Option PyData) : ∀ ps : List (Int × Int), datL g (ps.map encP) = some (ps.map encPD)
  | [] => rfl
  | p :: ps => by
    simp only [List.map_cons, datL, datL_pairs g ps, encP, datV, encPD]
    rfl
theorem pairs_lay : ∀ ps : List (Int × Int), PyData.canLayAll0 (ps.map encPD) = true ∧ PyData.depthAll (ps.map encPD) ≤ 1
  | [] => ⟨rfl, Nat.zero_le _⟩
  | p :: ps => by
    obtain ⟨h1, h2⟩ := pairs_lay ps
    refine ⟨by simp [encPD, PyData.canLayAll0, PyData.canLay0, h1], ?_⟩
    simp only [List.map_cons, PyData.depthAll, encPD, PyData.depth]
    exact Nat.max_le.mpr ⟨Nat.le_refl _, h2⟩
theorem alike_pairs (ps : List (Int × Int)) : PySem.W.AlikeAll (ps.map encPD) := by
  refine ⟨fun x hx y hy => ?_, fun x hx => ?_⟩
  · obtain ⟨p, _, rfl⟩ := List.mem_map.mp hx
    obtain ⟨q, _, rfl⟩ := List.mem_map.mp hy
    simp [encPD, PySem.W.alike, PySem.W.alikeAll]
  · obtain ⟨p, _, rfl⟩ := List.mem_map.mp hx
    exact fun z => nomatch z
theorem encPD_inj {p q : Int × Int} (e : encPD p = encPD q) : p = q := by
  obtain ⟨a, b⟩ := p
  obtain ⟨c, d⟩ := q
  simp only [encPD, PyData.tuple.injEq, List.cons.injEq, PyData.int.injEq, and_true] at e
  rw [e.1, e.2]
theorem ok_opMinp (hc : X.calm = true) (hu : X.A.units + 64 < cLine) : CallR X (.builtin "min") (lL X.K opMinp) := by
  intro pins s σ H xs us Q I rv hw
  obtain ⟨A, as, h, r, l, q⟩ := hw
  unfold opMinp at q
  split at q
  · obtain ⟨v, rfl, ra⟩ := repL1 l
    obtain ⟨ps, ne, e, q⟩ := q
    obtain ⟨u, rfl, ru⟩ := vals1 rv
    obtain ⟨a, vs, rfl, hq, l2⟩ := asSeq_sq r ra e
    cases ps with
    | nil => exact absurd rfl ne
    | cons p ps =>
    cases ru
    have dl := datL_dp (deref_dp r 5) l2 (datL_pairs _ (p :: ps))
    obtain ⟨q0, hq0, em, hmin⟩ := min_pair ps p
    have hd := alike_pairs (p :: ps)
    have hdp : X.A.units + 1 + PyData.depthAll (encPD p :: ps.map encPD) < cLine := by
      have := (pairs_lay (p :: ps)).2
      simp only [List.map_cons] at this
      omega
    have fin : ∀ (its : List Value) (cs : List Addr), Vals vs its → ReadsAll s.heap its ((p :: ps).map encPD) cs → ∀ (i : Nat) (v : Value) (h' : Heap) (tk : Nat) (bs : List Addr), its.toArray[i]? = some v → Reads h' v (PySem.W.minD (encPD p) (ps.map encPD)) bs → (∀ b o, s.heap.get? b = some o → h'.get? b = some o) → EP X pins σ Q v { s with heap := h', toks := tk } := by
      intro its cs rvs rda i v h' tk bs hv rd kp
      have hv2 : its[i]? = some v := by simpa using hv
      obtain ⟨x, ex, rx⟩ : ∃ x, vs[i]? = some x ∧ RelV x v := by
        have hi : i < vs.length := by rw [rvs.length]; exact (List.getElem?_eq_some_iff.mp hv2).1
        obtain ⟨u, eu, ru⟩ := rvs.get (List.getElem?_eq_getElem hi)
        rw [hv2] at eu
        cases eu
        exact ⟨_, List.getElem?_eq_getElem hi, ru⟩
      obtain ⟨y, ey, ry⟩ := l2.get' ex
      rw [List.getElem?_map] at ey
      obtain ⟨z, ez, rfl⟩ := Option.map_eq_some_iff.mp ey
      obtain ⟨bs2, rd2, _, _, _⟩ := PySem.W.readsAll_at rda i v hv2
      have e1 : ((p :: ps).map encPD).getD i .none = encPD z := by
        rw [List.getD_eq_getElem?_getD, List.getElem?_map, ez]; rfl
      rw [e1] at rd2
      rw [em] at rd
      have lay : (encPD z).canLay0 = true := by simp [encPD, PyData.canLay0, PyData.canLayAll0]
      have eq := encPD_inj (SeqAt.Reads.unique _ _ _ _ _ lay (PySem.W.reads_keeps kp rd2) rd)
      subst eq
      exact ⟨x, H, I.kept kp, rx, (q z hq0 hmin).now r ry⟩
    rcases hq with ⟨hq, _⟩ | ⟨hq, _⟩
    · obtain ⟨its, rvs, pl, _⟩ := I.list hq
      obtain ⟨cs, rda⟩ := Dp.readsAll I _ _ its dl rvs
      exact PySem.W.min_list_data (I.ok.hd hc) pl.isList (by simpa using rda) hd hdp (fin its cs rvs rda)
    · obtain ⟨its, rvs, pl, _⟩ := I.tuple hq
      obtain ⟨cs, rda⟩ := Dp.readsAll I _ _ its dl rvs
      exact PySem.W.min_tuple_data (I.ok.hd hc) pl (by simpa using rda) hd hdp (fin its cs rvs rda)
  · exact q.elim
theorem ok_opMax (hc : X.calm = true) (hu : X.A.units + 64 < cLine) : CallR X (.builtin "max") (lL X.K opMax) := by
  intro pins s σ H xs us Q I rv hw
  obtain ⟨A, as, h, r, l, q⟩ := hw
  unfold opMax at q
  split at q
  · rename_i i j
    obtain ⟨v, w, rfl, ra, rb⟩ := repL2 l
    cases ra; cases rb
    refine call_max2 hc pins s σ H _ us Q I rv ⟨_, _, rfl, ?_⟩
    rw [show (if j > i then j else i) = max i j by split <;> omega]
    exact q.now r (.int _)
  · obtain ⟨v, rfl, ra⟩ := repL1 l
    obtain ⟨n, ns, e, q⟩ := q
    obtain ⟨u, rfl, ru⟩ := vals1 rv
    obtain ⟨a, rfl, its, ⟨as', ra'⟩, hq⟩ := seq_ints I r ra ru e
    have hd := alike_ints (n :: ns)
    have hdp : X.A.units + 1 + PyData.depthAll (PyData.int n :: ns.map PyData.int) < cLine := by
      have := depth_ints (n :: ns)
      simp only [List.map_cons] at this
      rw [this]; omega
    have fin : ∀ (i : Nat) (v : Value) (h' : Heap) (tk : Nat) (bs : List Addr), its[i]? = some v → Reads h' v (PySem.W.maxD (.int n) (ns.map .int)) bs → (∀ b o, s.heap.get? b = some o → h'.get? b = some o) → EP X pins σ Q v { s with heap := h', toks := tk } := fun i v h' tk bs _ rd k => by
      rw [PySem.W.maxD_ints] at rd
      obtain ⟨t, rfl⟩ := reads_int rd
      exact ⟨.int _, H, I.kept k, ⟨t, rfl⟩, q.now r (.int _)⟩
    rcases hq with hq | hq
    · exact PySem.W.max_list_data (I.ok.hd hc) hq ra' hd hdp fin
    · exact PySem.W.max_tuple_data (I.ok.hd hc) hq ra' hd hdp fin
  · exact q.elim
theorem ok_opTuple : CallR X (.type "tuple") (lL X.K opTuple) := by
  intro pins s σ H xs us Q I rv hw
  obtain ⟨A, as, h, r, l, q⟩ := hw
  unfold opTuple at q
  split at q
  · obtain ⟨v, rfl, ra⟩ := repL1 l
    obtain ⟨ys, e, q⟩ := q
    obtain ⟨p, vs, rfl, hq, l2⟩ := asSeq_sq r ra e
    refine call_tuple_of pins s σ H _ us Q I rv ⟨p, vs, rfl, ?_⟩
    rcases hq with ⟨hq, _⟩ | ⟨hq, _⟩
    · exact .inl ⟨hq, fun p hp => tup_new r l2 hp q⟩
    · exact .inr ⟨hq, q.now r (.tup hq l2)⟩
  · exact q.elim
theorem ok_opTupd : CallR X (.type "tuple") (lL X.K opTupd) := by
  intro pins s σ H xs us Q I rv hw
  obtain ⟨A, as, h, r, l, q⟩ := hw
  unfold opTupd at q
  split at q
  · obtain ⟨v, rfl, ra⟩ := repL1 l
    obtain ⟨ys, e, q⟩ := q
    obtain ⟨p, vs, rfl, hq, l2⟩ := asLstW_sq r ra e
    obtain ⟨u, rfl, rx⟩ := vals1 rv
    cases rx
    obtain ⟨its, r', pl, hz⟩ := I.list hq
    have hlen := r'.length
    refine call_tuple_list pl.isList (fun h' kp => ?_) (by simp only [List.size_toArray] <;> omega)
    have I1 : Inv X pins σ H { s with heap := h' } := I.kept (t' := s.toks) kp
    have I2 : Inv X pins σ (upd H h'.objs.size (.frz { cls := .type "tuple", data := .seq its.toArray } (.tup vs))) { s with heap := h'.push { cls := .type "tuple", data := .seq its.toArray } } :=
      I1.laid (t' := s.toks) (fun b o e => Heap.get?_push_of_some _ e) (Nat.le_refl _) (show ObjOk X.prog X.w _ _ _ (.frz _ (.tup vs)) from ⟨Heap.get?_push_size _ rfl, hz, its, r', IsTup.new _ _⟩)
    have hn : H h'.objs.size = none := I1.hok.fresh (Nat.le_refl _)
    exact ⟨.ref h'.objs.size, _, I2, rfl, q (.ref _) _ (r.mon_new hn) (r.laid hn) (.tpl ⟨_, upd_same, rfl⟩ (l2.mon (r.mon_new hn)))⟩
  · exact q.elim
theorem ok_opList (m : Bool) : CallR X (.type "list") (lL X.K (opList m)) := by
  intro pins s σ H xs us Q I rv hw
  obtain ⟨A, as, h, r, l, q⟩ := hw
  unfold opList at q
  split at q
  · obtain ⟨v, rfl, ra⟩ := repL1 l
    obtain ⟨ys, e, q⟩ := q
    obtain ⟨p, vs, rfl, hq, l2⟩ := asSeq_sq r ra e
    exact callr_fzm call_list_of m pins s σ H _ us Q I rv ⟨p, vs, rfl, hq.elim (fun z => .inl z.1) (fun z => .inr z.1), fun p hp => alloc_new r l2 hp q⟩
  · exact q.elim
theorem datV_noDict {g : Addr → Option PyData} (hg : ∀ a d, g a = some d → d.hasDict = false) : ∀ n : Nat, (∀ (x : PV) (d : PyData), sizeOf x < n → datV g x = some d → d.hasDict = false) ∧ ∀ (xs : List PV) (ds : List PyData), sizeOf xs < n → datL g xs = some ds → PyData.hasDictAll ds = false := by
  intro n
  induction n with
  | zero => exact ⟨fun _ _ z => absurd z (Nat.not_lt_zero _), fun _ _ z => absurd z (Nat.not_lt_zero _)⟩
  | succ n ih =>
    refine ⟨fun x d hx e => ?_, fun xs ds hx e => ?_⟩
    · cases x with
      | non => cases e; rfl
      | bl b => cases e; rfl
      | int b => cases e; rfl
      | str b => cases e; rfl
      | ty b => cases e
      | ref a => exact hg a d e
      | tup xs =>
        simp only [datV] at e
        obtain ⟨ds, e1, rfl⟩ := Option.map_eq_some_iff.mp e
        simp only [PyData.hasDict]
        exact ih.2 xs ds (by simp at hx; omega) e1
      | lst xs =>
        simp only [datV] at e
        obtain ⟨ds, e1, rfl⟩ := Option.map_eq_some_iff.mp e
        simp only [PyData.hasDict]
        exact ih.2 xs ds (by simp at hx; omega) e1
      | scr xs =>
        simp only [datV] at e
        obtain ⟨ds, e1, rfl⟩ := Option.map_eq_some_iff.mp e
        simp only [PyData.hasDict]
        exact ih.2 xs ds (by simp at hx; omega) e1
      | tpl xs =>
        simp only [datV] at e
        obtain ⟨ds, e1, rfl⟩ := Option.map_eq_some_iff.mp e
        simp only [PyData.hasDict]
        exact ih.2 xs ds (by simp at hx; omega) e1
    · cases xs with
      | nil => cases e; rfl
      | cons x xs =>
        simp only [datL] at e
        obtain ⟨d, e1, e2⟩ := Option.bind_eq_some_iff.mp e
        obtain ⟨ds', e3, rfl⟩ := Option.map_eq_some_iff.mp e2
        simp only [PyData.hasDictAll]
        rw [ih.1 x d (by simp at hx; omega) e1, ih.2 xs ds' (by simp at hx; omega) e3]
        rfl
theorem deref_noDict {h : MH} : ∀ (n : Nat) (a : Addr) (d : PyData), deref h n a = some d → d.hasDict = false
  | 0, _, _, e => by cases e
  | n + 1, a, d, e => by
    unfold deref at e
    split at e
    · rename_i xs q
      obtain ⟨ds, e1, rfl⟩ := Option.map_eq_some_iff.mp e
      simp only [PyData.hasDict]
      exact (datV_noDict (deref_noDict n) (sizeOf xs + 1)).2 xs ds (Nat.lt_succ_self _) e1
    · cases e
theorem dat_noDict {h : MH} (x : PV) (d : PyData) (e : dat h x = some d) : d.hasDict = false :=
  (datV_noDict (deref_noDict 5) (sizeOf x + 1)).1 x d (Nat.lt_succ_self _) e
theorem ok_opRepr (hg : X.A.guards = some []) (hu : X.A.units + 64 < cLine) : CallR X (.builtin "repr") (lL X.K opRepr) := by
  intro pins s σ H xs us Q I rv hw
  obtain ⟨A, as, h, r, l, q⟩ := hw
  unfold opRepr at q
  split at q
  · obtain ⟨v, rfl, ra⟩ := repL1 l
    obtain ⟨d, e, sw, q⟩ := q
    obtain ⟨u, rfl, ru⟩ := vals1 rv
    obtain ⟨as', rd⟩ := Dp.reads I d v u (dat_dp r ra e) ru
    have hz := sw.len
    have hd := sw.dep
    have hsh := sw.sh
    have q := q.now r (.str _)
    have end_ : ∀ h' tk t, (∀ b o, s.heap.get? b = some o → h'.get? b = some o) → EP X pins σ Q (.str d.shown t) { s with heap := h', toks := tk } := fun h' tk t k => ⟨.str _, H, I.kept k, ⟨t, rfl⟩, q⟩
    have keep : ∀ b o, s.heap.get? b = some o → s.heap.get? b = some o := fun _ _ e => e
    cases rd with
    | none =>
      simp only [PyData.shown] at end_
      exact PySem.P.repr_of_none (end_ s.heap _ _ keep)
    | bool b =>
      simp only [PyData.shown] at end_
      exact PySem.P.repr_of_bool (end_ s.heap _ _ keep)
    | int i t =>
      simp only [PyData.shown] at end_
      exact PySem.P.repr_of_int (by simpa [PyData.showable] using hsh) (end_ s.heap _ _ keep)
    | str x t =>
      simp only [PyData.shown] at end_ hz
      exact PySem.P.repr_of_str (end_ s.heap _ _ keep) hz
    | list h1 h2 h3 h4 => exact repr_of_reads' (.list h1 h2 h3 h4) hsh (PyData.noDict_hsm (dat_noDict _ _ e)) hg (by omega) keep (fun h' u tk k => end_ h' tk u k) hz
    | tuple h1 h2 h3 h4 => exact repr_of_reads' (.tuple h1 h2 h3 h4) hsh (PyData.noDict_hsm (dat_noDict _ _ e)) hg (by omega) keep (fun h' u tk k => end_ h' tk u k) hz
    | dict h1 h2 h3 h4 h5 =>
      have := dat_noDict _ _ e
      simp [PyData.hasDict] at this
  · exact q.elim
theorem ok_opSum (hc : X.calm = true) : CallR X (.builtin "sum") (lL X.K opSum) := by
  intro pins s σ H xs us Q I rv hw
  obtain ⟨A, as, h, r, l, q⟩ := hw
  unfold opSum at q
  split at q
  · obtain ⟨v, rfl, ra⟩ := repL1 l
    obtain ⟨ns, e, q⟩ := q
    obtain ⟨p, vs, rfl, hq, l2⟩ := asLstW_sq r ra e
    rw [l2.map_int] at hq
    exact cr_sum hc pins s σ H _ us Q I rv ⟨p, ns, rfl, hq, q.now r (.int _)⟩
  · exact q.elim
theorem ok_opAll (hc : X.calm = true) : CallR X (.builtin "all") (lL X.K opAll) := by
  intro pins s σ H xs us Q I rv hw
  obtain ⟨A, as, h, r, l, q⟩ := hw
  unfold opAll at q
  split at q
  · obtain ⟨v, rfl, ra⟩ := repL1 l
    obtain ⟨ns, e, q⟩ := q
    obtain ⟨p, vs, rfl, hq, l2⟩ := asLstW_sq r ra e
    rw [l2.map_bl] at hq
    exact cr_all hc pins s σ H _ us Q I rv ⟨p, ns, rfl, hq, q.now r (.bl _)⟩
  · exact q.elim
theorem ok_opAny (hc : X.calm = true) : CallR X (.builtin "any") (lL X.K opAny) := by
  intro pins s σ H xs us Q I rv hw
  obtain ⟨A, as, h, r, l, q⟩ := hw
  unfold opAny at q
  split at q
  · obtain ⟨v, rfl, ra⟩ := repL1 l
    obtain ⟨ns, e, q⟩ := q
    obtain ⟨p, vs, rfl, hq, l2⟩ := asLstW_sq r ra e
    rw [l2.map_bl] at hq
    exact cr_any hc pins s σ H _ us Q I rv ⟨p, ns, rfl, hq, q.now r (.bl _)⟩
  · exact q.elim
theorem ok_opStr : CallR X (.type "str") (lL X.K opStr) := by
  intro pins s σ H xs us Q I rv hw
  obtain ⟨A, as, h, r, l, q⟩ := hw
  unfold opStr at q
  split at q
  · obtain ⟨v, rfl, ra⟩ := repL1 l
    cases ra
    exact call_str_int pins s σ H _ us Q I rv ⟨_, rfl, q.1, q.2.now r (.str _)⟩
  · exact q.elim
theorem ok_opSorted (m : Bool) : CallR X (.builtin "sorted") (lL X.K (opSorted m)) := by
  intro pins s σ H xs us Q I rv hw
  obtain ⟨A, as, h, r, l, q⟩ := hw
  unfold opSorted at q
  split at q
  · obtain ⟨v, rfl, ra⟩ := repL1 l
    obtain ⟨ns, e, q⟩ := q
    obtain ⟨p, vs, rfl, hq, l2⟩ := asLstW_sq r ra e
    rw [l2.map_int] at hq
    exact callr_fzm cr_sortedI m pins s σ H _ us Q I rv ⟨p, ns, rfl, hq, fun ns' p hp1 hp2 hp => alloc_new r (RepL.of_int ns') hp (q ns' hp1 hp2)⟩
  · exact q.elim
theorem ok_bi (hc : X.calm = true) (hg : X.A.guards = some []) (hu : X.A.units + 65 < cLine) (m : Bool) : ∀ b : Bi, CallR X b.val (lL X.K (biOp m b))
  | .minp => ok_opMinp hc (by omega) | .tupd => ok_opTupd | .len => ok_opLen | .abs => ok_opAbs | .int => ok_opInt | .min => ok_opMin hc (by omega) | .max => ok_opMax hc (by omega) | .tuple => ok_opTuple | .list => ok_opList m | .repr => ok_opRepr hg (by omega)
  | .sum => ok_opSum hc | .all => ok_opAll hc | .any => ok_opAny hc | .str => ok_opStr | .sorted => ok_opSorted m
end
end Ev

set_option Elab.async false
set_option linter.all false
set_option maxRecDepth 100000
set_option maxHeartbeats 4000000
/-! Ev5: defs and what they promise; where a body stands; the rules of expressions. -/
namespace Ev
open PySem PySem.Spec PyProof.Rows L2

/-- a wish about an exception: its class, its fields -/
abbrev XV := Value → List (Str × PV) → MH → Prop
/-- what a def promises -/
abbrev Spec := List PV → MH → PK → XV → Prop
def XF (K : Frag) (H : Hp) (d : Option Addr) (fs : List (Str × PV)) : Prop := (d = none ∧ fs = []) ∨ ∃ dd ws, d = some dd ∧ H dd = some (.xd ws) ∧ KR K H fs ws
def upX (K : Frag) (A : Addr → Prop) (H : Hp) (E : XK) : XV := fun c fs h' => ∀ d H', Mon A H H' → Rel K A H' h' → XF K H' d fs → E c d H'
def liftSp (K : Frag) (sp : Spec) : Sp := fun vs H Q E => ∃ A as h, Rel K A H h ∧ RepL K H as vs ∧ sp as h (up K A H Q) (upX K A H E)
abbrev noX : XV := fun _ _ _ => False

/-- a def keeps its promise (where nothing is being shown by repr) -/
structure FnG (P : Program) (w : World) (K : Frag) (mg : Str → Option Value) (base : Heap) (k : Nat) (f : Addr) (fd : FuncData) (ps : List Str) (sp : Spec) : Prop where
  run : ∀ (A : Around) (outer : List PySem.Env) (st : Shared) (H : Hp) (args : Args) (us : List Value) (vs : List V) (Q : VK) (E : XK),
    A.guards = some [] → Room k A → Env0 P w K mg base A outer st H → BindsTo st fd args (ps.zip us) → Vals vs us → vs.length = ps.length → liftSp K sp vs H Q E →
    codeAny (model P w) A (.call (.ref f) args) (CR (L2.CX P w) outer P w H st Q E) st

section
variable {P : Program} {w : World} {K : Frag} {mg : Str → Option Value} {base : Heap}
/-- a def of the text, by its body -/
theorem fng_of {x qual : Str} {params : Arguments} {body : List Stmt} {scope : Scope} {f : Addr} {fd : FuncData} {N ps : List Str} {k : Nat} {sp : Spec}
    (F : FunD K x qual params body scope [] [] f fd) (S : FnScope N ps scope)
    (hb : ∀ (cdv : Value) (A : Around) (outer : List PySem.Env) (st : Shared) (H : Hp) (vs : List V) (Q : VK) (E : XK),
      PySem.W.codeIn K cdv qual = true → A.guards = some [] → Room k (A.deeper (envOfC qual scope st.heap.objs.size f cdv)) → vs.length = ps.length → liftSp K sp vs H Q E →
      ∃ t, PSs (cxOf (L2.CX P w) P w K mg base N qual scope f cdv A outer st H E) body t ∧ t { nx := fun _ H' => Q .non H', rt := Q } (start N vs) H) :
    FnG P w K mg base (k + 1) f fd ps sp := by
  obtain ⟨oc, od, dV, kV, doc, pm, an, cdv, ct, osl, rfl, look, code, _, _⟩ := F.ex
  constructor
  intro A outer st H args us vs Q E hg hr e0 bind rv hl hsp
  have inK : K.In st.heap := e0.mod.kin.keeps fun b o e => (e0.bs b o e).1
  have free : st.heap.NoLimit := e0.mod.nolimit.keeps fun b o e => (e0.bs b o e).1
  have kinds : ∀ y ∈ ps.zip us, scope.names.lookup y.1 = some .local ∨ (scope.names.lookup y.1 = some .cell ∧ ((cellsFrom (st.heap.objs.size + 1) scope.names []).lookup y.1).isSome = true) := by
    intro y hy
    cases S.par y.1 (List.of_mem_zip (a := y.1) (b := y.2) hy).1 with
    | inl q => exact .inl q
    | inr q => exact .inr ⟨q, PySem.W.cellsFrom_some _ _ _ (.inl q)⟩
  apply codeAny_call_function hr.depth (inK _ _ look) rfl S.co S.gen rfl (PySem.W.codeRec_of inK code)
  apply bind
  apply wpAny_newFunctionEnv_cells S.kind kinds
  intro env he s1 x
  subst he
  constructor
  · exact free.keeps x.toInCall.keep
  apply codeAny_func
  obtain ⟨t, ht, hq⟩ := hb cdv A outer st H vs Q E code hg (hr.deeper _) hl hsp
  have I := inv_start (CX := L2.CX P w) (E := E) (f := f) (cd := cdv) (qual := qual) S hr.hd e0 hl rv x
  apply wpAny_mono (ht.run [] s1 (start N vs) H _ I hq)
  · intro fl s' hs
    have done : ∀ (σ' : L2.St) (H' : Hp) (v : V) (u : Value), Inv (cxOf (L2.CX P w) P w K mg base N qual scope f cdv A outer st H E) [] σ' H' s' → RelV v u → Q v H' → CE outer P w H st Q u s' := by
      intro σ' H' v u J r q
      exact ⟨v, H', J.os, J.bare, J.base, J.hok, r, q⟩
    cases fl with
    | next => obtain ⟨σ', H', J, q⟩ := hs; exact done σ' H' .non .none J rfl q
    | ret u => obtain ⟨v, σ', H', J, r, q⟩ := hs; exact done σ' H' v u J r q
    | brk => obtain ⟨_, _, _, q⟩ := hs; exact q.elim
    | cont => obtain ⟨_, _, _, q⟩ := hs; exact q.elim
  · exact fun _ _ z => z
end

/-- what a text of a def is looked at with: its names by slot, its scope, the names whose cells are made at its entry; the module's defs with their parameters, the names that are free for built-ins, the module's constants -/
structure Cfg where
  N : List Str
  sc : Scope
  fnb : Str → Bool
  fns : List (Str × List Str)
  free : List Str
  cst : List Str
  kws : List (Str × List Str × List Nat) := []
  flds : List (Str × Str) := []
  prps : List (Str × Str × Str) := []
  mks : List (Str × Nat × Str) := []
  mts : List (Str × Str × Str × List Str) := []
  mk0s : List (Str × Str × List Str) := []

/-- the promises -/
structure Ctx where
  fn : Str → Spec
  mono : ∀ f as h (P Q : PK) (R T : XV), (∀ x h, P x h → Q x h) → (∀ c fs h, R c fs h → T c fs h) → fn f as h P R → fn f as h Q T
  /-- .. one level below -/
  fn1 : Str → Spec := fun _ _ _ _ _ => False
  mono1 : ∀ f as h (P Q : PK) (R T : XV), (∀ x h, P x h → Q x h) → (∀ c fs h, R c fs h → T c fs h) → fn1 f as h P R → fn1 f as h Q T := by intro _ _ _ _ _ _ _ _ _ z; exact z

/-- how a call by keywords alone binds: the values in the parameters' order -/
structure KB (K : Frag) (fd : FuncData) (ps ks : List Str) (perm : List Nat) : Prop where
  len : perm.length = ps.length
  lt : ∀ i ∈ perm, i < ks.length
  to : ∀ (s : Shared) (ws : List Value), K.In s.heap → ws.length = ks.length → BindsTo s fd ⟨[], ks.zip ws⟩ (ps.zip (perm.map fun i => ws.getD i .none))
def WJ (K : Frag) (J : Jw) (ex : Env → XV) : WX := fun c d σ H => ∃ A ρ h fs, J A H ∧ RepSt K H ρ σ ∧ Rel K A H h ∧ XF K H d fs ∧ ex ρ c fs h

/-- __init__(self, a, .., *words) keeps its promise: n arguments besides self, then the tuple of the rest -/
structure FnS (P : Program) (w : World) (K : Frag) (mg : Str → Option Value) (base : Heap) (k : Nat) (f : Addr) (n : Nat) (sp : Spec) : Prop where
  run : ∀ (A : Around) (outer : List PySem.Env) (st : Shared) (H : Hp) (us : List Value) (vs : List V) (Q : VK),
    A.guards = some [] → Room k A → Env0 P w K mg base A outer st H → Vals vs us → n + 1 ≤ vs.length → vs.length ≤ sizeLine →
    (∃ A0 as h, Rel K A0 H h ∧ RepL K H as vs ∧ sp (as.take (n + 1) ++ [.tup (as.drop (n + 1))]) h (up K A0 H Q) noX) →
    codeAny (model P w) A (.call (.ref f) ⟨us, []⟩) (CR (L2.CX P w) outer P w H st Q (fun _ _ _ => False)) st
/-- a property that keeps its promise, one level below k -/
structure PrpOk (P : Program) (w : World) (K : Frag) (mg : Str → Option Value) (base : Heap) (k : Nat) (C f : Str) (sp : Spec) : Prop where
  cl : Cls K (He.ga K C)
  ex : ∃ pa g fd sf, PropOf K (He.ga K C) f pa g ∧ Binds K fd [sf] [] ∧ ∀ j, k = j + 1 → FnG P w K mg base j g fd [sf] sp
  z : k = 0 → ∀ as h Q R, sp as h Q R → False
/-- a class that can be made -/
structure MkOk (P : Program) (w : World) (K : Frag) (mg : Str → Option Value) (base : Heap) (k : Nat) (C : Str) (n : Nat) (sp : Spec) : Prop where
  at_ : mg C = some (.ref (He.ga K C))
  ex : ∃ f, Mk K (He.ga K C) f ∧ ∀ j, k = j + 1 → FnS P w K mg base j f n sp
  z : k = 0 → ∀ as h Q R, sp as h Q R → False
/-- a class that can be made: plain arguments -/
structure Mk0Ok (P : Program) (w : World) (K : Frag) (mg : Str → Option Value) (base : Heap) (k : Nat) (C : Str) (ps : List Str) (sp : Spec) : Prop where
  at_ : mg C = some (.ref (He.ga K C))
  ex : ∃ f fd, Mk K (He.ga K C) f ∧ Binds K fd ps [] ∧ ∀ j, k = j + 1 → FnG P w K mg base j f fd ps sp
  z : k = 0 → ∀ as h Q R, sp as h Q R → False
/-- a method that keeps its promise -/
structure MtOk (P : Program) (w : World) (K : Frag) (mg : Str → Option Value) (base : Heap) (k : Nat) (C m : Str) (ps : List Str) (sp : Spec) : Prop where
  cl : Cls K (He.ga K C)
  ex : ∃ fa fd, Meth K (He.ga K C) m fa ∧ FnG P w K mg base k fa fd ps sp ∧ Binds K fd ps []
theorem kds_code {K : Frag} {cd : Value} {q : Str} (h : PySem.W.codeIn K cd q = true) : PySem.W.kdsCode K cd = true := by
  unfold PySem.W.codeIn at h
  unfold PySem.W.kdsCode
  split at h
  · split at h
    · rename_i e
      simp only [e]
    · cases h
  · cases h
/-- X is a place in a def (or in a comprehension) that c tells of -/
structure Match (X : Cx) (c : Cfg) (G : Ctx) (gl : Str → PV) (k : Nat) (J : Jw) (ex : Env → XV) : Prop where
  N : X.N = c.N
  nd : c.N.Nodup
  sc : X.env.scope = c.sc
  fnb : X.fn = c.fnb
  calm : X.calm = true
  po : PassesOwn (model X.prog X.w) X.A X.env X.xe
  gd : X.A.guards = some []
  room : Room k X.A
  tk : Takes X (WJ X.K J ex)
  jj : JOk J
  fns : ∀ f ps, (f, ps) ∈ c.fns → ∃ a fd, X.mg f = some (.ref a) ∧ FnG X.prog X.w X.K X.mg X.base k a fd ps (G.fn f) ∧ PySem.W.keepIn X.K (.ref a) = true ∧ Binds X.K fd ps []
  free : ∀ x, x ∈ c.free → X.mg x = none
  cst : ∀ x, x ∈ c.cst → ∃ u w, X.mg x = some u ∧ RelV w u ∧ ∀ H, RepV X.K H (gl x) w
  kind : X.env.scope.kind = .function
  kws : ∀ f ks perm, (f, ks, perm) ∈ c.kws → ∃ a fd ps, X.mg f = some (.ref a) ∧ FnG X.prog X.w X.K X.mg X.base k a fd ps (G.fn f) ∧ PySem.W.keepIn X.K (.ref a) = true ∧ KB X.K fd ps ks perm
  flds : ∀ C f, (C, f) ∈ c.flds → Cls X.K (He.ga X.K C) ∧ NoAttr X.K (He.ga X.K C) f
  prps : ∀ C f key, (C, f, key) ∈ c.prps → PrpOk X.prog X.w X.K X.mg X.base k C f (G.fn1 key)
  mks : ∀ C n key, (C, n, key) ∈ c.mks → MkOk X.prog X.w X.K X.mg X.base k C n (G.fn1 key)
  mts : ∀ C n key ps, (C, n, key, ps) ∈ c.mts → MtOk X.prog X.w X.K X.mg X.base k C n ps (G.fn key)
  kds : PySem.W.kdsCode X.K X.env.code = true
  mk0s : ∀ C key ps, (C, key, ps) ∈ c.mk0s → Mk0Ok X.prog X.w X.K X.mg X.base k C ps (G.fn1 key)

theorem room65 {k : Nat} {A : Around} (r : Room k A) : A.units + 65 < cLine := by have := r.un; omega

section
variable {X : Cx} {c : Cfg} {G : Ctx} {gl : Str → PV} {k : Nat} {J : Jw} {ex : Env → XV}

/-! ### names, constants -/
def wVar (i : Nat) : WE := fun ρ h Q => ∃ x, ρ[i]? = some (some x) ∧ Q x h
def wCst (v : PV) : WE := fun _ h Q => Q v h
theorem s_var {i : Nat} {x : Str} {pos : Pos} (hN : X.N[i]? = some x) (hv : Vis X.env.scope x) (hd : (x == ("__debug__" : Str)) = false) (hcd : (x == ("__classdict__" : Str)) = false) : PE X (.Name x pos) (tE X.K J (wVar i)) := by
  refine ⟨fun pins s σ H Q I ⟨A, ρ, h, j, rs, r, y, e, q⟩ => ?_⟩
  obtain ⟨v, e1, rv⟩ := rs.val i y e
  exact (pe_var hN hv hd hcd).run pins s σ H Q I ⟨v, e1, q.now r rv⟩
theorem s_cst {e : Expr} {v : PV} {w : V} (he : PE X e (tC w)) (rv : ∀ H, RepV X.K H v w) : PE X e (tE X.K J (wCst v)) :=
  ⟨fun pins s σ H Q I ⟨A, ρ, h, j, rs, r, q⟩ => he.run pins s σ H Q I (q.now r (rv H))⟩

/-! ### operations -/
variable {a b d : Expr} {wa wb wd : WE} {pos : Pos}
def w2 (o : O2) (wa wb : WE) : WE := fun ρ h Q => wa ρ h fun x h1 => wb ρ h1 fun y h2 => o x y h2 Q
def w1 (o : O1) (wa : WE) : WE := fun ρ h Q => wa ρ h fun x h1 => o x h1 Q
theorem mono_w2 {o : O2} (mo : Mon2 o) (ma : MonE wa) (mb : MonE wb) : MonE (w2 o wa wb) := fun ρ h P Q k hw => ma _ _ _ _ (fun x h1 z => mb _ _ _ _ (fun y h2 z2 => mo _ _ _ _ _ k z2) z) hw
theorem mono_w1 {o : O1} (mo : Mon1 o) (ma : MonE wa) : MonE (w1 o wa) := fun ρ h P Q k hw => ma _ _ _ _ (fun x h1 z => mo _ _ _ _ k z) hw
theorem t2 {o : O2} {σ : L2.St} {H : Hp} {Q : VK} (jj : JOk J) (mo : Mon2 o) (ma : MonE wa) (mb : MonE wb) (hw : tE X.K J (w2 o wa wb) σ H Q) : tOp (l2 X.K o) (tE X.K J wa) (tE X.K J wb) σ H Q := by
  obtain ⟨A, ρ, h, j, rs, r, hw⟩ := hw
  refine tE_of jj j rs r ma hw fun x h1 v H1 p j1 rs1 m1 r1 rv => ?_
  refine tE_of jj j1 rs1 r1 mb p fun y h2 u H2 q j2 rs2 m2 r2 ru => ?_
  exact ⟨A, x, y, h2, r2, rv.mon m2, ru, mo _ _ _ _ _ (fun z h3 up => up.trans (m1.trans m2)) q⟩
theorem s_bin (m : Match X c G gl k J ex) (f : Bool) (op : BOp) (ha : PE X a (tE X.K J wa)) (hb : PE X b (tE X.K J wb)) (ma : MonE wa) (mb : MonE wb) : PE X (.BinOp a op.op b pos) (tE X.K J (w2 (binOp f op) wa wb)) :=
  ⟨fun pins s σ H Q I hw => (pe_op (ok_bin f op) ha hb).run pins s σ H Q I (t2 m.jj (mono_bin f op) ma mb hw)⟩
theorem s_cmp (m : Match X c G gl k J ex) (op : COp) (ha : PE X a (tE X.K J wa)) (hb : PE X b (tE X.K J wb)) (ma : MonE wa) (mb : MonE wb) (hm : behindInMarks op.op b = false) : PE X (.Compare a [op.op] [b] pos) (tE X.K J (w2 (cmpOp op) wa wb)) :=
  ⟨fun pins s σ H Q I hw => (pe_cmpR (ok_cmp (room65 m.room) op) ha hb hm).run pins s σ H Q I (t2 m.jj (mono_cmp op) ma mb hw)⟩
/-- a op b op' c -/
def wChain (o o' : O2) (wa wb wd : WE) : WE := fun ρ h Q => wa ρ h fun x h1 => wb ρ h1 fun y h2 => o x y h2 fun z h3 => ∃ k, z = .bl k ∧ (if k = true then wd ρ h3 fun w h4 => o' y w h4 Q else Q (.bl false) h3)
theorem mono_chain {o o' : O2} (mo : Mon2 o) (mo' : Mon2 o') (ma : MonE wa) (mb : MonE wb) (md : MonE wd) : MonE (wChain o o' wa wb wd) := fun ρ h P Q k hw =>
  ma _ _ _ _ (fun x h1 z => mb _ _ _ _ (fun y h2 z2 => mo _ _ _ _ _ (fun z h3 ⟨b, e, q⟩ => ⟨b, e, by
    cases b with
    | true => exact md _ _ _ _ (fun w h4 z4 => mo' _ _ _ _ _ k z4) q
    | false => exact k _ _ q⟩) z2) z) hw
theorem s_chain (m : Match X c G gl k J ex) (op op' : COp) (ha : PE X a (tE X.K J wa)) (hb : PE X b (tE X.K J wb)) (hd : PE X d (tE X.K J wd)) (ma : MonE wa) (mb : MonE wb) (md : MonE wd)
    (hm : behindInMarks op'.op d = false) : PE X (.Compare a [op.op, op'.op] [b, d] pos) (tE X.K J (wChain (cmpOp op) (cmpOp op') wa wb wd)) := by
  refine ⟨fun pins s σ H Q I hw => (pe_chain (ok_cmp (room65 m.room) op) (ok_cmp (room65 m.room) op') ha hb hd (by simp only [lastMarks]; exact hm)).run pins s σ H Q I ?_⟩
  obtain ⟨A, ρ, h, j, rs, r, hw⟩ := hw
  refine tE_of m.jj j rs r ma hw fun x h1 v H1 p j1 rs1 m1 r1 rv => ?_
  refine tE_of m.jj j1 rs1 r1 mb p fun y h2 u H2 q j2 rs2 m2 r2 ru => ?_
  refine ⟨A, x, y, h2, r2, rv.mon m2, ru, mono_cmp op _ _ _ _ _ (fun z h3 z3 => ?_) q⟩
  obtain ⟨b, rfl, z3⟩ := z3
  intro v3 H3 m3 r3 rv3
  cases rv3
  refine ⟨b, rfl, ?_⟩
  cases b with
  | false => exact z3 _ _ (m1.trans (m2.trans m3)) r3 (.bl _)
  | true =>
    refine tE_of m.jj (m.jj.mon j2 m3) (rs2.mon m3) r3 md z3 fun w h4 u4 H4 q4 j4 rs4 m4 r4 ru4 => ?_
    exact ⟨A, y, w, h4, r4, ru.mon (m3.trans m4), ru4, mono_cmp op' _ _ _ _ _ (fun z h5 up => up.trans (m1.trans (m2.trans (m3.trans m4)))) q4⟩
end
end Ev

set_option Elab.async false
set_option linter.all false
set_option maxRecDepth 100000
set_option maxHeartbeats 4000000
/-! Ev6: more rules of expressions. -/
namespace Ev
open PySem PySem.Spec PyProof.Rows L2

section
variable {X : Cx} {c : Cfg} {G : Ctx} {gl : Str → PV} {k : Nat} {J : Jw} {ex : Env → XV} {a b d e : Expr} {es : List Expr} {wa wb wd : WE} {wt wu : WT} {wl : WA} {pos : Pos}

/-! ### lists of arguments -/
def wNil : WA := fun _ h Q => Q [] h
def wCons (wa : WE) (wl : WA) : WA := fun ρ h Q => wa ρ h fun x h1 => wl ρ h1 fun xs h2 => Q (x :: xs) h2
theorem mono_nil : MonA wNil := fun _ _ _ _ k q => k _ _ q
theorem mono_cons (ma : MonE wa) (ml : MonA wl) : MonA (wCons wa wl) := fun ρ h P Q k hw => ma _ _ _ _ (fun x h1 z => ml _ _ _ _ (fun xs h2 z2 => k _ _ z2) z) hw
theorem a_nil : PA X [] (tA X.K J wNil) := ⟨fun ps pins s σ H Q I ⟨A, ρ, h, j, rs, r, q⟩ => pa_nil.run ps pins s σ H Q I (q [] H .refl r .nil)⟩
theorem a_cons (jj : JOk J) (ha : PE X a (tE X.K J wa)) (hl : PA X es (tA X.K J wl)) (ma : MonE wa) (ml : MonA wl) (hs : starEach (a :: es) X.env = (false, eval a X.env) :: starEach es X.env) : PA X (a :: es) (tA X.K J (wCons wa wl)) := by
  refine ⟨fun ps pins s σ H Q I ⟨A, ρ, h, j, rs, r, hw⟩ => (pa_cons ha hl hs).run ps pins s σ H Q I ?_⟩
  refine tE_of jj j rs r ma hw fun x h1 v H1 p j1 rs1 m1 r1 rv => ?_
  refine tA_of jj j1 rs1 r1 ml p fun xs h2 vs H2 q j2 rs2 m2 r2 rl => ?_
  exact q (v :: vs) H2 (m1.trans m2) r2 (.cons (rv.mon m2) rl)
/-- an operation upon a list of arguments -/
def wL (o : OL) (wl : WA) : WE := fun ρ h Q => wl ρ h fun xs h1 => o xs h1 Q
theorem mono_wL {o : OL} (mo : MonL o) (ml : MonA wl) : MonE (wL o wl) := fun ρ h P Q k hw => ml _ _ _ _ (fun xs h1 z => mo _ _ _ _ k z) hw
theorem tL {o : OL} {σ : L2.St} {H : Hp} {Q : VK} (jj : JOk J) (mo : MonL o) (ml : MonA wl) (hw : tE X.K J (wL o wl) σ H Q) : tA X.K J wl σ H fun vs H1 => lL X.K o vs H1 Q := by
  obtain ⟨A, ρ, h, j, rs, r, hw⟩ := hw
  exact tA_of jj j rs r ml hw fun xs h1 vs H1 p j1 rs1 m1 r1 rl => ⟨A, xs, h1, r1, rl, mo _ _ _ _ (fun z h3 up => up.trans m1) p⟩

/-! ### displays -/
def wTup (wl : WA) : WE := fun ρ h Q => wl ρ h fun xs h1 => xs.length ≤ sizeLine ∧ Q (.tup xs) h1
def wLst (m : Bool) (wl : WA) : WE := fun ρ h Q => wl ρ h fun xs h1 => xs.length ≤ sizeLine ∧ allocL m xs h1 Q
theorem mono_tup (ml : MonA wl) : MonE (wTup wl) := fun ρ h P Q k hw => ml _ _ _ _ (fun xs h1 z => ⟨z.1, k _ _ z.2⟩) hw
theorem mono_lst (m : Bool) (ml : MonA wl) : MonE (wLst m wl) := fun ρ h P Q k hw => ml _ _ _ _ (fun xs h1 z => ⟨z.1, allocL_mono k z.2⟩) hw
theorem s_tup {n : Nat} (jj : JOk J) (hl : PA X es (tA X.K J wl)) (ml : MonA wl) : PE X (.Tuple es n pos) (tE X.K J (wTup wl)) := by
  refine ⟨fun pins s σ H Q I ⟨A, ρ, h, j, rs, r, hw⟩ => (pe_tup hl).run pins s σ H Q I ?_⟩
  refine tA_of jj j rs r ml hw fun xs h1 vs H1 p j1 rs1 m1 r1 rl => ?_
  exact ⟨by rw [← rl.length]; exact p.1, fun q hq => tup_new r1 rl hq (up.trans m1 p.2)⟩
theorem s_lst (jj : JOk J) (m : Bool) (hl : PA X es (tA X.K J wl)) (ml : MonA wl) : PE X (.List es pos) (tE X.K J (wLst m wl)) := by
  refine ⟨fun pins s σ H Q I ⟨A, ρ, h, j, rs, r, hw⟩ => (pe_fzm (pe_lst hl) m).run pins s σ H Q I ?_⟩
  refine tA_of jj j rs r ml hw fun xs h1 vs H1 p j1 rs1 m1 r1 rl => ?_
  exact ⟨by rw [← rl.length]; exact p.1, fun q hq => alloc_new r1 rl hq (allocL_mono (fun _ _ z => up.trans m1 z) p.2)⟩

/-! ### signs, and, or, not, a if t else b -/
def opNeg : O1 := fun x h Q => match x with
  | .int i => Q (.int (-i)) h
  | _ => False
theorem mono_opNeg : Mon1 opNeg := by
  intro x h P Q k
  unfold opNeg
  split
  · exact k _ _
  · exact id
theorem s_neg (jj : JOk J) (ha : PE X a (tE X.K J wa)) (ma : MonE wa) : PE X (.UnaryOp .USub a pos) (tE X.K J (w1 opNeg wa)) := by
  refine ⟨fun pins s σ H Q I ⟨A, ρ, h, j, rs, r, hw⟩ => (pe_un un_neg ha).run pins s σ H Q I ?_⟩
  refine tE_of jj j rs r ma hw fun x h1 v H1 p j1 rs1 m1 r1 rv => ?_
  unfold opNeg at p
  split at p
  · cases rv
    exact ⟨_, rfl, p _ _ m1 r1 (.int _)⟩
  · exact p.elim
def opNot : O1 := fun x h Q => match x with
  | .bl b => Q (.bl (!b)) h
  | _ => False
theorem mono_opNot : Mon1 opNot := by
  intro x h P Q k
  unfold opNot
  split
  · exact k _ _
  · exact id
theorem s_not (jj : JOk J) (ha : PE X a (tE X.K J wa)) (ma : MonE wa) : PE X (.UnaryOp .Not a pos) (tE X.K J (w1 opNot wa)) := by
  refine ⟨fun pins s σ H Q I ⟨A, ρ, h, j, rs, r, hw⟩ => (pe_not ha).run pins s σ H Q I ?_⟩
  refine tE_of jj j rs r ma hw fun x h1 v H1 p j1 rs1 m1 r1 rv => ?_
  unfold opNot at p
  split at p
  · cases rv
    exact ⟨_, rfl, p _ _ m1 r1 (.bl _)⟩
  · exact p.elim
def wAnd (wa wb : WE) : WE := fun ρ h Q => wa ρ h fun x h1 => ∃ b, x = .bl b ∧ if b = true then wb ρ h1 Q else Q (.bl false) h1
def wOr (wa wb : WE) : WE := fun ρ h Q => wa ρ h fun x h1 => ∃ b, x = .bl b ∧ if b = true then Q (.bl true) h1 else wb ρ h1 Q
theorem mono_and (ma : MonE wa) (mb : MonE wb) : MonE (wAnd wa wb) := fun ρ h P Q k hw => ma _ _ _ _ (fun x h1 ⟨b, e, z⟩ => ⟨b, e, by
  cases b with
  | true => exact mb _ _ _ _ k z
  | false => exact k _ _ z⟩) hw
theorem mono_or (ma : MonE wa) (mb : MonE wb) : MonE (wOr wa wb) := fun ρ h P Q k hw => ma _ _ _ _ (fun x h1 ⟨b, e, z⟩ => ⟨b, e, by
  cases b with
  | false => exact mb _ _ _ _ k z
  | true => exact k _ _ z⟩) hw
theorem s_and (jj : JOk J) (ha : PE X a (tE X.K J wa)) (hb : PE X (.BoolOp .And (b :: es) pos) (tE X.K J wb)) (ma : MonE wa) (mb : MonE wb) : PE X (.BoolOp .And (a :: b :: es) pos) (tE X.K J (wAnd wa wb)) := by
  refine ⟨fun pins s σ H Q I ⟨A, ρ, h, j, rs, r, hw⟩ => (pe_and ha hb).run pins s σ H Q I ?_⟩
  refine tE_of jj j rs r ma hw fun x h1 v H1 ⟨z, e, p⟩ j1 rs1 m1 r1 rv => ?_
  subst e
  cases rv
  refine ⟨z, rfl, ?_⟩
  cases z with
  | true => exact ⟨A, ρ, h1, j1, rs1, r1, mb _ _ _ _ (fun _ _ u => up.trans m1 u) p⟩
  | false => exact p _ _ m1 r1 (.bl _)
theorem s_or (jj : JOk J) (ha : PE X a (tE X.K J wa)) (hb : PE X (.BoolOp .Or (b :: es) pos) (tE X.K J wb)) (ma : MonE wa) (mb : MonE wb) : PE X (.BoolOp .Or (a :: b :: es) pos) (tE X.K J (wOr wa wb)) := by
  refine ⟨fun pins s σ H Q I ⟨A, ρ, h, j, rs, r, hw⟩ => (pe_or ha hb).run pins s σ H Q I ?_⟩
  refine tE_of jj j rs r ma hw fun x h1 v H1 ⟨z, e, p⟩ j1 rs1 m1 r1 rv => ?_
  subst e
  cases rv
  refine ⟨z, rfl, ?_⟩
  cases z with
  | false => exact ⟨A, ρ, h1, j1, rs1, r1, mb _ _ _ _ (fun _ _ u => up.trans m1 u) p⟩
  | true => exact p _ _ m1 r1 (.bl _)
/-- tests -/
def truP (h : MH) (x : PV) (k : Bool) : Prop := match x with
  | .non => k = false
  | .bl b => k = b
  | .int i => k = (i != 0)
  | .str y => y.length ≤ sizeLine ∧ k = ((y.length : Int) != 0)
  | .ty _ => False
  | x => ∃ xs, asSeq h x = some xs ∧ k = !xs.isEmpty
def wVal (wa : WE) : WT := fun ρ h Q => wa ρ h fun x h1 => ∃ k, truP h1 x k ∧ Q k h1
def wAndT (wt wu : WT) : WT := fun ρ h Q => wt ρ h fun b h1 => if b = true then wu ρ h1 Q else Q false h1
def wOrT (wt wu : WT) : WT := fun ρ h Q => wt ρ h fun b h1 => if b = true then Q true h1 else wu ρ h1 Q
def wNotT (wt : WT) : WT := fun ρ h Q => wt ρ h fun b h1 => Q (!b) h1
theorem mono_val (ma : MonE wa) : MonT (wVal wa) := fun ρ h P Q k hw => ma _ _ _ _ (fun x h1 ⟨b, e, z⟩ => ⟨b, e, k _ _ z⟩) hw
theorem mono_andT (ma : MonT wt) (mb : MonT wu) : MonT (wAndT wt wu) := fun ρ h P Q k hw => ma _ _ _ _ (fun b h1 z => by
  cases b with
  | true => exact mb _ _ _ _ k z
  | false => exact k _ _ z) hw
theorem mono_orT (ma : MonT wt) (mb : MonT wu) : MonT (wOrT wt wu) := fun ρ h P Q k hw => ma _ _ _ _ (fun b h1 z => by
  cases b with
  | false => exact mb _ _ _ _ k z
  | true => exact k _ _ z) hw
theorem mono_notT (ma : MonT wt) : MonT (wNotT wt) := fun ρ h P Q k hw => ma _ _ _ _ (fun b h1 z => k _ _ z) hw
theorem tru_rep {K : Frag} {A : Addr → Prop} {H : Hp} {h : MH} {x : PV} {v : V} {k : Bool} (r : Rel K A H h) (rv : RepV K H x v) (t : truP h x k) : TruV K v H k := by
  have go : (∃ xs, asSeq h x = some xs ∧ k = !xs.isEmpty) → TruV K v H k := by
    rintro ⟨xs, e, rfl⟩
    obtain ⟨p, vs, rfl, hq, l⟩ := asSeq_sq r rv e
    have em : (!xs.isEmpty) = !vs.isEmpty := by cases l <;> rfl
    rcases hq with ⟨hq, _⟩ | ⟨hq, _⟩
    · exact .inl ⟨vs, hq, em⟩
    · exact .inr (.inl ⟨vs, hq, em⟩)
  cases rv with
  | non => exact t
  | bl b => exact t
  | int b => exact t
  | str b => exact t
  | ty n => exact (show False from t).elim
  | ref a => exact go t
  | tup s l => exact go t
  | lst s l => exact go t
  | scr s l => exact go t
  | tpl s l => exact go t
theorem s_val (jj : JOk J) (ha : PE X a (tE X.K J wa)) (ma : MonE wa) (hp : ∀ whole, isTrue a X.env whole = (do let v ← whole; standAt a.pos; holding [v] (truthy v))) : PT X a (tT X.K J (wVal wa)) := by
  refine ⟨fun pins s σ H Q I ⟨A, ρ, h, j, rs, r, hw⟩ => (pt_truth ha hp).run pins s σ H Q I ?_⟩
  exact tE_of jj j rs r ma hw fun x h1 v H1 ⟨z, e, p⟩ j1 rs1 m1 r1 rv => ⟨z, tru_rep r1 rv e, p H1 m1 r1⟩
theorem s_cmpT (m : Match X c G gl k J ex) (op : COp) (ha : PE X a (tE X.K J wa)) (hb : PE X b (tE X.K J wb)) (ma : MonE wa) (mb : MonE wb) (hm : behindInMarks op.op b = false) (hbool : ∀ x y h (P : PK), cmpOp op x y h P → cmpOp op x y h fun z h' => (∃ k, z = .bl k) ∧ P z h') : PT X (.Compare a [op.op] [b] pos) (tT X.K J (wVal (w2 (cmpOp op) wa wb))) := by
  refine ⟨fun pins s σ H Q I hw => (pt_cmpR (ok_cmp (room65 m.room) op) ha hb hm).run pins s σ H Q I ?_⟩
  obtain ⟨A, ρ, h, j, rs, r, hw⟩ := hw
  have : tE X.K J (w2 (cmpOp op) wa wb) σ H fun v H' => ∃ k, v = .bl k ∧ Q k H' := by
    refine ⟨A, ρ, h, j, rs, r, ma _ _ _ _ (fun x h1 z => mb _ _ _ _ (fun y h2 z2 => ?_) z) hw⟩
    refine mono_cmp op _ _ _ _ _ (fun u h3 ⟨⟨b, e⟩, k', t, p⟩ => ?_) (hbool _ _ _ _ z2)
    subst e
    intro v H3 m3 r3 rv3
    cases rv3
    exact ⟨b, rfl, by rw [show b = k' from (show k' = b from t).symm]; exact p H3 m3 r3⟩
  exact t2 m.jj (mono_cmp op) ma mb this
theorem cmp_bool (op : COp) (x y : PV) (h : MH) (P : PK) (hw : cmpOp op x y h P) : cmpOp op x y h fun z h' => (∃ k, z = .bl k) ∧ P z h' := by
  have e (n : Bool) (hw : opEq n x y h P) : opEq n x y h fun z h' => (∃ k, z = .bl k) ∧ P z h' := by
    unfold opEq at hw ⊢
    split at hw
    · exact ⟨⟨_, rfl⟩, hw⟩
    · rename_i hno
      obtain ⟨d, e, h1, h2, h3, h4, q⟩ := hw
      exact ⟨d, e, h1, h2, h3, h4, ⟨_, rfl⟩, q⟩
  have i (p : Int → Int → Bool) (hw : opCmp p x y h P) : opCmp p x y h fun z h' => (∃ k, z = .bl k) ∧ P z h' := by
    unfold opCmp at hw ⊢
    split at hw
    · exact ⟨⟨_, rfl⟩, hw⟩
    · exact hw.elim
  have o (n : Bool) (hw : opIn n x y h P) : opIn n x y h fun z h' => (∃ k, z = .bl k) ∧ P z h' := by
    unfold opIn at hw ⊢
    split at hw
    · exact ⟨⟨_, rfl⟩, hw⟩
    · rename_i hno
      obtain ⟨xs, d, ds, h1, h2, h3, h4, h5, q⟩ := hw
      exact ⟨xs, d, ds, h1, h2, h3, h4, h5, ⟨_, rfl⟩, q⟩
  have u (n : Bool) (hw : opIs n x y h P) : opIs n x y h fun z h' => (∃ k, z = .bl k) ∧ P z h' := by
    unfold opIs at hw ⊢
    split at hw
    · exact ⟨⟨_, rfl⟩, hw⟩
    · split at hw
      · exact ⟨⟨_, rfl⟩, hw⟩
      · exact hw.elim
    · exact hw.elim
  have z (n : Bool) (hw : opEqE n x y h P) : opEqE n x y h fun z h' => (∃ k, z = .bl k) ∧ P z h' := by
    unfold opEqE at hw ⊢
    split at hw
    · obtain ⟨xs, e, q⟩ := hw
      exact ⟨xs, e, ⟨_, rfl⟩, q⟩
    · split at hw
      · exact ⟨⟨_, rfl⟩, hw⟩
      · exact hw.elim
    · exact hw.elim
  cases op
  · exact e _ hw
  · exact e _ hw
  · exact i _ hw
  · exact i _ hw
  · exact i _ hw
  · exact i _ hw
  · exact o _ hw
  · exact o _ hw
  · exact u _ hw
  · exact u _ hw
  · exact z _ hw
  · exact z _ hw
theorem s_chainT (m : Match X c G gl k J ex) (op op' : COp) (ha : PE X a (tE X.K J wa)) (hb : PE X b (tE X.K J wb)) (hd : PE X d (tE X.K J wd)) (ma : MonE wa) (mb : MonE wb) (md : MonE wd)
    (hm : behindInMarks op'.op d = false) : PT X (.Compare a [op.op, op'.op] [b, d] pos) (tT X.K J (wVal (wChain (cmpOp op) (cmpOp op') wa wb wd))) := by
  refine ⟨fun pins s σ H Q I hw => (pt_chain (ok_cmp (room65 m.room) op) (ok_cmp (room65 m.room) op') ha hb hd (by simp only [lastMarks]; exact hm)).run pins s σ H Q I ?_⟩
  obtain ⟨A, ρ, h, j, rs, r, hw⟩ := hw
  refine tE_of m.jj j rs r ma hw fun x h1 v H1 p j1 rs1 m1 r1 rv => ?_
  refine tE_of m.jj j1 rs1 r1 mb p fun y h2 u H2 q j2 rs2 m2 r2 ru => ?_
  refine ⟨A, x, y, h2, r2, rv.mon m2, ru, mono_cmp op _ _ _ _ _ (fun z h3 z3 => ?_) q⟩
  obtain ⟨b, rfl, z3⟩ := z3
  intro v3 H3 m3 r3 rv3
  cases rv3
  refine ⟨b, rfl, ?_⟩
  cases b with
  | false =>
    obtain ⟨k', t, p⟩ := z3
    exact ⟨false, rfl, by rw [← show k' = false from t]; exact p _ (m1.trans (m2.trans m3)) r3⟩
  | true =>
    refine tE_of m.jj (m.jj.mon j2 m3) (rs2.mon m3) r3 md z3 fun w h4 u4 H4 q4 j4 rs4 m4 r4 ru4 => ?_
    refine ⟨A, y, w, h4, r4, ru.mon (m3.trans m4), ru4, mono_cmp op' _ _ _ _ _ (fun z h5 ⟨⟨b, e⟩, k', t, p⟩ => ?_) (cmp_bool op' _ _ _ _ q4)⟩
    subst e
    intro v5 H5 m5 r5 rv5
    cases rv5
    exact ⟨b, rfl, by rw [show b = k' from (show k' = b from t).symm]; exact p _ (m1.trans (m2.trans (m3.trans (m4.trans m5)))) r5⟩
theorem s_notT (jj : JOk J) (ha : PT X a (tT X.K J wt)) (ma : MonT wt) : PT X (.UnaryOp .Not a pos) (tT X.K J (wNotT wt)) := by
  refine ⟨fun pins s σ H Q I ⟨A, ρ, h, j, rs, r, hw⟩ => (pt_not ha).run pins s σ H Q I ?_⟩
  exact ⟨A, ρ, h, j, rs, r, ma _ _ _ _ (fun b h1 z => z) hw⟩
theorem s_andT (jj : JOk J) (ha : PT X a (tT X.K J wt)) (hb : PW X (.BoolOp .And (b :: es) pos) (tT X.K J wu)) (ma : MonT wt) (mb : MonT wu) : PW X (.BoolOp .And (a :: b :: es) pos) (tT X.K J (wAndT wt wu)) := by
  refine ⟨fun wh pins s σ H Q I ⟨A, ρ, h, j, rs, r, hw⟩ => (pw_and ha hb).run wh pins s σ H Q I ?_⟩
  refine tT_of jj j rs r ma hw fun z h1 H1 p j1 rs1 m1 r1 => ?_
  cases z with
  | true => exact ⟨A, ρ, h1, j1, rs1, r1, mb _ _ _ _ (fun b h2 u H' m' r' => u H' (m1.trans m') r') p⟩
  | false => exact p H1 m1 r1
theorem s_orT (jj : JOk J) (ha : PT X a (tT X.K J wt)) (hb : PW X (.BoolOp .Or (b :: es) pos) (tT X.K J wu)) (ma : MonT wt) (mb : MonT wu) : PW X (.BoolOp .Or (a :: b :: es) pos) (tT X.K J (wOrT wt wu)) := by
  refine ⟨fun wh pins s σ H Q I ⟨A, ρ, h, j, rs, r, hw⟩ => (pw_or ha hb).run wh pins s σ H Q I ?_⟩
  refine tT_of jj j rs r ma hw fun z h1 H1 p j1 rs1 m1 r1 => ?_
  cases z with
  | false => exact ⟨A, ρ, h1, j1, rs1, r1, mb _ _ _ _ (fun b h2 u H' m' r' => u H' (m1.trans m') r') p⟩
  | true => exact p H1 m1 r1
def wIte (wt : WT) (wa wb : WE) : WE := fun ρ h Q => wt ρ h fun b h1 => if b = true then wa ρ h1 Q else wb ρ h1 Q
theorem mono_ite (mt : MonT wt) (ma : MonE wa) (mb : MonE wb) : MonE (wIte wt wa wb) := fun ρ h P Q k hw => mt _ _ _ _ (fun b h1 z => by
  cases b with
  | true => exact ma _ _ _ _ k z
  | false => exact mb _ _ _ _ k z) hw
theorem s_ite (jj : JOk J) {t : Expr} (ht : PT X t (tT X.K J wt)) (ha : PE X a (tE X.K J wa)) (hb : PE X b (tE X.K J wb)) (mt : MonT wt) (ma : MonE wa) (mb : MonE wb) : PE X (.IfExp t a b pos) (tE X.K J (wIte wt wa wb)) := by
  refine ⟨fun pins s σ H Q I ⟨A, ρ, h, j, rs, r, hw⟩ => (pe_ifExp ht ha hb).run pins s σ H Q I ?_⟩
  refine tT_of jj j rs r mt hw fun z h1 H1 p j1 rs1 m1 r1 => ?_
  cases z with
  | true => exact ⟨A, ρ, h1, j1, rs1, r1, ma _ _ _ _ (fun _ _ u => up.trans m1 u) p⟩
  | false => exact ⟨A, ρ, h1, j1, rs1, r1, mb _ _ _ _ (fun _ _ u => up.trans m1 u) p⟩

/-! ### subscripts -/
theorem s_ix (jj : JOk J) (ha : PE X a (tE X.K J wa)) (hb : PE X b (tE X.K J wb)) (ma : MonE wa) (mb : MonE wb) (hs : PlainIx b) : PE X (.Subscript a b pos) (tE X.K J (w2 opIx wa wb)) :=
  ⟨fun pins s σ H Q I hw => (pe_ix ok_opIx ha hb hs).run pins s σ H Q I (t2 jj mono_opIx ma mb hw)⟩
/-- a part of a slice -/
abbrev WO := Env → MH → (Option Int → MH → Prop) → Prop
def MonO (w : WO) : Prop := ∀ ρ h (P Q : Option Int → MH → Prop), (∀ x h, P x h → Q x h) → w ρ h P → w ρ h Q
def tO (K : Frag) (J : Jw) (w : WO) : L2.TO := fun σ H Q => ∃ A ρ h, J A H ∧ RepSt K H ρ σ ∧ Rel K A H h ∧ w ρ h fun x h' => ∀ H', Mon A H H' → Rel K A H' h' → Q x H'
def wOmit : WO := fun _ h Q => Q none h
def wPart (wa : WE) : WO := fun ρ h Q => wa ρ h fun x h1 => ∃ i, x = .int i ∧ Q (some i) h1
theorem mono_omit : MonO wOmit := fun _ _ _ _ k q => k _ _ q
theorem mono_part (ma : MonE wa) : MonO (wPart wa) := fun ρ h P Q k hw => ma _ _ _ _ (fun x h1 ⟨i, e, q⟩ => ⟨i, e, k _ _ q⟩) hw
theorem s_omit : PO X none (tO X.K J wOmit) := ⟨fun pins s σ H Q I ⟨A, ρ, h, j, rs, r, q⟩ => po_none.run pins s σ H Q I (q H .refl r)⟩
theorem s_part (jj : JOk J) (ha : PE X a (tE X.K J wa)) (ma : MonE wa) : PO X (some a) (tO X.K J (wPart wa)) := by
  refine ⟨fun pins s σ H Q I ⟨A, ρ, h, j, rs, r, hw⟩ => (po_some ha).run pins s σ H Q I ?_⟩
  refine tE_of jj j rs r ma hw fun x h1 v H1 ⟨i, e, q⟩ j1 rs1 m1 r1 rv => ?_
  subst e
  cases rv
  exact ⟨i, rfl, q H1 m1 r1⟩
def wSl (m : Bool) (wa : WE) (wl wu : WO) : WE := fun ρ h Q => wa ρ h fun x h1 => wl ρ h1 fun l h2 => wu ρ h2 fun u h3 => opSl m x l u h3 Q
theorem mono_sl (m : Bool) {wl wu : WO} (ma : MonE wa) (ml : MonO wl) (mu : MonO wu) : MonE (wSl m wa wl wu) := fun ρ h P Q k hw =>
  ma _ _ _ _ (fun x h1 z => ml _ _ _ _ (fun l h2 z2 => mu _ _ _ _ (fun u h3 z3 => mono_opSl m x l u h3 P Q k z3) z2) z) hw
theorem s_sl {lo hi : Option Expr} {wl wu : WO} {p2 : Pos} (jj : JOk J) (m : Bool) (ha : PE X a (tE X.K J wa)) (hl : PO X lo (tO X.K J wl)) (hu : PO X hi (tO X.K J wu)) (ma : MonE wa) (ml : MonO wl) (mu : MonO wu) :
    PE X (.Subscript a (.Slice lo hi none p2) pos) (tE X.K J (wSl m wa wl wu)) := by
  refine ⟨fun pins s σ H Q I ⟨A, ρ, h, j, rs, r, hw⟩ => (pe_slice (ok_opSl m) ha hl hu).run pins s σ H Q I ?_⟩
  refine tE_of jj j rs r ma hw fun x h1 v H1 p j1 rs1 m1 r1 rv => ?_
  refine ⟨A, ρ, h1, j1, rs1, r1, ml _ _ _ _ (fun l h2 p2 H2 m2 r2 => ?_) p⟩
  refine ⟨A, ρ, h2, jj.mon j1 m2, rs1.mon m2, r2, mu _ _ _ _ (fun u h3 p3 H3 m3 r3 => ?_) p2⟩
  exact ⟨A, x, h3, r3, rv.mon (m2.trans m3), mono_opSl m x l u h3 _ _ (fun z h4 up => up.trans (m1.trans (m2.trans m3))) p3⟩

/-! ### calls -/
theorem s_bi (m : Match X c G gl k J ex) {x : Str} {p : Pos} (f : Bool) (b : Bi) (hx : x = b.name) (hg : Gl X x) (hm : X.mg x = none) (ha : PA X (e :: es) (tA X.K J wl)) (ml : MonA wl)
    (he : starEach (e :: es) X.env = (false, eval e X.env) :: starEach es X.env) (hpl : (backTo pos (starEach es X.env)).any (·.1) = false) : PE X (.Call (.Name x p) (e :: es) [] pos) (tE X.K J (wL (biOp f b) wl)) := by
  subst hx
  have ho := ok_bi (X := X) m.calm m.gd (room65 m.room) f b
  have tl : ∀ {σ H Q}, tE X.K J (wL (biOp f b) wl) σ H Q → tCB (lL X.K (biOp f b)) (tA X.K J wl) σ H Q := fun hw => tL m.jj (mono_bi f b) ml hw
  refine ⟨fun pins s σ H Q I hw => ?_⟩
  cases b
  case len => exact (pe_callB ho hg hm PySem.boot_len ha (by decide) (by decide) he hpl).run pins s σ H Q I (tl hw)
  case int => exact (pe_callTy ho hg hm (by decide +kernel) ha (by decide) (by decide) he hpl).run pins s σ H Q I (tl hw)
  case tupd => exact (pe_callTy ho hg hm (by decide +kernel) ha (by decide) (by decide) he hpl).run pins s σ H Q I (tl hw)
  case tuple => exact (pe_callTy ho hg hm (by decide +kernel) ha (by decide) (by decide) he hpl).run pins s σ H Q I (tl hw)
  case list => exact (pe_callTy ho hg hm (by decide +kernel) ha (by decide) (by decide) he hpl).run pins s σ H Q I (tl hw)
  case str => exact (pe_callTy ho hg hm (by decide +kernel) ha (by decide) (by decide) he hpl).run pins s σ H Q I (tl hw)
  all_goals exact (pe_callB ho hg hm (by decide +kernel) ha (by decide) (by decide) he hpl).run pins s σ H Q I (tl hw)

/-- a def of the module -/
def wFn (sp : Spec) (ex : Env → XV) (wl : WA) : WE := fun ρ h Q => wl ρ h fun xs h1 => sp xs h1 Q (ex ρ)
theorem mono_fn {sp : Spec} (hs : ∀ as h (P Q : PK) (R T : XV), (∀ x h, P x h → Q x h) → (∀ c fs h, R c fs h → T c fs h) → sp as h P R → sp as h Q T) (ml : MonA wl) : MonE (wFn sp ex wl) := fun ρ h P Q k hw => ml _ _ _ _ (fun xs h1 z => hs _ _ _ _ _ _ k (fun _ _ _ z => z) z) hw
theorem run_fng (m : Match X c G gl k J ex) {f : Str} {ps : List Str} {fa : Addr} {fd : FuncData} (F : FnG X.prog X.w X.K X.mg X.base k fa fd ps (G.fn f)) {args : Args} {us : List Value} {vs : List V} {pins : List (Addr × Obj)} {s : Shared} {σ : L2.St} {H : Hp} {Q : VK} (I : Inv X pins σ H s)
    (hb : BindsTo s fd args (ps.zip us)) (rv : Vals vs us) (hl : vs.length = ps.length) {A : Addr → Prop} {ρ : Env} {h : MH} {as : List PV} (j : J A H) (rs : RepSt X.K H ρ σ) (r : Rel X.K A H h) (rl : RepL X.K H as vs) (hw : G.fn f as h (up X.K A H Q) (ex ρ)) :
    codeAny (model X.prog X.w) X.A (.call (.ref fa) args) (fun r s' => match r with
      | .ok (.ret u) => EP X pins σ Q u s'
      | .ok _ => False
      | .error e => X.xe e s') s := by
  refine codeAny_mono (F.run X.A X.stack s H args us vs Q (fun cls d H' => WJ X.K J ex cls d σ H') m.gd m.room I.env0 hb rv hl ⟨A, as, h, r, rl, ?_⟩) fun r s' hq => ?_
  · exact G.mono _ _ _ _ _ _ _ (fun _ _ z => z) (fun cl fs h' z d H' mo re xf => ⟨A, ρ, h', fs, m.jj.mon j mo, rs.mon mo, re, xf, z⟩) hw
  · cases r with
    | error e => exact m.tk _ _ (XE.of_call I (fun _ _ _ z => z) hq)
    | ok fl =>
      cases fl with
      | ret u => exact I.after hq
      | next => exact False.elim hq
      | brk => exact False.elim hq
      | cont => exact False.elim hq
theorem call_of {M : Model} {A : Around} {f : Value} {us : List Value} {kw : List (Str × Value)} {Q : Value → Shared → Prop} {E : Value → Shared → Prop} {s : Shared}
    (h : codeAny M A (.call f ⟨us, kw⟩) (fun r s' => match r with
      | .ok (.ret u) => Q u s'
      | .ok _ => False
      | .error e => E e s') s) : wpAny M A (call f us kw) Q E s := by
  refine wpAny_call (codeAny_mono h fun r s' hq => ?_)
  cases r with
  | error e => exact hq
  | ok fl => cases fl <;> first | exact hq | exact False.elim hq
theorem s_fn (m : Match X c G gl k J ex) {f : Str} {ps : List Str} {p : Pos} (hf : (f, ps) ∈ c.fns) (hg : Gl X f) (hd : (f == ("__debug__" : Str)) = false) (ha : PA X (e :: es) (tA X.K J wl)) (ml : MonA wl) (hn : es.length + 1 = ps.length)
    (len : ∀ {ρ h Q}, wl ρ h Q → wl ρ h fun xs h1 => xs.length = es.length + 1 ∧ Q xs h1)
    (he : starEach (e :: es) X.env = (false, eval e X.env) :: starEach es X.env) (hpl : (backTo pos (starEach es X.env)).any (·.1) = false) : PE X (.Call (.Name f p) (e :: es) [] pos) (tE X.K J (wFn (G.fn f) ex wl)) := by
  obtain ⟨fa, fd, hm, F, kp, bd⟩ := m.fns f ps hf
  refine ⟨fun pins s σ H Q I ⟨A, ρ, h, j, rs, r, hw⟩ => ?_⟩
  refine wpAny_Call_Name_kw (ld_glob I hg hm ?_ hd)
  have ht : tA X.K J wl σ H fun vs H1 => vs.length = ps.length ∧ ∃ (A : Addr → Prop) (ρ : Env) (h : MH) (as : List PV), J A H1 ∧ RepSt X.K H1 ρ σ ∧ Rel X.K A H1 h ∧ RepL X.K H1 as vs ∧ G.fn f as h (up X.K A H1 Q) (ex ρ) :=
    tA_of m.jj j rs r ml (len hw) fun xs h1 vs H1 p j1 rs1 m1 r1 rl => ⟨by rw [← rl.length, p.1, hn], A, ρ, h1, xs, j1, rs1, r1, rl, G.mono _ _ _ _ _ _ _ (fun _ _ z => up.trans m1 z) (fun _ _ _ z => z) p.2⟩
  refine PySem.W.callWith_K (h₀ := X.base) I.ok.mod.kin kp (thn (ha.run pos pins s σ H _ I ht) fun us s1 ⟨vs, H1, I1, rv, hl, A1, ρ1, h1, as, j1, rs1, r1, rl, q⟩ => ⟨I1.kIn, ?_⟩) he hpl
  have b := bd s1 us I1.kIn (by rw [List.append_nil, ← rv.length]; exact hl)
  rw [List.append_nil] at b
  exact call_of (run_fng m F I1 b rv hl j1 rs1 r1 rl q)
end
end Ev


set_option Elab.async false
set_option linter.all false
set_option maxRecDepth 100000
set_option maxHeartbeats 4000000
/-! Ev7: targets of loops, what is walked, comprehensions, methods of lists. -/
namespace Ev
open PySem PySem.Spec PyProof.Rows L2

/-! ### targets: names and tuples of them -/
mutual
inductive ST where
  | name (i : Nat)
  | tup (ts : STs)
inductive STs where
  | nil
  | cons (t : ST) (ts : STs)
end
def STs.len : STs → Nat
  | .nil => 0
  | .cons _ ts => ts.len + 1
mutual
def ST.set : ST → PV → Env → Option Env
  | .name i, x, ρ => some (ρ.set i (some x))
  | .tup ts, x, ρ => match x with
    | .tup xs => ts.set xs ρ
    | .lst xs => ts.set xs ρ
    | _ => none
def STs.set : STs → List PV → Env → Option Env
  | .nil, xs, ρ => match xs with
    | [] => some ρ
    | _ => none
  | .cons t ts, xs, ρ => match xs with
    | x :: xs => (t.set x ρ).bind fun ρ' => ts.set xs ρ'
    | _ => none
end
/-- .. of a tuple, of a list -/
def gSq (K : Frag) (n : Nat) (t : TGs) : TG := fun v σ H Q => ∃ a xs, v = .ref a ∧ (SqT K H a xs ∨ SqL K H a xs) ∧ xs.length = n ∧ t xs σ H Q
theorem pg_sq {X : Cx} {pos : Pos} {es : List Expr} {k : Nat} {t : TGs} {n : Nat} (hc : X.calm = true) (h : PGs X es t)
    (hn : (assignEach es X.env).length = n) (hst : (assignEach es X.env).findIdx? (·.1) = none) : PG X (.Tuple es k pos) (gSq X.K n t) := by
  refine ⟨fun pins s σ H v u Q I r hw => ?_⟩
  obtain ⟨a, xs, e1, hq | hq, hl, hw⟩ := hw
  · exact (pg_tup hc h hn hst).run pins s σ H v u Q I r ⟨a, xs, e1, hq, hl, hw⟩
  · subst e1
    cases r
    obtain ⟨its, rv, ⟨o, m, eo, ec, _, ed⟩, hz⟩ := I.list hq
    have isl : s.heap.IsList a its.toArray := ⟨o, eo, ec, m, ed⟩
    rw [assign_Tuple]
    refine wpAny_bind (wpAny_standAt ?_)
    unfold unpack
    rw [hst]
    have e2 : (assignEach es X.env).length = its.toArray.size := by rw [hn, ← hl, rv.length]; simp
    rw [e2]
    refine wpAny_bind (wpAny_holding (PySem.W.kun_itemsOf (I.ok.hd hc) isl fun h' hx => ?_))
    have I1 : Inv X pins σ H { s with heap := h' } := I.kept (t' := s.toks) fun b o e => hx b o (Nat.ne_of_lt (Heap.lt_size e)) e
    exact h.run pins _ σ H xs _ Q I1 (by simpa using rv) hw
mutual
/-- its reading -/
def ST.g (K : Frag) : ST → TG
  | .name i => gName i
  | .tup ts => gSq K ts.len (ts.g K)
def STs.g (K : Frag) : STs → TGs
  | .nil => gNil
  | .cons t ts => gCons (t.g K) (ts.g K)
end
mutual
def ST.slots : ST → List Nat
  | .name i => [i]
  | .tup ts => ts.slots
def STs.slots : STs → List Nat
  | .nil => []
  | .cons t ts => t.slots ++ ts.slots
end
theorem wipe_set {σ : L2.St} {i : Nat} {x : Option V} : ∀ {vs : List Nat}, i ∈ vs → L2.wipe (σ.set i x) vs = L2.wipe σ vs
  | v :: vs, h => by
    unfold L2.wipe
    by_cases e : i = v
    · subst e
      have go : ∀ (vs : List Nat) (σ : L2.St), (L2.wipe (σ.set i x) vs).set i none = (L2.wipe σ vs).set i none := by
        intro vs
        induction vs with
        | nil => intro σ; show (σ.set i x).set i none = σ.set i none; rw [List.set_set]
        | cons u us ih =>
          intro σ
          unfold L2.wipe
          by_cases e : i = u
          · subst e; rw [ih]
          · rw [List.set_comm _ _ (Ne.symm e), ih, List.set_comm _ _ e]
      exact go vs σ
    · have h' : i ∈ vs := by
        rcases List.mem_cons.mp h with z | z
        · exact absurd z e
        · exact z
      rw [wipe_set h']
theorem STs.set_len : ∀ (ts : STs) {xs : List PV} {ρ ρ' : Env}, ts.set xs ρ = some ρ' → xs.length = ts.len
  | .nil, xs, ρ, ρ', e => by
    cases xs with
    | nil => rfl
    | cons => simp [STs.set] at e
  | .cons t ts, xs, ρ, ρ', e => by
    cases xs with
    | nil => simp [STs.set] at e
    | cons y ys =>
      simp only [STs.set] at e
      obtain ⟨ρ1, _, e2⟩ := Option.bind_eq_some_iff.mp e
      simp only [List.length_cons, STs.len, STs.set_len ts e2]
section
variable {K : Frag} {H : Hp} {A : Addr → Prop} {h : MH}
mutual
theorem ST.set_ok : ∀ (t : ST) {x : PV} {v : V} {ρ ρ' : Env} {σ : L2.St} {R : L2.St → Hp → Prop}, RepV K H x v → RepSt K H ρ σ → t.set x ρ = some ρ' →
    (∀ σ', RepSt K H ρ' σ' → (∀ vs, (∀ i ∈ t.slots, i ∈ vs) → L2.wipe σ' vs = L2.wipe σ vs) → R σ' H) → t.g K v σ H R
  | .name i, x, v, ρ, ρ', σ, R, rv, rs, e, k => by
    simp only [ST.set] at e
    cases e
    simp only [ST.g, gName]
    exact k _ (rs.set i rv) fun vs hv => wipe_set (hv i (by simp [ST.slots]))
  | .tup ts, x, v, ρ, ρ', σ, R, rv, rs, e, k => by
    simp only [ST.set] at e
    split at e
    · rename_i xs
      cases rv with
      | tup s l =>
        simp only [ST.g, gSq]
        refine ⟨_, _, rfl, .inl s, ?_, ?_⟩
        · rw [← l.length]
          exact STs.set_len ts e
        · exact STs.set_ok ts l rs e fun σ' r' w' => k σ' r' fun vs hv => w' vs (by simpa [ST.slots] using hv)
    · rename_i xs
      cases rv with
      | lst s l =>
        simp only [ST.g, gSq]
        refine ⟨_, _, rfl, .inr (.inl s.rd), ?_, ?_⟩
        · rw [← l.length]
          exact STs.set_len ts e
        · exact STs.set_ok ts l rs e fun σ' r' w' => k σ' r' fun vs hv => w' vs (by simpa [ST.slots] using hv)
    · cases e
theorem STs.set_ok : ∀ (ts : STs) {xs : List PV} {vs : List V} {ρ ρ' : Env} {σ : L2.St} {R : L2.St → Hp → Prop}, RepL K H xs vs → RepSt K H ρ σ → ts.set xs ρ = some ρ' →
    (∀ σ', RepSt K H ρ' σ' → (∀ us, (∀ i ∈ ts.slots, i ∈ us) → L2.wipe σ' us = L2.wipe σ us) → R σ' H) → ts.g K vs σ H R
  | .nil, xs, vs, ρ, ρ', σ, R, l, rs, e, k => by
    cases l with
    | nil =>
      simp only [STs.set] at e
      cases e
      show gNil [] σ H R
      exact ⟨rfl, k σ rs fun _ _ => rfl⟩
    | cons => simp [STs.set] at e
  | .cons t ts, xs, vs, ρ, ρ', σ, R, l, rs, e, k => by
    cases l with
    | nil => simp [STs.set] at e
    | cons r l =>
      simp only [STs.set] at e
      obtain ⟨ρ1, e1, e2⟩ := Option.bind_eq_some_iff.mp e
      simp only [STs.g, gCons]
      refine ⟨_, _, rfl, ST.set_ok t r rs e1 fun σ1 rs1 w1 => ?_⟩
      exact STs.set_ok ts l rs1 e2 fun σ2 rs2 w2 => k σ2 rs2 fun us hu => (w2 us fun i hi => hu i (by simp [STs.slots, hi])).trans (w1 us fun i hi => hu i (by simp [STs.slots, hi]))
end
end

/-! ### what is walked -/
structure Items where
  xs : List PV
  keep : MH → Prop
structure ItOk (K : Frag) (A : Addr → Prop) (J : It) (it : Items) (H0 : Hp) : Prop where
  go : ∀ i H h, i < it.xs.length → Mon A H0 H → Rel K A H h → it.keep h → J.go i H
  stop : ∀ H h, Mon A H0 H → Rel K A H h → it.keep h → J.stop it.xs.length H
  yld : ∀ i H h x H', i < it.xs.length → Mon A H0 H → Rel K A H h → it.keep h → J.yld i H x H' → ∃ p, it.xs[i]? = some p ∧ RepV K H' p x ∧ (H' = H ∨ ∃ T ws, H T = none ∧ H' = upd H T (.tup ws))
abbrev WI := Env → MH → (Items → MH → Prop) → Prop
def MonI (w : WI) : Prop := ∀ ρ h (P Q : Items → MH → Prop), (∀ x h, P x h → Q x h) → w ρ h P → w ρ h Q
def tI (K : Frag) (J : Jw) (w : WI) : TI := fun σ H R => ∃ A ρ h, J A H ∧ RepSt K H ρ σ ∧ Rel K A H h ∧ w ρ h fun it h1 => ∀ I1 H1, Mon A H H1 → Rel K A H1 h1 → (∀ B : Addr → Prop, (∀ d, B d → A d) → ItOk K B I1 it H1) → R I1 H1

def chars (z : Str) : List PV := z.cps.toList.map fun c => .str ⟨#[c]⟩
def itemsOf (h : MH) : PV → Option (List PV)
  | .str z => some (chars z)
  | x => asSeq h x
def keepOf (x : PV) (xs : List PV) : MH → Prop := match x with
  | .ref r => fun h => h r = some (.lst xs)
  | _ => fun _ => True
def wSeq (wa : WE) : WI := fun ρ h Q => wa ρ h fun x h1 => ∃ xs, itemsOf h1 x = some xs ∧ Q ⟨xs, keepOf x xs⟩ h1
theorem mono_seq {wa : WE} (ma : MonE wa) : MonI (wSeq wa) := fun ρ h P Q k hw => ma _ _ _ _ (fun x h1 ⟨xs, e, q⟩ => ⟨xs, e, k _ _ q⟩) hw
section
variable {X : Cx} {tg a b d : Expr} {K : Frag} {A : Addr → Prop} {H : Hp} {h : MH}
/-- a list, a tuple or a text -/
def iAny (K : Frag) (tl : TE) : TI := fun σ H R => tl σ H fun x H1 => (∃ a, x = .ref a ∧ (((∃ xs, SqL K H1 a xs) ∧ R (Itl K a) H1) ∨ ((∃ xs, SqT K H1 a xs) ∧ R (Itt K a) H1))) ∨ ∃ z, x = .str z ∧ R (Its z) H1
theorem pi_any {tl : TE} (ha : PE X a tl) : PI X tg a (iAny X.K tl) := by
  constructor
  intro pins s σ H R I hw
  apply thn (ha.run pins s σ H _ I hw)
  rintro v s1 ⟨x, H1, I1, r1, ⟨l, rfl, ⟨⟨xs, q⟩, w⟩ | ⟨⟨xs, q⟩, w⟩⟩ | ⟨z, rfl, w⟩⟩
  · cases r1
    obtain ⟨its, _, pl, _⟩ := I1.list q
    exact wpAny_pyIter_list pl.isList (pi_one (tk := s1.toks) I1 _ (turn_list l _) ⟨_, Heap.get?_push_size _ rfl, rfl, rfl⟩ w)
  · cases r1
    obtain ⟨its, _, pl, _⟩ := I1.tuple q
    exact wpAny_pyIter_tuple (show s1.heap.IsTuple l its.toArray from pl) (pi_one (tk := s1.toks) I1 _ (turn_tuple l _) ⟨_, Heap.get?_push_size _ rfl, rfl, rfl⟩ w)
  · obtain ⟨t, rfl⟩ := r1
    cases ha : z.cps.all (· < 128)
    · exact wpAny_pyIter_wide ha (pi_one (tk := s1.toks) I1 _ (turn_str _ z t _ (.inr rfl)) ⟨_, Heap.get?_push_size _ rfl, rfl, rfl⟩ w)
    · exact wpAny_pyIter_ascii ha (pi_one (tk := s1.toks) I1 _ (turn_str _ z t _ (.inl rfl)) ⟨_, Heap.get?_push_size _ rfl, rfl, rfl⟩ w)

/-- what a kept list is later -/
theorem seq_later {H1 H : Hp} {h1 h : MH} {x : PV} {v : V} {xs : List PV} (r1 : Rel K A H1 h1) (rv : RepV K H1 x v) (e : asSeq h1 x = some xs) (m : Mon A H1 H) (r : Rel K A H h) (kp : keepOf x xs h) : asSeq h x = some xs ∧ RepV K H x v := by
  refine ⟨?_, rv.mon m⟩
  cases x with
  | ref p =>
    have q : h p = some (.lst xs) := kp
    show (match h p with | some (.lst ys) => some ys | _ => none) = some xs
    rw [q]
  | tup ys => exact e
  | tpl ys => exact e
  | lst ys => exact e
  | scr ys => exact e
  | _ => cases e
theorem itl_ok {H1 : Hp} {h1 : MH} {x : PV} {p : Addr} {vs : List V} {xs : List PV} (r1 : Rel K A H1 h1) (rv : RepV K H1 x (.ref p)) (e : asLstW h1 x = some xs) (hs : asSeq h1 x = some xs) : ItOk K A (Itl K p) ⟨xs, keepOf x xs⟩ H1 := by
  have at_ : ∀ {H : Hp} {h : MH}, Mon A H1 H → Rel K A H h → keepOf x xs h → ∃ ws, SqL K H p ws ∧ RepL K H xs ws := by
    intro H h m r kp
    obtain ⟨e2, rv2⟩ := seq_later r1 rv hs m r kp
    obtain ⟨q, ws, eq, hq, l⟩ := asSeq_sq r rv2 e2
    cases eq
    rcases hq with ⟨hq, _⟩ | ⟨_, rfl | rfl⟩
    · exact ⟨ws, hq, l⟩
    · cases e
    · cases e
  refine ⟨fun i H h hi m r kp => ?_, fun H h m r kp => ?_, fun i H h y H' hi m r kp yl => ?_⟩
  · obtain ⟨ws, hq, l⟩ := at_ m r kp
    have hi : i < xs.length := hi
    obtain ⟨w, e1, _⟩ := l.get (List.getElem?_eq_getElem hi)
    exact ⟨ws, w, hq, e1⟩
  · obtain ⟨ws, hq, l⟩ := at_ m r kp
    exact ⟨ws, hq, Nat.le_of_eq l.length.symm⟩
  · obtain ⟨ws, hq, l⟩ := at_ m r kp
    obtain ⟨rfl, yl⟩ := yl
    obtain ⟨z, e1, rz⟩ := l.get' (yl ws hq)
    exact ⟨z, e1, rz, .inl rfl⟩
theorem itt_ok {H1 : Hp} {h1 : MH} {p : Addr} {xs : List PV} (r1 : Rel K A H1 h1) (rv : RepV K H1 (.tup xs) (.ref p)) : ItOk K A (Itt K p) ⟨xs, keepOf (.tup xs) xs⟩ H1 := by
  have at_ : ∀ {H : Hp}, Mon A H1 H → ∃ ws, SqT K H p ws ∧ RepL K H xs ws := by
    intro H m
    cases rv.mon m with
    | tup s l => exact ⟨_, s, l⟩
  refine ⟨fun i H h hi m r kp => ?_, fun H h m r kp => ?_, fun i H h y H' hi m r kp yl => ?_⟩
  · obtain ⟨ws, hq, l⟩ := at_ m
    have hi : i < xs.length := hi
    obtain ⟨w, e1, _⟩ := l.get (List.getElem?_eq_getElem hi)
    exact ⟨ws, w, hq, e1⟩
  · obtain ⟨ws, hq, l⟩ := at_ m
    exact ⟨ws, hq, Nat.le_of_eq l.length.symm⟩
  · obtain ⟨ws, hq, l⟩ := at_ m
    obtain ⟨rfl, yl⟩ := yl
    obtain ⟨z, e1, rz⟩ := l.get' (yl ws hq)
    exact ⟨z, e1, rz, .inl rfl⟩
theorem ittd_ok {H1 : Hp} {h1 : MH} {p : Addr} {xs : List PV} (r1 : Rel K A H1 h1) (rv : RepV K H1 (.tpl xs) (.ref p)) : ItOk K A (Itt K p) ⟨xs, keepOf (.tpl xs) xs⟩ H1 := by
  have at_ : ∀ {H : Hp}, Mon A H1 H → ∃ ws, SqT K H p ws ∧ RepL K H xs ws := by
    intro H m
    cases rv.mon m with
    | tpl s l => exact ⟨_, s.sq, l⟩
  refine ⟨fun i H h hi m r kp => ?_, fun H h m r kp => ?_, fun i H h y H' hi m r kp yl => ?_⟩
  · obtain ⟨ws, hq, l⟩ := at_ m
    have hi : i < xs.length := hi
    obtain ⟨w, e1, _⟩ := l.get (List.getElem?_eq_getElem hi)
    exact ⟨ws, w, hq, e1⟩
  · obtain ⟨ws, hq, l⟩ := at_ m
    exact ⟨ws, hq, Nat.le_of_eq l.length.symm⟩
  · obtain ⟨ws, hq, l⟩ := at_ m
    obtain ⟨rfl, yl⟩ := yl
    obtain ⟨z, e1, rz⟩ := l.get' (yl ws hq)
    exact ⟨z, e1, rz, .inl rfl⟩
theorem its_ok {H1 : Hp} {z : Str} {kp : MH → Prop} : ItOk K A (Its z) ⟨chars z, kp⟩ H1 := by
  have hl : (chars z).length = z.cps.size := by simp [chars]
  refine ⟨fun i H h hi m r kp => by show i < z.cps.size; rw [← hl]; exact hi, fun H h m r kp => by show z.cps.size ≤ (chars z).length; rw [hl]; exact Nat.le_refl _, fun i H h y H' hi m r kp yl => ?_⟩
  obtain ⟨rfl, c, e, rfl⟩ := yl
  refine ⟨.str ⟨#[c]⟩, ?_, .str _, .inl rfl⟩
  show (chars z)[i]? = _
  unfold chars
  rw [List.getElem?_map, Array.getElem?_toList, e] <;> rfl
variable {J : Jw} {wa wb wd : WE} {wl : WA} {pos : Pos}
theorem s_seq (jj : JOk J) (ha : PE X a (tE X.K J wa)) (ma : MonE wa) : PI X tg a (tI X.K J (wSeq wa)) := by
  refine ⟨fun pins s σ H R I ⟨A, ρ, h, j, rs, r, hw⟩ => (pi_any ha).run pins s σ H R I ?_⟩
  refine tE_of jj j rs r ma hw fun x h1 v H1 ⟨xs, e, p⟩ j1 rs1 m1 r1 rv => ?_
  have go : asSeq h1 x = some xs → (∃ a, v = .ref a ∧ (((∃ xs, SqL X.K H1 a xs) ∧ R (Itl X.K a) H1) ∨ ((∃ xs, SqT X.K H1 a xs) ∧ R (Itt X.K a) H1))) := by
    intro e
    obtain ⟨l, vs, rfl, hq, rl⟩ := asSeq_sq r1 rv e
    refine ⟨l, rfl, ?_⟩
    rcases hq with ⟨hq, e1⟩ | ⟨hq, rfl | rfl⟩
    · exact .inl ⟨⟨vs, hq⟩, p _ _ m1 r1 fun B sB => itl_ok (vs := vs) (r1.sub sB) rv e1 e⟩
    · exact .inr ⟨⟨vs, hq⟩, p _ _ m1 r1 fun B sB => itt_ok (r1.sub sB) rv⟩
    · exact .inr ⟨⟨vs, hq⟩, p _ _ m1 r1 fun B sB => ittd_ok (r1.sub sB) rv⟩
  cases x with
  | str z =>
    cases e
    cases rv
    exact .inr ⟨z, rfl, p _ _ m1 r1 fun _ _ => its_ok⟩
  | _ => exact .inl (go e)
/-! ranges -/
def rangeP (lo c : Int) (n : Nat) : List PV := (List.range n).map fun i => .int (lo + (i : Nat) * c)
theorem rangeP_len (lo c : Int) (n : Nat) : (rangeP lo c n).length = n := by simp [rangeP]
theorem rangeP_get {lo c : Int} {n i : Nat} (hi : i < n) : (rangeP lo c n)[i]? = some (.int (lo + (i : Nat) * c)) := by
  unfold rangeP
  rw [List.getElem?_map, List.getElem?_range hi] <;> rfl
def wRng1 (wl : WA) : WI := fun ρ h Q => wl ρ h fun xs h1 => ∃ j : Int, xs = [.int j] ∧ -(2 ^ 62) ≤ j ∧ j < 2 ^ 62 ∧ Q ⟨rangeP 0 1 j.toNat, fun _ => True⟩ h1
def wRng2 (wl : WA) : WI := fun ρ h Q => wl ρ h fun xs h1 => ∃ i j : Int, xs = [.int i, .int j] ∧ (-(2 ^ 62) ≤ i ∧ i < 2 ^ 62 ∧ -(2 ^ 62) ≤ j ∧ j < 2 ^ 62) ∧ Q ⟨rangeP i 1 (j - i).toNat, fun _ => True⟩ h1
def wRng3 (wl : WA) : WI := fun ρ h Q => wl ρ h fun xs h1 => ∃ (i j c : Int) (n : Nat), xs = [.int i, .int j, .int c] ∧ RgC i j c n ∧ Q ⟨rangeP i c n, fun _ => True⟩ h1
theorem mono_rng1 (ml : MonA wl) : MonI (wRng1 wl) := fun ρ h P Q k hw => ml _ _ _ _ (fun x h1 ⟨j, e, e2, e3, q⟩ => ⟨j, e, e2, e3, k _ _ q⟩) hw
theorem mono_rng2 (ml : MonA wl) : MonI (wRng2 wl) := fun ρ h P Q k hw => ml _ _ _ _ (fun x h1 ⟨i, j, e, e2, q⟩ => ⟨i, j, e, e2, k _ _ q⟩) hw
theorem mono_rng3 (ml : MonA wl) : MonI (wRng3 wl) := fun ρ h P Q k hw => ml _ _ _ _ (fun x h1 ⟨i, j, c, n, e, e2, q⟩ => ⟨i, j, c, n, e, e2, k _ _ q⟩) hw
theorem itc_ok {H1 : Hp} {lo c : Int} {n : Nat} : ItOk K A (Itc lo c n) ⟨rangeP lo c n, fun _ => True⟩ H1 := by
  have hl := rangeP_len lo c n
  refine ⟨fun i H h hi m r kp => by show i < n; rw [← hl]; exact hi, fun H h m r kp => by show n ≤ (rangeP lo c n).length; rw [hl]; exact Nat.le_refl _, fun i H h y H' hi m r kp yl => ?_⟩
  obtain ⟨rfl, rfl⟩ := yl
  exact ⟨_, rangeP_get (by rw [← hl]; exact hi), .int _, .inl rfl⟩
theorem itr_ok {H1 : Hp} {lo : Int} {n : Nat} : ItOk K A (Itr lo n) ⟨rangeP lo 1 n, fun _ => True⟩ H1 := by
  have hl := rangeP_len lo 1 n
  refine ⟨fun i H h hi m r kp => by show i < n; rw [← hl]; exact hi, fun H h m r kp => by show n ≤ (rangeP lo 1 n).length; rw [hl]; exact Nat.le_refl _, fun i H h y H' hi m r kp yl => ?_⟩
  obtain ⟨rfl, rfl⟩ := yl
  refine ⟨_, rangeP_get (by rw [← hl]; exact hi), ?_, .inl rfl⟩
  rw [Int.mul_one]
  exact .int _
theorem int1 {H : Hp} {j : Int} {vs : List V} (l : RepL K H [.int j] vs) : vs = [.int j] := by
  obtain ⟨v, rfl, r⟩ := repL1 l
  cases r; rfl
theorem int2 {H : Hp} {i j : Int} {vs : List V} (l : RepL K H [.int i, .int j] vs) : vs = [.int i, .int j] := by
  obtain ⟨v, w, rfl, r, r2⟩ := repL2 l
  cases r; cases r2; rfl
theorem int3 {H : Hp} {i j c : Int} {vs : List V} (l : RepL K H [.int i, .int j, .int c] vs) : vs = [.int i, .int j, .int c] := by
  cases l with
  | cons r t =>
    obtain ⟨v, w, rfl, r1, r2⟩ := repL2 t
    cases r; cases r1; cases r2; rfl
theorem s_rng1 {p : Pos} (jj : JOk J) (hg : Gl X "range") (hm : X.mg "range" = none) (ha : PA X [a] (tA X.K J wl)) (ml : MonA wl) (hs : starEach [a] X.env = [(false, eval a X.env)]) : PI X tg (.Call (.Name "range" p) [a] [] pos) (tI X.K J (wRng1 wl)) := by
  refine ⟨fun pins s σ H R I ⟨A, ρ, h, j, rs, r, hw⟩ => (pi_range1 hg hm ha hs).run pins s σ H R I ?_⟩
  refine tA_of jj j rs r ml hw fun x h1 v H1 ⟨n, e, b1, b2, q⟩ j1 rs1 m1 r1 rl => ?_
  subst e
  exact ⟨n, int1 rl, b1, b2, q _ _ m1 r1 fun _ _ => itr_ok⟩
theorem s_rng2 {p : Pos} (jj : JOk J) (hg : Gl X "range") (hm : X.mg "range" = none) (ha : PA X [a, b] (tA X.K J wl)) (ml : MonA wl) (hs : starEach [a, b] X.env = [(false, eval a X.env), (false, eval b X.env)]) (hs2 : starEach [b] X.env = [(false, eval b X.env)]) :
    PI X tg (.Call (.Name "range" p) [a, b] [] pos) (tI X.K J (wRng2 wl)) := by
  refine ⟨fun pins s σ H R I ⟨A, ρ, h, j, rs, r, hw⟩ => (pi_range2 hg hm ha hs hs2).run pins s σ H R I ?_⟩
  refine tA_of jj j rs r ml hw fun x h1 v H1 ⟨i, n, e, b1, q⟩ j1 rs1 m1 r1 rl => ?_
  subst e
  exact ⟨i, n, int2 rl, b1, q _ _ m1 r1 fun _ _ => itr_ok⟩
theorem s_rng3 {p : Pos} (jj : JOk J) (hg : Gl X "range") (hm : X.mg "range" = none) (ha : PA X [a, b, d] (tA X.K J wl)) (ml : MonA wl) (hs : starEach [a, b, d] X.env = (false, eval a X.env) :: starEach [b, d] X.env) (hs2 : (backTo pos (starEach [b, d] X.env)).any (·.1) = false) :
    PI X tg (.Call (.Name "range" p) [a, b, d] [] pos) (tI X.K J (wRng3 wl)) := by
  refine ⟨fun pins s σ H R I ⟨A, ρ, h, j, rs, r, hw⟩ => (pi_range3 hg hm ha hs hs2).run pins s σ H R I ?_⟩
  refine tA_of jj j rs r ml hw fun x h1 v H1 ⟨i, n, c, t, e, b1, q⟩ j1 rs1 m1 r1 rl => ?_
  subst e
  exact ⟨i, n, c, t, int3 rl, b1, q _ _ m1 r1 fun _ _ => itc_ok⟩
end
end Ev

set_option Elab.async false
set_option linter.all false
set_option maxRecDepth 100000
set_option maxHeartbeats 4000000
/-! Ev8: comprehensions, methods of lists, freezing. -/
namespace Ev
open PySem PySem.Spec PyProof.Rows L2
section
variable {X : Cx} {c : Cfg} {G : Ctx} {gl : Str → PV} {k : Nat} {J : Jw} {ex : Env → XV} {a b d elt tg iter : Expr} {es : List Expr} {wa wb wd we : WE} {wt : WT} {wl : WA} {wi : WI} {pos : Pos}

/-! ### comprehensions -/
def wComp (m : Bool) (vs : List Nat) (wi : WI) (t : ST) (wt : WT) (we : WE) : WE := fun ρ h Q => wi ρ h fun it h1 => it.xs.length ≤ sizeLine ∧ ∃ Iv : Nat → List PV → MH → Prop, Iv 0 [] h1 ∧
  (∀ i x acc h2, it.xs[i]? = some x → Iv i acc h2 → it.keep h2 ∧ ∃ ρ2, t.set x (wipeE ρ vs) = some ρ2 ∧ wt ρ2 h2 fun b h3 => if b = true then we ρ2 h3 fun y h4 => Iv (i + 1) (acc ++ [y]) h4 else Iv (i + 1) acc h3) ∧
  ∀ acc h2, Iv it.xs.length acc h2 → it.keep h2 ∧ allocL m acc h2 Q
theorem mono_comp {m : Bool} {vs : List Nat} {t : ST} (mi : MonI wi) : MonE (wComp m vs wi t wt we) := fun ρ h P Q k hw =>
  mi _ _ _ _ (fun it h1 ⟨hz, Iv, a0, a1, a2⟩ => ⟨hz, Iv, a0, a1, fun acc h2 z => ⟨(a2 acc h2 z).1, allocL_mono k (a2 acc h2 z).2⟩⟩) hw
/-- the configuration of a comprehension's block -/
def Cfg.blk (c : Cfg) (scope : Scope) : Cfg := { c with sc := relS scope c.sc, fnb := fun x => scope.names.lookup x == some .cell }
theorem Match.blk (m : Match X c G gl k J ex) (scope : Scope) (hk : scope.kind = .function) (s : Shared) (H : Hp) (C : Addr) (cl : List (Str × Addr)) (fp : List Addr) :
    Match (X.blk s H scope (compEnvC scope cl C X.env) fp) (c.blk scope) G gl k J0 (fun _ => noX) := by
  refine ⟨m.N, m.nd, ?_, rfl, m.calm, .never, m.gd, m.room, takes0.imp ?_, j0, m.fns, m.free, m.cst, hk, m.kws, m.flds, m.prps, m.mks, m.mts, m.kds, m.mk0s⟩
  · show relS scope X.env.scope = relS scope c.sc
    rw [m.sc]
  · rintro _ _ _ _ ⟨_, _, _, _, _, _, _, _, z⟩
    exact z.elim
theorem s_comp {scope : Scope} {own : List (Str × Nat)} {t : ST} {ifs : List Expr} (m : Match X c G gl k J ex) (f : Bool) (hi : PI X tg iter (tI X.K J wi)) (mi : MonI wi) (ok : BlkOk X.N X.env.scope scope own) (sub : ∀ i ∈ t.slots, i ∈ own.map (·.2))
    (hg : ∀ (s : Shared) (H : Hp) (C : Addr) (cl : List (Str × Addr)) (fp : List Addr), PG (X.blk s H scope (compEnvC scope cl C X.env) fp) tg (t.g X.K))
    (ht : ∀ (s : Shared) (H : Hp) (C : Addr) (cl : List (Str × Addr)) (fp : List Addr), PTs (X.blk s H scope (compEnvC scope cl C X.env) fp) ifs (tT X.K J0 wt))
    (he : ∀ (s : Shared) (H : Hp) (C : Addr) (cl : List (Str × Addr)) (fp : List Addr), PE (X.blk s H scope (compEnvC scope cl C X.env) fp) elt (tE X.K J0 we)) (mt : MonT wt) (me : MonE we)
    (hs : ∀ x, foldedSetIterable iter X.env x = pure x) : ∀ {σ : L2.St} {H : Hp} {Q : VK}, tE X.K J (wComp f (own.map (·.2)) wi t wt we) σ H Q → tLc (tI X.K J wi) (t.g X.K) (tT X.K J0 wt) (tE X.K J0 we) (own.map (·.2)) σ H (fzm f Q) := by
  rintro σ H Q ⟨A, ρ, h, j, rs, r, hw⟩
  refine ⟨A, ρ, h, j, rs, r, mi _ _ _ _ (fun it h1 ⟨hz, Iv, a0, a1, a2⟩ It1 H1 m1 r1 io => ?_) hw⟩
  have io := io A fun _ z => z
  intro D hD
  have np : ∀ d, A d → d ≠ D := r1.nothid hD
  -- with the new list out of sight
  have rB0 : Rel X.K (fun d => A d ∨ d = D) (upd H1 D (.lst [])) h1 := by
    have l := r1.laid (o := .lst []) hD
    refine ⟨l.obj, fun d hd => ?_⟩
    rcases hd with hd | rfl
    · exact l.hid d hd
    · exact ⟨r1.free hD, _, upd_same⟩
  refine ⟨fun i n H2 => ∃ acc h2 ws, n = it.xs.length - i ∧ i ≤ it.xs.length ∧ Iv i acc h2 ∧ Mon A H1 H2 ∧ Rel X.K (fun d => A d ∨ d = D) H2 h2 ∧ H2 D = some (.lst ws) ∧ RepL X.K H2 acc ws ∧ acc.length ≤ i,
    ⟨_, [], h1, [], rfl, Nat.zero_le _, a0, r1.mon_new hD, rB0, upd_same, .nil, Nat.le_refl _⟩, ?_⟩
  rintro i n H2 ⟨acc, h2, ws, rfl, hi, iv, m2, r2, hD2, la, hl⟩
  have r2A : Rel X.K A H2 h2 := r2.sub fun d hd => .inl hd
  by_cases hlt : i < it.xs.length
  · obtain ⟨x0, hx0⟩ : ∃ x, it.xs[i]? = some x := ⟨_, List.getElem?_eq_getElem hlt⟩
    obtain ⟨kp, _⟩ := a1 i x0 acc h2 hx0 iv
    refine .inr ⟨io.go i H2 h2 hlt m2 r2A kp, fun H' => ∃ acc h2 ws, Iv (i + 1) acc h2 ∧ Mon A H1 H' ∧ Rel X.K (fun d => A d ∨ d = D) H' h2 ∧ H' D = some (.lst ws) ∧ RepL X.K H' acc ws ∧ acc.length ≤ i + 1,
      fun H' ⟨acc, h2, ws, q⟩ => ⟨it.xs.length - (i + 1), by omega, acc, h2, ws, rfl, hlt, q⟩, fun x H3 yl => ?_⟩
    obtain ⟨p, ep, rp, hH3⟩ := io.yld i H2 h2 x H3 hlt m2 r2A kp yl
    have m23 : Mon (fun d => A d ∨ d = D) H2 H3 := by
      rcases hH3 with rfl | ⟨T, us, hT, rfl⟩
      · exact .refl
      · exact r2.mon_new hT
    have r3 : Rel X.K (fun d => A d ∨ d = D) H3 h2 := by
      rcases hH3 with rfl | ⟨T, us, hT, rfl⟩
      · exact r2
      · exact r2.laid hT
    obtain ⟨_, ρ2, es, q⟩ := a1 i p acc h2 ep iv
    have rs3 : RepSt X.K H3 ρ σ := rs.mon ((m1.trans m2).trans (m23.sub fun d hd => .inl hd))
    refine ST.set_ok t rp (rs3.wipe _) es fun σ2 rs2 hwp => ⟨?_, ?_⟩
    · rw [hwp _ sub]
      have idem : ∀ (vs : List Nat) (σ : L2.St), (∀ i ∈ vs, ∀ v, σ[i]? ≠ some (some v)) → L2.wipe σ vs = σ := by
        intro vs
        induction vs with
        | nil => intro σ _; rfl
        | cons v vs ih =>
          intro σ hv
          unfold L2.wipe
          rw [ih σ fun i hi => hv i (List.mem_cons_of_mem _ hi)]
          apply List.ext_getElem?
          intro n
          rw [List.getElem?_set]
          split
          · rename_i e
            subst e
            split
            · rename_i hlen
              have := hv v List.mem_cons_self
              rw [List.getElem?_eq_getElem hlen] at this ⊢
              cases z : σ[v] with
              | none => rfl
              | some u => exact (this u (by rw [z])).elim
            · rename_i hlen
              exact (List.getElem?_eq_none (by omega)).symm
          · rfl
      refine idem _ _ fun i hi v e => ?_
      exact (wipe_some e).2 hi
    · refine tT_of (J := J0) (A := fun d => A d ∨ d = D) j0 trivial rs2 r3 mt q fun bb h3 H4 qb _ rs4 m4 r4 => ?_
      have la4 : RepL X.K H4 acc ws := (la.mon m23).mon m4
      have hD4 : H4 D = some (.lst ws) := (m4.hid D (.inr rfl)).trans ((m23.hid D (.inr rfl)).trans hD2)
      have mA4 : Mon A H1 H4 := m2.trans ((m23.trans m4).sub fun d hd => .inl hd)
      cases bb with
      | false => exact ⟨acc, h3, ws, qb, mA4, r4, hD4, la4, Nat.le_succ_of_le hl⟩
      | true =>
        refine tE_of (J := J0) (A := fun d => A d ∨ d = D) j0 trivial rs4 r4 me qb fun y h4 v H5 qy _ rs5 m5 r5 rv => ?_
        have hD5 : H5 D = some (.lst ws) := (m5.hid D (.inr rfl)).trans hD4
        have la5 := la4.mon m5
        have mw : Mon A H5 (upd H5 D (.lst (ws ++ [v]))) := Ev.mon_write hD5 (fun _ z => nomatch z) (fun _ _ z => nomatch z) np
        refine ⟨ws, hD5, ?_, acc ++ [y], h4, ws ++ [v], qy, mA4.trans ((m5.sub fun d hd => .inl hd).trans mw), ⟨fun a o e => ?_, fun d hd => ?_⟩, upd_same, (la5.mon mw).append (.cons (rv.mon mw) .nil), ?_⟩
        · rw [← la5.length]; omega
        · have na : a ≠ D := fun z => by
            have := (r5.hid D (.inr rfl)).1
            rw [← z, e] at this; cases this
          exact (r5.obj a o e).mon mw (upd_ne na)
        · obtain ⟨h1', o', h2'⟩ := r5.hid d hd
          refine ⟨h1', ?_⟩
          by_cases hdD : d = D
          · subst hdD; exact ⟨_, upd_same⟩
          · exact ⟨o', by rw [upd_ne hdD]; exact h2'⟩
        · rw [List.length_append, List.length_singleton]; omega
  · have e : i = it.xs.length := by omega
    subst e
    obtain ⟨kp, al⟩ := a2 acc h2 iv
    refine .inl ⟨io.stop H2 h2 m2 r2A kp, ?_⟩
    have hDh := (r2.hid D (.inr rfl)).1
    have eH : upd H2 D (.lst ws) = H2 := by
      funext b
      by_cases hb : b = D
      · subst hb; rw [upd_same, hD2]
      · rw [upd_ne hb]
    have mz : ∀ o, Mon A H2 (upd H2 D (.frz o (.lst ws))) := fun o => Ev.mon_write hD2 (fun _ z => nomatch z) (fun _ _ z => nomatch z) np
    rw [← eH]
    refine alloc_at (H0 := H) (A := A) (h := h2) (xs := acc) (by rw [eH]; exact m1.trans m2) (by rw [eH]; exact r2A) hDh np (fun o => (m1.trans m2).trans (mz o)) (by rw [eH]; exact la) (fun o => la.mon (mz o)) (fun o => ?_) al
    refine ⟨fun a u e => ?_, fun d hd => ?_⟩
    · have na : a ≠ D := fun z => by rw [z, hDh] at e; cases e
      exact (r2A.obj a u e).mon (mz o) (upd_ne na)
    · obtain ⟨h1', o', h2'⟩ := r2A.hid d hd
      exact ⟨h1', o', by rw [upd_ne (np d hd)]; exact h2'⟩

/-! ### methods of lists -/
inductive Me where
  | append | pop | extend
  deriving DecidableEq
def Me.name : Me → Str
  | .append => "append" | .pop => "pop" | .extend => "extend"
def meOp (mt : Me) (x : PV) (as : List PV) (h : MH) (Q : PK) : Prop := match mt, x, as with
  | .append, .ref p, [y] => ∃ xs, h p = some (.lst xs) ∧ xs.length < sizeLine ∧ Q .non (mupd h p (.lst (xs ++ [y])))
  | .pop, .ref p, [] => ∃ xs y, h p = some (.lst xs) ∧ xs[xs.length - 1]? = some y ∧ Q y (mupd h p (.lst xs.dropLast))
  | .extend, .ref p, [y] => ∃ xs q ys, h p = some (.lst xs) ∧ y = .ref q ∧ h q = some (.lst ys) ∧ xs.length + ys.length ≤ sizeLine ∧ Q .non (mupd h p (.lst (xs ++ ys)))
  | _, _, _ => False
theorem mono_me (mt : Me) (x : PV) (as : List PV) (h : MH) (P Q : PK) (k : ∀ x h, P x h → Q x h) : meOp mt x as h P → meOp mt x as h Q := by
  unfold meOp
  split
  · exact fun ⟨xs, e, z, q⟩ => ⟨xs, e, z, k _ _ q⟩
  · exact fun ⟨xs, y, e, z, q⟩ => ⟨xs, y, e, z, k _ _ q⟩
  · exact fun ⟨xs, p, ys, e, e2, e3, z, q⟩ => ⟨xs, p, ys, e, e2, e3, z, k _ _ q⟩
  · exact id
def isRefL (h : MH) : PV → Prop
  | .ref p => ∃ xs, h p = some (.lst xs)
  | _ => False
def wMe (mt : Me) (wa : WE) (wl : WA) : WE := fun ρ h Q => wa ρ h fun x h1 => isRefL h1 x ∧ wl ρ h1 fun as h2 => meOp mt x as h2 Q
theorem mono_wMe {mt : Me} (ma : MonE wa) (ml : MonA wl) : MonE (wMe mt wa wl) := fun ρ h P Q k hw => ma _ _ _ _ (fun x h1 ⟨e, z⟩ => ⟨e, ml _ _ _ _ (fun as h2 z2 => mono_me mt _ _ _ _ _ k z2) z⟩) hw
/-- a method's rule, by values, from ours -/
def lMe (K : Frag) (mt : Me) : V → List V → Hp → VK → Prop := fun x vs H Q => ∃ A a as h, Rel K A H h ∧ RepV K H a x ∧ RepL K H as vs ∧ meOp mt a as h (up K A H Q)
theorem ok_append : MtR X "list.append" (lMe X.K .append) := by
  rintro pins s σ H x vs v us Q I rx rvs ⟨A, a, as, h, r, ra, l, q⟩
  unfold meOp at q
  split at q
  · obtain ⟨w, rfl, rw'⟩ := repL1 l
    cases ra
    obtain ⟨xs, e, hz, q⟩ := q
    obtain ⟨ws, eH, lx⟩ := r.obj _ _ e
    have mw := r.mon_write (o := .lst (ws ++ [w])) e
    exact mt_append pins s σ H _ _ v us Q I rx rvs ⟨_, ws, w, rfl, rfl, eH, by rw [← lx.length]; exact hz, q .non _ mw (r.write e ⟨_, upd_same, (lx.mon mw).append (.cons (rw'.mon mw) .nil)⟩) .non⟩
  · rename_i h1; exact absurd h1 (by decide)
  · rename_i h1; exact absurd h1 (by decide)
  · exact q.elim
theorem RepL.last {K : Frag} {H : Hp} {xs : List PV} {ws : List V} {y : PV} (l : RepL K H xs ws) (e : xs[xs.length - 1]? = some y) : ∃ w, ws[ws.length - 1]? = some w ∧ RepV K H y w := by
  rw [l.length] at e
  exact l.get e
theorem ok_pop : MtR X "list.pop" (lMe X.K .pop) := by
  rintro pins s σ H x vs v us Q I rx rvs ⟨A, a, as, h, r, ra, l, q⟩
  unfold meOp at q
  split at q
  · rename_i h1; exact absurd h1 (by decide)
  · cases l
    cases ra
    obtain ⟨xs, y, e, ey, q⟩ := q
    obtain ⟨ws, eH, lx⟩ := r.obj _ _ e
    obtain ⟨w, ew, rw'⟩ := lx.last ey
    have mw := r.mon_write (o := .lst ws.dropLast) e
    exact mt_pop pins s σ H _ _ v us Q I rx rvs ⟨_, ws, w, rfl, rfl, eH, ew, q w _ mw (r.write e ⟨_, upd_same, (lx.mon mw).dropLast⟩) (rw'.mon mw)⟩
  · rename_i h1; exact absurd h1 (by decide)
  · exact q.elim
theorem ok_extend : MtR X "list.extend" (lMe X.K .extend) := by
  rintro pins s σ H x vs v us Q I rx rvs ⟨A, a, as, h, r, ra, l, q⟩
  unfold meOp at q
  split at q
  · rename_i h1; exact absurd h1 (by decide)
  · rename_i h1; exact absurd h1 (by decide)
  · obtain ⟨w, rfl, rw'⟩ := repL1 l
    cases ra
    obtain ⟨xs, b, ys, e, rfl, e2, hz, q⟩ := q
    cases rw'
    obtain ⟨ws, eH, lx⟩ := r.obj _ _ e
    obtain ⟨zs, eH2, ly⟩ := r.obj _ _ e2
    have mw := r.mon_write (o := .lst (ws ++ zs)) e
    exact mt_extend pins s σ H _ _ v us Q I rx rvs ⟨_, b, ws, zs, rfl, rfl, eH, eH2, by rw [← lx.length, ← ly.length]; exact hz, q .non _ mw (r.write e ⟨_, upd_same, (lx.mon mw).append (ly.mon mw)⟩) .non⟩
  · exact q.elim
theorem isRefL_ty {K : Frag} {A : Addr → Prop} {H : Hp} {h : MH} {x : PV} {v : V} (r : Rel K A H h) (rv : RepV K H x v) (e : isRefL h x) : tyV K "list" v H := by
  cases rv with
  | ref p =>
    obtain ⟨xs, e⟩ := e
    obtain ⟨ws, eH, _⟩ := r.obj _ _ e
    exact .inl ⟨rfl, ws, .of eH⟩
  | _ => exact (show False from e).elim
theorem t_me {mt : Me} (jj : JOk J) (ma : MonE wa) (ml : MonA wl) : ∀ {σ : L2.St} {H : Hp} {Q : VK}, tE X.K J (wMe mt wa wl) σ H Q → tBM X.K "list" (lMe X.K mt) (tE X.K J wa) (tA X.K J wl) σ H Q := by
  rintro σ H Q ⟨A, ρ, h, j, rs, r, hw⟩
  refine tE_of jj j rs r ma hw fun x h1 v H1 ⟨e, p⟩ j1 rs1 m1 r1 rv => ⟨isRefL_ty r1 rv e, ?_⟩
  refine tA_of jj j1 rs1 r1 ml p fun as h2 vs H2 q j2 rs2 m2 r2 rl => ?_
  exact ⟨A, x, as, h2, r2, rv.mon m2, rl, mono_me mt _ _ _ _ _ (fun z h3 u => up.trans (m1.trans m2) u) q⟩
theorem s_append {apos : Pos} (jj : JOk J) (ha : PE X a (tE X.K J wa)) (hl : PA X [b] (tA X.K J wl)) (ma : MonE wa) (ml : MonA wl) (hbase : attributeBase a "append" X.env (eval a X.env) = eval a X.env)
    (hfew : ((backTo pos (starEach [b] X.env)).all (fun x => !x.1) && (backToKw pos (keywordEach [] X.env)).all (fun x => x.1.isSome) && decide ([b].length + ([] : List Keyword).length + (if ([] : List Keyword).isEmpty then 0 else 1) < 30)) = true)
    (hline : (apos.endLine == pos.line) = true) (hs : starEach [b] X.env = (false, eval b X.env) :: starEach [] X.env) : PE X (.Call (.Attribute a "append" apos) [b] [] pos) (tE X.K J (wMe .append wa wl)) :=
  ⟨fun pins s σ H Q I hw => (pe_bm PySem.F.plainAttrs_list PySem.F.slot_list_append PySem.F.type_list_append ok_append ha hl hbase hfew hline hs rfl).run pins s σ H Q I (t_me jj ma ml hw)⟩
theorem s_extend {apos : Pos} (jj : JOk J) (ha : PE X a (tE X.K J wa)) (hl : PA X [b] (tA X.K J wl)) (ma : MonE wa) (ml : MonA wl) (hbase : attributeBase a "extend" X.env (eval a X.env) = eval a X.env)
    (hfew : ((backTo pos (starEach [b] X.env)).all (fun x => !x.1) && (backToKw pos (keywordEach [] X.env)).all (fun x => x.1.isSome) && decide ([b].length + ([] : List Keyword).length + (if ([] : List Keyword).isEmpty then 0 else 1) < 30)) = true)
    (hline : (apos.endLine == pos.line) = true) (hs : starEach [b] X.env = (false, eval b X.env) :: starEach [] X.env) : PE X (.Call (.Attribute a "extend" apos) [b] [] pos) (tE X.K J (wMe .extend wa wl)) :=
  ⟨fun pins s σ H Q I hw => (pe_bm PySem.F.plainAttrs_list PySem.F.slot_list_extend PySem.F.type_list_extend ok_extend ha hl hbase hfew hline hs rfl).run pins s σ H Q I (t_me jj ma ml hw)⟩
def wMe0 (mt : Me) (wa : WE) : WE := fun ρ h Q => wa ρ h fun x h1 => isRefL h1 x ∧ meOp mt x [] h1 Q
theorem mono_wMe0 {mt : Me} (ma : MonE wa) : MonE (wMe0 mt wa) := fun ρ h P Q k hw => ma _ _ _ _ (fun x h1 ⟨e, z⟩ => ⟨e, mono_me mt _ _ _ _ _ k z⟩) hw
theorem s_pop {apos : Pos} (jj : JOk J) (ha : PE X a (tE X.K J wa)) (ma : MonE wa) (hbase : attributeBase a "pop" X.env (eval a X.env) = eval a X.env)
    (hline : (apos.endLine == pos.line) = true) : PE X (.Call (.Attribute a "pop" apos) [] [] pos) (tE X.K J (wMe0 .pop wa)) := by
  refine ⟨fun pins s σ H Q I ⟨A, ρ, h, j, rs, r, hw⟩ => (pe_bm0 PySem.F.plainAttrs_list PySem.F.slot_list_pop PySem.F.type_list_pop ok_pop ha hbase hline).run pins s σ H Q I ?_⟩
  refine tE_of jj j rs r ma hw fun x h1 v H1 ⟨e, p⟩ j1 rs1 m1 r1 rv => ⟨isRefL_ty r1 rv e, ?_⟩
  exact ⟨A, x, [], h1, r1, rv, .nil, mono_me .pop _ _ _ _ _ (fun z h3 u => up.trans m1 u) p⟩

/-! ### a list that nobody changes any more -/
def mdel (h : MH) (p : Addr) : MH := fun b => if b = p then none else h b
def wFrz (wa : WE) : WE := fun ρ h Q => wa ρ h fun x h1 => ∃ p xs, x = .ref p ∧ h1 p = some (.lst xs) ∧ Q (.lst xs) (mdel h1 p)
theorem mono_frz (ma : MonE wa) : MonE (wFrz wa) := fun ρ h P Q k hw => ma _ _ _ _ (fun x h1 ⟨p, xs, e, e2, q⟩ => ⟨p, xs, e, e2, k _ _ q⟩) hw
theorem s_frz (jj : JOk J) (ha : PE X a (tE X.K J wa)) (ma : MonE wa) : PE X a (tE X.K J (wFrz wa)) := by
  refine ⟨fun pins s σ H Q I ⟨A, ρ, h, j, rs, r, hw⟩ => (pe_fz ha).run pins s σ H Q I ?_⟩
  refine tE_of jj j rs r ma hw fun x h1 v H1 ⟨p, xs, e, e2, q⟩ j1 rs1 m1 r1 rv => ?_
  subst e
  cases rv
  obtain ⟨ws, eH, l⟩ := r1.obj _ _ e2
  refine ⟨p, ws, rfl, eH, fun o => ?_⟩
  have mw := r1.mon_write (o := .frz o (.lst ws)) e2
  refine q _ _ (m1.trans mw) ⟨fun b u eb => ?_, fun d hd => ?_⟩ (.lst ⟨o, upd_same⟩ (l.mon mw))
  · unfold mdel at eb
    split at eb
    · cases eb
    · rename_i hb
      exact (r1.obj b u eb).mon mw (upd_ne hb)
  · have nd := r1.seen e2 d hd
    obtain ⟨z1, o1, z2⟩ := r1.hid d hd
    refine ⟨by unfold mdel; rw [if_neg nd]; exact z1, o1, by rw [upd_ne nd]; exact z2⟩
end
end Ev

set_option Elab.async false
set_option linter.all false
set_option maxRecDepth 100000
set_option maxHeartbeats 4000000
/-! Ev9: statements. -/
namespace Ev
open PySem PySem.Spec PyProof.Rows L2

abbrev EK := Env → MH → Prop
structure PEnds where
  nx : EK
  rt : PK
  bk : EK
  ct : EK
abbrev WS := Env → MH → PEnds → Prop
structure PEnds.Le (D D' : PEnds) : Prop where
  nx : ∀ ρ h, D.nx ρ h → D'.nx ρ h
  rt : ∀ x h, D.rt x h → D'.rt x h
  bk : ∀ ρ h, D.bk ρ h → D'.bk ρ h
  ct : ∀ ρ h, D.ct ρ h → D'.ct ρ h
theorem PEnds.Le.refl {D : PEnds} : PEnds.Le D D := ⟨fun _ _ z => z, fun _ _ z => z, fun _ _ z => z, fun _ _ z => z⟩
def MonS (w : WS) : Prop := ∀ ρ h (D D' : PEnds), D.Le D' → w ρ h D → w ρ h D'
theorem MonS.go {w : WS} (m : MonS w) {ρ : Env} {h : MH} {D D' : PEnds} (z : w ρ h D) (l : D.Le D') : w ρ h D' := m ρ h D D' l z
def upK (K : Frag) (A : Addr → Prop) (H : Hp) (Q : L2.St → Hp → Prop) : EK := fun ρ h' => ∀ σ' H', Mon A H H' → RepSt K H' ρ σ' → Rel K A H' h' → Q σ' H'
def upD (K : Frag) (A : Addr → Prop) (H : Hp) (D : Ends) : PEnds := ⟨upK K A H D.nx, up K A H D.rt, upK K A H D.bk, upK K A H D.ct⟩
def tS (K : Frag) (J : Jw) (w : WS) : TS := fun D σ H => ∃ A ρ h, J A H ∧ RepSt K H ρ σ ∧ Rel K A H h ∧ w ρ h (upD K A H D)
section
variable {K : Frag} {A : Addr → Prop} {H H1 : Hp} {h : MH} {ρ : Env} {σ : L2.St} {J : Jw}
theorem upK.trans {Q : L2.St → Hp → Prop} {x : Env} {h' : MH} (m : Mon A H H1) (u : upK K A H Q x h') : upK K A H1 Q x h' := fun σ' H' m' rs r => u σ' H' (m.trans m') rs r
theorem upD.le {D : Ends} (m : Mon A H H1) : (upD K A H D).Le (upD K A H1 D) := ⟨fun _ _ z => upK.trans m z, fun _ _ z => up.trans m z, fun _ _ z => upK.trans m z, fun _ _ z => upK.trans m z⟩
/-- on with a statement later -/
theorem tS_on {w : WS} {D : Ends} (m : Mon A H H1) (mw : MonS w) (j : J A H1) (rs : RepSt K H1 ρ σ) (r : Rel K A H1 h) (hw : w ρ h (upD K A H D)) : tS K J w D σ H1 := ⟨A, ρ, h, j, rs, r, mw _ _ _ _ (upD.le m) hw⟩
end
section
variable {X : Cx} {c : Cfg} {G : Ctx} {gl : Str → PV} {k : Nat} {J : Jw} {ex : Env → XV} {a b d tg iter e : Expr} {es : List Expr} {st : Stmt} {sts body orelse : List Stmt} {wa wb wd we : WE} {wt : WT} {wl : WA} {wi : WI} {w1 w2 : WS} {pos pos' : Pos}

/-! ### blocks -/
def wNx : WS := fun ρ h D => D.nx ρ h
def wSq (w1 w2 : WS) : WS := fun ρ h D => w1 ρ h { D with nx := fun ρ1 h1 => w2 ρ1 h1 D }
theorem mono_nx : MonS wNx := fun ρ h D D' l z => l.nx _ _ z
theorem mono_sq (m1 : MonS w1) (m2 : MonS w2) : MonS (wSq w1 w2) := fun ρ h D D' l z => MonS.go (w := w1) m1 z ⟨fun ρ1 h1 z1 => MonS.go (w := w2) m2 z1 l, l.rt, l.bk, l.ct⟩
theorem b_nil : PSs X [] (tS X.K J wNx) := ⟨fun pins s σ H D I ⟨A, ρ, h, j, rs, r, q⟩ => pss_nil.run pins s σ H D I (q σ H .refl rs r)⟩
theorem b_cons (jj : JOk J) (h1 : PSs X [st] (tS X.K J w1)) (h2 : PSs X sts (tS X.K J w2)) (m1 : MonS w1) (m2 : MonS w2) (hs : PS X st (tS X.K J w1)) : PSs X (st :: sts) (tS X.K J (wSq w1 w2)) := by
  refine ⟨fun pins s σ H D I ⟨A, ρ, h, j, rs, r, hw⟩ => (pss_cons hs h2).run pins s σ H D I ?_⟩
  refine ⟨A, ρ, h, j, rs, r, MonS.go (w := w1) m1 hw ⟨fun ρ1 h1 z σ1 H1 mo rs1 r1 => ?_, fun _ _ z => z, fun _ _ z => z, fun _ _ z => z⟩⟩
  exact tS_on (w := w2) mo m2 (jj.mon j mo) rs1 r1 z
theorem b_cons' (jj : JOk J) (hs : PS X st (tS X.K J w1)) (h2 : PSs X sts (tS X.K J w2)) (m1 : MonS w1) (m2 : MonS w2) : PSs X (st :: sts) (tS X.K J (wSq w1 w2)) := b_cons jj (pss_one hs) h2 m1 m2 hs

/-! ### small statements -/
def wBk : WS := fun ρ h D => D.bk ρ h
def wCt : WS := fun ρ h D => D.ct ρ h
theorem mono_bk : MonS wBk := fun ρ h D D' l z => l.bk _ _ z
theorem mono_ct : MonS wCt := fun ρ h D D' l z => l.ct _ _ z
theorem s_pass : PS X (.Pass pos) (tS X.K J wNx) := ⟨fun pins s σ H D I ⟨A, ρ, h, j, rs, r, q⟩ => ps_pass.run pins s σ H D I (q σ H .refl rs r)⟩
theorem s_break : PS X (.Break pos) (tS X.K J wBk) := ⟨fun pins s σ H D I ⟨A, ρ, h, j, rs, r, q⟩ => ps_break.run pins s σ H D I (q σ H .refl rs r)⟩
theorem s_continue : PS X (.Continue pos) (tS X.K J wCt) := ⟨fun pins s σ H D I ⟨A, ρ, h, j, rs, r, q⟩ => ps_continue.run pins s σ H D I (q σ H .refl rs r)⟩
def wExpr (wa : WE) : WS := fun ρ h D => wa ρ h fun _ h1 => D.nx ρ h1
theorem mono_expr (ma : MonE wa) : MonS (wExpr wa) := fun ρ h D D' l z => ma _ _ _ _ (fun x h1 z => l.nx _ _ z) z
theorem s_expr (jj : JOk J) (ha : PE X a (tE X.K J wa)) (ma : MonE wa) (hs : swapsWith a none pos.line X.env = pure false) : PS X (.Expr a pos) (tS X.K J (wExpr wa)) := by
  refine ⟨fun pins s σ H D I ⟨A, ρ, h, j, rs, r, hw⟩ => (ps_expr ha hs).run pins s σ H D I ?_⟩
  exact tE_of jj j rs r ma hw fun x h1 v H1 p j1 rs1 m1 r1 rv => p _ _ m1 rs1 r1
/-- a return may forget objects -/
def wRet (wa : WE) : WS := fun ρ h D => wa ρ h fun x h1 => ∃ h2, (∀ a o, h2 a = some o → h1 a = some o) ∧ D.rt x h2
theorem mono_ret (ma : MonE wa) : MonS (wRet wa) := fun ρ h D D' l z => ma _ _ _ _ (fun x h1 ⟨h2, s, z⟩ => ⟨h2, s, l.rt _ _ z⟩) z
theorem s_ret (jj : JOk J) (ha : PE X a (tE X.K J wa)) (ma : MonE wa) : PS X (.Return (some a) pos) (tS X.K J (wRet wa)) := by
  refine ⟨fun pins s σ H D I ⟨A, ρ, h, j, rs, r, hw⟩ => (ps_ret ha).run pins s σ H D I ?_⟩
  exact tE_of jj j rs r ma hw fun x h1 v H1 ⟨h2, s, p⟩ j1 rs1 m1 r1 rv => p _ _ m1 (r1.less s) rv
def wIf (wt : WT) (w1 w2 : WS) : WS := fun ρ h D => wt ρ h fun b h1 => if b = true then w1 ρ h1 D else w2 ρ h1 D
theorem mono_if (mt : MonT wt) (m1 : MonS w1) (m2 : MonS w2) : MonS (wIf wt w1 w2) := fun ρ h D D' l z => mt _ _ _ _ (fun b h1 z => by
  cases b with
  | true => exact m1 _ _ _ _ l z
  | false => exact m2 _ _ _ _ l z) z
theorem s_if (jj : JOk J) (ht : PT X a (tT X.K J wt)) (h1 : PSs X body (tS X.K J w1)) (h2 : PSs X orelse (tS X.K J w2)) (mt : MonT wt) (m1 : MonS w1) (m2 : MonS w2) : PS X (.If a body orelse pos) (tS X.K J (wIf wt w1 w2)) := by
  refine ⟨fun pins s σ H D I ⟨A, ρ, h, j, rs, r, hw⟩ => (ps_if ht h1 h2).run pins s σ H D I ?_⟩
  refine tT_of jj j rs r mt hw fun x h1 H1 p j1 rs1 mo r1 => ?_
  cases x with
  | true => exact tS_on mo m1 j1 rs1 r1 p
  | false => exact tS_on mo m2 j1 rs1 r1 p

/-! ### assignments -/
/-- name = value -/
def wSet (i : Nat) (wa : WE) : WS := fun ρ h D => wa ρ h fun x h1 => D.nx (ρ.set i (some x)) h1
theorem mono_set {i : Nat} (ma : MonE wa) : MonS (wSet i wa) := fun ρ h D D' l z => ma _ _ _ _ (fun x h1 z => l.nx _ _ z) z
theorem t_set {i : Nat} (jj : JOk J) (ma : MonE wa) : ∀ {D : Ends} {σ : L2.St} {H : Hp}, tS X.K J (wSet i wa) D σ H → tAsg (tE X.K J wa) (gName i) D σ H := fun ⟨A, ρ, h, j, rs, r, hw⟩ =>
  tE_of jj j rs r ma hw fun x h1 v H1 p j1 rs1 m1 r1 rv => p _ _ m1 (rs1.set i rv) r1
theorem s_set {i : Nat} {x : Str} (m : Match X c G gl k J ex) (hi : X.N[i]? = some x) (hx : Loc X.env.scope x) (ha : PE X a (tE X.K J wa)) (ma : MonE wa) (hs : swapsWith a (some (.Name x pos')) pos.line X.env = pure false) (hf : X.fn x = true ∨ X.env.scope.names.lookup x = some .local) :
    PS X (.Assign [.Name x pos'] a pos) (tS X.K J (wSet i wa)) :=
  ⟨fun pins s σ H D I hw => (ps_set (m.N ▸ m.nd) hi hx ha hs hf).run pins s σ H D I (t_set m.jj ma hw)⟩
/-- target of names = value -/
def wUnp (t : ST) (wa : WE) : WS := fun ρ h D => wa ρ h fun x h1 => ∃ ρ2, t.set x ρ = some ρ2 ∧ D.nx ρ2 h1
theorem mono_unp {t : ST} (ma : MonE wa) : MonS (wUnp t wa) := fun ρ h D D' l z => ma _ _ _ _ (fun x h1 ⟨ρ2, e, z⟩ => ⟨ρ2, e, l.nx _ _ z⟩) z
theorem s_unp {t : ST} (jj : JOk J) (ha : PE X a (tE X.K J wa)) (ma : MonE wa) (hg : PG X tg (t.g X.K)) (hs : swapsWithSole [tg] a pos.line X.env = pure false) (hw : swappedStores [tg] a X.env = pure none)
    (h1 : (assignEach [tg] X.env).map (·.2) = [assign tg X.env]) : PS X (.Assign [tg] a pos) (tS X.K J (wUnp t wa)) := by
  refine ⟨fun pins s σ H D I ⟨A, ρ, h, j, rs, r, hw'⟩ => (ps_asg ha hg hs hw h1).run pins s σ H D I ?_⟩
  exact tE_of jj j rs r ma hw' fun x h1 v H1 ⟨ρ2, e, p⟩ j1 rs1 m1 r1 rv => ST.set_ok t rv rs1 e fun σ' rs' _ => p _ _ m1 rs' r1
/-- a, b = x, y: plain locals -/
def wPar (i j : Nat) (wl : WA) : WS := fun ρ h D => wl ρ h fun xs h1 => ∃ x y, xs = [x, y] ∧ D.nx ((ρ.set i (some x)).set j (some y)) h1
theorem mono_par {i j : Nat} (ml : MonA wl) : MonS (wPar i j wl) := fun ρ h D D' l z => ml _ _ _ _ (fun xs h1 ⟨x, y, e, z⟩ => ⟨x, y, e, l.nx _ _ z⟩) z
theorem s_par {i j : Nat} {x y : Str} {px py pt pt2 : Pos} {kt k2 : Nat} (m : Match X c G gl k J ex) (hi : X.N[i]? = some x) (hj : X.N[j]? = some y) (hij : i ≠ j) (hx : X.env.scope.names.lookup x = some .local) (hy : X.env.scope.names.lookup y = some .local)
    (ha : PA X [a, b] (tA X.K J wl)) (ml : MonA wl) (hw : swappedStores [.Tuple [.Name x px, .Name y py] kt pt] (.Tuple [a, b] k2 pt2) X.env = pure (some [x, y])) (hs : swapsWithSole [.Tuple [.Name x px, .Name y py] kt pt] (.Tuple [a, b] k2 pt2) pos.line X.env = pure false) :
    PS X (.Assign [.Tuple [.Name x px, .Name y py] kt pt] (.Tuple [a, b] k2 pt2) pos) (tS X.K J (wPar i j wl)) := by
  refine ⟨fun pins s σ H D I ⟨A, ρ, h, jw, rs, r, hw'⟩ => (ps_par m.calm (m.N ▸ m.nd) hi hj hij hx hy ha hw hs).run pins s σ H D I ?_⟩
  refine tA_of m.jj jw rs r ml hw' fun xs h1 vs H1 ⟨z, u, e, p⟩ j1 rs1 m1 r1 rl => ?_
  subst e
  obtain ⟨v, w, rfl, rz, ru⟩ := repL2 rl
  exact ⟨v, w, rfl, p _ _ m1 ((rs1.set i rz).set j ru) r1⟩
/-- o[i] = value -/
def setOp (o i v : PV) (h : MH) (Q : MH → Prop) : Prop := match o, i with
  | .ref p, .int n => ∃ xs j, h p = some (.lst xs) ∧ ixN xs.length n = some j ∧ Q (mupd h p (.lst (xs.set j v)))
  | _, _ => False
theorem mono_setOp {o i v : PV} {h : MH} {P Q : MH → Prop} (k : ∀ h, P h → Q h) : setOp o i v h P → setOp o i v h Q := by
  unfold setOp
  split
  · exact fun ⟨xs, j, e, e2, q⟩ => ⟨xs, j, e, e2, k _ q⟩
  · exact id
def lSet (K : Frag) : L2.TSet := fun o i v H Q => ∃ A po pi pv h, Rel K A H h ∧ RepV K H po o ∧ RepV K H pi i ∧ RepV K H pv v ∧ setOp po pi pv h fun h' => ∀ H', Mon A H H' → Rel K A H' h' → Q H'
theorem ok_set : PSet X (lSet X.K) := by
  rintro pins s σ H o i v ov iv u Q I ro ri rv ⟨A, po, pi, pv, h, r, eo, ei, ev, q⟩
  unfold setOp at q
  split at q
  · cases eo; cases ei
    obtain ⟨xs, j, e, e2, q⟩ := q
    obtain ⟨ws, eH, lx⟩ := r.obj _ _ e
    have mw := r.mon_write (o := .lst (ws.set j v)) e
    exact set_list pins s σ H _ _ v ov iv u Q I ro ri rv ⟨_, ws, _, j, rfl, rfl, eH, by rw [← lx.length]; exact e2, q _ mw (r.write e ⟨_, upd_same, (lx.mon mw).set (ev.mon mw) j⟩)⟩
  · exact q.elim
def wSub (wo wi wv : WE) : WS := fun ρ h D => wv ρ h fun v h1 => wo ρ h1 fun o h2 => wi ρ h2 fun i h3 => setOp o i v h3 fun h4 => D.nx ρ h4
theorem mono_wSub {wo wi wv : WE} (mo : MonE wo) (mi : MonE wi) (mv : MonE wv) : MonS (wSub wo wi wv) := fun ρ h D D' l z =>
  mv _ _ _ _ (fun v h1 z => mo _ _ _ _ (fun o h2 z => mi _ _ _ _ (fun i h3 z => mono_setOp (fun h4 z => l.nx _ _ z) z) z) z) z
theorem s_sub {wo wi wv : WE} (jj : JOk J) (ho : PE X a (tE X.K J wo)) (hi : PE X b (tE X.K J wi)) (hv : PE X d (tE X.K J wv)) (mo : MonE wo) (mi : MonE wi) (mv : MonE wv)
    (hs : swapsWithSole [.Subscript a b pos'] d pos.line X.env = pure false) (hw : swappedStores [.Subscript a b pos'] d X.env = pure none) (h1 : (assignEach [.Subscript a b pos'] X.env).map (·.2) = [assign (.Subscript a b pos') X.env])
    (hset : ∀ v, assign (.Subscript a b pos') X.env v = (do
      let ov ← holding [v] (eval a X.env)
      let iv ← holding [v, ov] (eval b X.env)
      standAt pos'
      holding [v, ov, iv] (setItem ov iv v)
      release [v, ov, iv] [])) : PS X (.Assign [.Subscript a b pos'] d pos) (tS X.K J (wSub wo wi wv)) := by
  refine ⟨fun pins s σ H D I ⟨A, ρ, h, j, rs, r, hw'⟩ => (ps_asg hv (pg_sub ho hi ok_set hset) hs hw h1).run pins s σ H D I ?_⟩
  refine tE_of jj j rs r mv hw' fun v h1 vv H1 p j1 rs1 m1 r1 rv => ?_
  refine tE_of jj j1 rs1 r1 mo p fun o h2 ov H2 p2 j2 rs2 m2 r2 ro => ?_
  refine tE_of jj j2 rs2 r2 mi p2 fun i h3 iv H3 p3 j3 rs3 m3 r3 ri => ?_
  exact ⟨A, o, i, v, h3, r3, ro.mon m3, ri, rv.mon (m2.trans m3), mono_setOp (fun h4 z H4 m4 r4 => z _ _ (m1.trans (m2.trans (m3.trans m4))) (rs3.mon m4) r4) p3⟩

/-! ### while, for -/
def wWhile (wt : WT) (wb : WS) : WS := fun ρ h D => ∃ Iv : Nat → Env → MH → Prop, (∃ n, Iv n ρ h) ∧ ∀ n ρ h, Iv n ρ h → wt ρ h fun b h1 => if b = true then wb ρ h1 ⟨fun ρ2 h2 => ∃ n', n' < n ∧ Iv n' ρ2 h2, D.rt, D.nx, fun ρ2 h2 => ∃ n', n' < n ∧ Iv n' ρ2 h2⟩ else D.nx ρ h1
theorem mono_while {wb : WS} (mt : MonT wt) (mb : MonS wb) : MonS (wWhile wt wb) := fun ρ h D D' l ⟨Iv, h0, step⟩ => ⟨Iv, h0, fun n ρ h iv => mt _ _ _ _ (fun b h1 z => by
  cases b with
  | true => exact MonS.go mb z ⟨fun _ _ z => z, l.rt, l.nx, fun _ _ z => z⟩
  | false => exact l.nx _ _ z) (step n ρ h iv)⟩
theorem s_while {wb : WS} (m : Match X c G gl k J ex) (ht : PT X a (tT X.K J wt)) (hb : PSs X body (tS X.K J wb)) (mt : MonT wt) (mb : MonS wb) : PS X (.While a body [] pos) (tS X.K J (wWhile wt wb)) := by
  refine ⟨fun pins s σ H D I ⟨A, ρ, h, j, rs, r, Iv, ⟨n0, i0⟩, step⟩ => (ps_while m.po ht hb).run pins s σ H D I ?_⟩
  refine ⟨fun n σ1 H1 => ∃ ρ1 h1, Mon A H H1 ∧ RepSt X.K H1 ρ1 σ1 ∧ Rel X.K A H1 h1 ∧ Iv n ρ1 h1, ⟨n0, ρ, h, .refl, rs, r, i0⟩, ?_⟩
  rintro n σ1 H1 ⟨ρ1, h1, m1, rs1, r1, iv⟩
  refine tT_of m.jj (m.jj.mon j m1) rs1 r1 mt (step n ρ1 h1 iv) fun bb h2 H2 p j2 rs2 m2 r2 => ?_
  cases bb with
  | false => exact p _ _ (m1.trans m2) rs2 r2
  | true =>
    refine ⟨fun σ3 H3 => ∃ n', n' < n ∧ ∃ ρ3 h3, Mon A H H3 ∧ RepSt X.K H3 ρ3 σ3 ∧ Rel X.K A H3 h3 ∧ Iv n' ρ3 h3, fun σ3 H3 ⟨n', hn, z⟩ => ⟨n', hn, z⟩, ?_⟩
    have m12 := m1.trans m2
    exact ⟨A, ρ1, h2, j2, rs2, r2, MonS.go mb p ⟨fun ρ3 h3 ⟨n', hn, iv'⟩ σ3 H3 mo rs3 r3 => ⟨n', hn, ρ3, h3, m12.trans mo, rs3, r3, iv'⟩, fun _ _ z => up.trans m12 z, fun _ _ z => upK.trans m12 z,
      fun ρ3 h3 ⟨n', hn, iv'⟩ σ3 H3 mo rs3 r3 => ⟨n', hn, ρ3, h3, m12.trans mo, rs3, r3, iv'⟩⟩⟩
def wFor (wi : WI) (t : ST) (wb : WS) : WS := fun ρ h D => wi ρ h fun it h1 => ∃ Iv : Nat → Env → MH → Prop, Iv 0 ρ h1 ∧
  (∀ i x ρ h2, it.xs[i]? = some x → Iv i ρ h2 → it.keep h2 ∧ ∃ ρ2, t.set x ρ = some ρ2 ∧ wb ρ2 h2 ⟨Iv (i + 1), D.rt, D.nx, Iv (i + 1)⟩) ∧ ∀ ρ h2, Iv it.xs.length ρ h2 → it.keep h2 ∧ D.nx ρ h2
theorem mono_for {t : ST} {wb : WS} (mi : MonI wi) (mb : MonS wb) : MonS (wFor wi t wb) := fun ρ h D D' l hw => mi _ _ _ _ (fun it h1 ⟨Iv, a0, a1, a2⟩ => ⟨Iv, a0, fun i x ρ h2 e iv =>
  let ⟨kp, ρ2, es, z⟩ := a1 i x ρ h2 e iv
  ⟨kp, ρ2, es, MonS.go mb z ⟨fun _ _ z => z, l.rt, l.nx, fun _ _ z => z⟩⟩, fun ρ h2 iv => ⟨(a2 ρ h2 iv).1, l.nx _ _ (a2 ρ h2 iv).2⟩⟩) hw
theorem s_for {t : ST} {wb : WS} (m : Match X c G gl k J ex) (hi : PI X tg iter (tI X.K J wi)) (mi : MonI wi) (hg : PG X tg (t.g X.K)) (hb : PSs X body (tS X.K J wb)) (mb : MonS wb) (hs : ∀ x, foldedSetIterable iter X.env x = pure x) : PS X (.For tg iter body [] pos) (tS X.K J (wFor wi t wb)) := by
  refine ⟨fun pins s σ H D I ⟨A, ρ, h, j, rs, r, hw⟩ => (ps_for m.po m.calm hi hg hb hs).run pins s σ H D I ?_⟩
  refine ⟨A, ρ, h, j, rs, r, mi _ _ _ _ (fun it h1 ⟨Iv, a0, a1, a2⟩ It1 H1 m1 r1 io => ?_) hw⟩
  have io := io A fun _ z => z
  refine ⟨fun i n σ2 H2 => ∃ ρ2 h2, n = it.xs.length - i ∧ i ≤ it.xs.length ∧ Mon A H1 H2 ∧ RepSt X.K H2 ρ2 σ2 ∧ Rel X.K A H2 h2 ∧ Iv i ρ2 h2, ⟨_, ρ, h1, rfl, Nat.zero_le _, .refl, rs.mon m1, r1, a0⟩, ?_⟩
  rintro i n σ2 H2 ⟨ρ2, h2, rfl, hi, m2, rs2, r2, iv⟩
  by_cases hlt : i < it.xs.length
  · obtain ⟨kp, _⟩ := a1 i _ ρ2 h2 (List.getElem?_eq_getElem hlt) iv
    refine .inr ⟨io.go i H2 h2 hlt m2 r2 kp, fun σ3 H3 => ∃ ρ3 h3, Mon A H1 H3 ∧ RepSt X.K H3 ρ3 σ3 ∧ Rel X.K A H3 h3 ∧ Iv (i + 1) ρ3 h3, fun σ3 H3 ⟨ρ3, h3, z⟩ => ⟨it.xs.length - (i + 1), by omega, ρ3, h3, rfl, hlt, z⟩, fun x H3 yl => ?_⟩
    obtain ⟨p, ep, rp, hH3⟩ := io.yld i H2 h2 x H3 hlt m2 r2 kp yl
    have m23 : Mon A H2 H3 := by
      rcases hH3 with rfl | ⟨T, us, hT, rfl⟩
      · exact .refl
      · exact r2.mon_new hT
    have r3 : Rel X.K A H3 h2 := by
      rcases hH3 with rfl | ⟨T, us, hT, rfl⟩
      · exact r2
      · exact r2.laid hT
    obtain ⟨_, ρ4, es, q⟩ := a1 i p ρ2 h2 ep iv
    refine ST.set_ok t rp (rs2.mon m23) es fun σ4 rs4 _ => ?_
    have m123 := m2.trans m23
    exact ⟨A, ρ4, h2, m.jj.mon j (m1.trans m123), rs4, r3, MonS.go mb q ⟨fun ρ5 h5 iv5 σ5 H5 mo rs5 r5 => ⟨ρ5, h5, m123.trans mo, rs5, r5, iv5⟩, fun _ _ z => up.trans (m1.trans m123) z, fun _ _ z => upK.trans (m1.trans m123) z,
      fun ρ5 h5 iv5 σ5 H5 mo rs5 r5 => ⟨ρ5, h5, m123.trans mo, rs5, r5, iv5⟩⟩⟩
  · have e : i = it.xs.length := by omega
    subst e
    obtain ⟨kp, q⟩ := a2 ρ2 h2 iv
    exact .inl ⟨io.stop H2 h2 m2 r2 kp, q _ _ (m1.trans m2) rs2 r2⟩
end
end Ev

set_option Elab.async false
set_option linter.all false
set_option maxRecDepth 100000
set_option maxHeartbeats 4000000
/-! EvT: enumerate over a tuple. -/
namespace Ev
open PySem PySem.Spec PyProof.Rows L2
open AutoSeq1 (wpAny_loadPart')
theorem meets_enumerate_newT (l : Addr) (items : Array Value) :
    Meets (Builtin.«enumerate.__new__» ⟨[.type "enumerate", .ref l], []⟩) (fun _ R s => s.heap.IsTuple l items ∧
      R (.ok (.ret (.ref (s.heap.push { cls := .type "tuple_iterator", data := .fields #[.ref l, .int 0 0] }).objs.size)))
        { s with heap := (s.heap.push { cls := .type "tuple_iterator", data := .fields #[.ref l, .int 0 0] }).push { cls := .type "enumerate", data := .fields #[.none, .bool false, .ref s.heap.objs.size, rawInt 0, .none, .none] } }) :=
  .of_wp fun prog w A R s h => by
    obtain ⟨hp, g, d, tk, os⟩ := s; obtain ⟨hL, h⟩ := h
    obtain ⟨⟨c, dct, dt, sl⟩, hl, hc, n, hd⟩ := id hL
    replace hc : c = .type "tuple" := hc
    replace hd : dt = .seq items n := hd
    subst hc hd
    have hsub := sub_enumerate
    wp_walk using wpAny_loadPart' hl
    refine wpAny_stack_any fun st => wpAny_pure ?_
    split
    · rename_i c _ _ _ _ _
      cases (c == Value.type "enumerate")
      · wp_walk using wpAny_loadPart' hl, wpAny_pyIter_tuple hL
        exact ⟨_, rfl, h⟩
      · wp_walk using wpAny_loadPart' hl, wpAny_pyIter_tuple hL
        exact ⟨_, rfl, h⟩
    · wp_walk using wpAny_loadPart' hl, wpAny_pyIter_tuple hL
      exact ⟨_, rfl, h⟩
section
variable {prog : Program} {w : World} {A : Around} {E : Value → Shared → Prop} {s : Shared}
theorem call_enumerate_tuple {l : Addr} {items : Array Value} {Q : Value → Shared → Prop} (hL : s.heap.IsTuple l items)
    (h : ∀ h', IsEnum h' (s.heap.objs.size + 1) s.heap.objs.size 0 .none → h'.IsTupleIter s.heap.objs.size l 0 → h'.objs.size = s.heap.objs.size + 2 →
      (∀ b o, s.heap.get? b = some o → h'.get? b = some o) → Q (.ref (s.heap.objs.size + 1)) { s with heap := h' }) :
    wpAny (model prog w) A (call (.type "enumerate") [.ref l]) Q E s := by
  refine callType_new F.called_enumerate (by decide) (F.typeCall_enumerate_1 _) (F.newCall_enumerate_1 _) (fun obj => F.args_object_init_2 obj _) F.entry_enumerate_new
    (meets_enumerate_newT l items) ⟨hL, ?_⟩
  have hz : (s.heap.push { cls := .type "tuple_iterator", data := .fields #[.ref l, .int 0 0] }).objs.size = s.heap.objs.size + 1 := Heap.size_push ..
  show _ ∧ _
  rw [hz]
  have he : IsEnum ((s.heap.push { cls := .type "tuple_iterator", data := .fields #[.ref l, .int 0 0] }).push
      { cls := .type "enumerate", data := .fields #[.none, .bool false, .ref s.heap.objs.size, rawInt 0, .none, .none] }) (s.heap.objs.size + 1) s.heap.objs.size 0 .none := by
    have := Heap.get?_push_size (s.heap.push { cls := .type "tuple_iterator", data := .fields #[.ref l, .int 0 0] })
      (o := { cls := .type "enumerate", data := .fields #[.none, .bool false, .ref s.heap.objs.size, rawInt 0, .none, .none] }) rfl
    rw [hz] at this; exact this
  refine ⟨⟨_, he, rfl⟩, h _ he ⟨_, Heap.get?_push_of_some _ (Heap.get?_push_size _ rfl), rfl, rfl⟩ (by rw [Heap.size_push, hz]) fun b o x => Heap.get?_push_of_some _ (Heap.get?_push_of_some _ x)⟩
end
/-- the tuple at a, each item in a new pair -/
def IteT (K : PySem.W.Frag) (a : Addr) : It :=
  ⟨fun i H => ∃ (xs : List V) (x : V), SqT K H a xs ∧ xs[i]? = some x, fun i H v H' => ∃ T x, v = .ref T ∧ H T = none ∧ H' = upd H T (.tup [.int (i : Nat), x]) ∧ ∀ xs, SqT K H a xs → xs[i]? = some x, fun i H => ∃ xs : List V, SqT K H a xs ∧ xs.length = i⟩
theorem ne_enum {h : Heap} {e it a : Addr} {i : Int} {old : Value} {items : Array Value} (he : IsEnum h e it i old) (ht : h.IsTuple a items) : e ≠ a := by
  intro z
  subst z
  obtain ⟨o, ho, hc, _⟩ := ht
  rw [show h.get? e = _ from he] at ho
  cases ho
  exact absurd (Value.type.inj (show Value.type "enumerate" = Value.type "tuple" from hc)) (by decide)
theorem ne_titer {h : Heap} {it t a : Addr} {i : Nat} {items : Array Value} (he : h.IsTupleIter it t i) (ht : h.IsTuple a items) : a ≠ it := by
  intro z
  subst z
  obtain ⟨o, ho, hc, _⟩ := ht
  obtain ⟨o2, ho2, hc2, _⟩ := he
  rw [ho] at ho2
  cases ho2
  rw [hc] at hc2
  exact absurd (Value.type.inj hc2) (by decide)
theorem turn_enumT {P : Program} {w : World} {K : PySem.W.Frag} {elts : List Expr} {kk : Nat} {tpos : Pos} (a e it : Addr) :
    Turn P w K (.Tuple elts kk tpos) (IteT K a) [e, it] e (fun i h => (∃ old, IsEnum h e it ((i : Nat) : Int) old) ∧ h.IsTupleIter it a i ∧ e ≠ it) where
  mem := by simp
  obj := fun i h st b hb => by
    obtain ⟨⟨old, he⟩, ⟨o, ho, hc, hd⟩, _⟩ := st
    have e' : b = e ∨ b = it := by simpa using hb
    rcases e' with z | z
    · rw [z]; exact ⟨_, he, fun v q => nomatch q⟩
    · rw [z]; exact ⟨o, ho, fun v q => by rw [hd] at q; cases q⟩
  keep := fun i h h' st k => let ⟨⟨old, he⟩, hi, hne⟩ := st; ⟨⟨old, k e (by simp) _ he⟩, hi.at fun o q => k it (by simp) o q, hne⟩
  item := by
    intro X hP hw hK hc i pins s σ H E I hf st hg
    subst hP hw hK
    obtain ⟨⟨old, he⟩, hit, hne⟩ := st
    obtain ⟨xs, x, hq, hx⟩ := hg
    obtain ⟨its, rv, p, hz⟩ := I.tuple hq
    obtain ⟨u, hu, ru⟩ := rv.get hx
    have hel : e < s.heap.objs.size := Heap.lt_size he
    have hil : it < s.heap.objs.size := by obtain ⟨_, q, _⟩ := hit; exact Heap.lt_size q
    have hlt : i < its.toArray.size := by
      have := (List.getElem?_eq_some_iff.mp hu).1
      simpa using this
    have nea := ne_enum he p
    have nai := ne_titer hit p
    have D := Draws.tuple (prog := X.prog) (w := X.w) (A := X.A.in1) (I.ok.hd hc) it a nai its.toArray
    refine wpAny_pyNext_enum_itemD D he ⟨hit, p⟩ hlt hne (by simp [hne, nea]) fun x' h' tk hx' ho hst' hT hsz hk => ?_
    have eu : x' = u := by
      have h1 : its.toArray[i]? = some x' := hx'
      have h2 : its.toArray[i]? = some u := by simpa using hu
      rw [h1] at h2
      exact Option.some.inj h2
    subst eu
    refine ⟨_, rfl, wpAny_letOwnedTupleGo_enum (s := { s with heap := h', toks := tk + 1 }) ho fun h'' he' sb => ?_⟩
    have hT2 : h''.get? s.heap.objs.size = some { cls := .type "tuple", data := .seq #[.int i tk, x'] } := (sb.2 _ (Nat.ne_of_gt hel)).trans hT
    have new : ObjOk X.prog X.w (upd H s.heap.objs.size (.tup [.int (i : Nat), x])) h'' s.heap.objs.size (.tup [.int (i : Nat), x]) :=
      ⟨by show 2 ≤ sizeLine; decide, [.int i tk, x'], .cons ⟨_, rfl⟩ (.cons ru .nil), ⟨_, hT2, rfl, _, rfl⟩⟩
    have I1 : Inv X pins σ (upd H s.heap.objs.size (.tup [.int (i : Nat), x])) { s with heap := h'', toks := tk + 1 } :=
      I.turnedNew (ch := [e, it]) (fun b ob hb q => (sb.2 b (fun z => hb (by simp [z]))).trans (hk b ob (fun z => hb (by simp [z])) (fun z => hb (by simp [z])) q)) hf (Nat.le_refl _) new
    refine ⟨.ref s.heap.objs.size, _, I1, rfl, ⟨_, x, rfl, I.hok.fresh (Nat.le_refl _), rfl, fun ys hy => by rw [I.tuple_inj hy hq]; exact hx⟩, ⟨⟨x', ?_⟩, hst'.1.at fun o q => (sb.2 it (Ne.symm hne)).trans q, hne⟩, fun b hb => ?_⟩
    · have e1 : ((i + 1 : Nat) : Int) = (i : Int) + 1 := by omega
      rw [e1]; exact he'
    · have hb' : b < s.heap.objs.size := by
        have e' : b = e ∨ b = it := by simpa using hb
        rcases e' with z | z
        · rw [z]; exact hel
        · rw [z]; exact hil
      rw [upd_ne (Nat.ne_of_lt hb')]
      exact (hf b hb).1
  done := by
    intro X hP hw hK hc i pins s σ H E I hf st hg
    subst hP hw hK
    obtain ⟨⟨old, he⟩, hit, hne⟩ := st
    obtain ⟨xs, hq, hx⟩ := hg
    obtain ⟨its, rv, p, hz⟩ := I.tuple hq
    obtain ⟨f0, f1, f2, f3, f4, f5⟩ := hf it (by simp)
    have hl := rv.length
    have nai := ne_titer hit p
    have D := Draws.tuple (prog := X.prog) (w := X.w) (A := X.A.in1) (I.ok.hd hc) it a nai its.toArray
    have e1 : its.toArray.size = i := by simp; omega
    exact wpAny_pyNext_enum_endD D he (show _ by rw [e1]; exact ⟨hit, p⟩) fun h' eb => ⟨rfl, I.turned (t' := s.toks) (fun b o hb q => eb b o hb q) f0 f1 f3 f4 f5⟩
  self := fun A i s Q E st h => let ⟨⟨_, he⟩, _⟩ := st; wpAny_pyIter_enum he h
def iEnumA (K : PySem.W.Frag) (ta : TA) : TI := fun σ H R => ta σ H fun vs H1 => ∃ a xs, vs = [.ref a] ∧ ((SqL K H1 a xs ∧ R (Ite K a) H1) ∨ (SqT K H1 a xs ∧ R (IteT K a) H1))
theorem pi_enumA {X : Cx} {e : Expr} {ta : TA} {p pos tpos : Pos} {elts : List Expr} {kk : Nat} (hg : Gl X "enumerate") (hm : X.mg "enumerate" = none) (ha : PA X [e] ta) (hs : starEach [e] X.env = [(false, eval e X.env)]) :
    PI X (.Tuple elts kk tpos) (.Call (.Name "enumerate" p) [e] [] pos) (iEnumA X.K ta) := by
  refine ⟨fun pins s σ H R I h => ?_⟩
  refine Call_ (ld_blt I hg hm boot_enumerate (PyProof.Rows.callWith_type1 (thn (ha.run pos pins s σ H _ I h) fun us s1 ⟨vs, H1, I1, r1, q1⟩ => ?_) hs rfl))
  obtain ⟨a, xs, ex, q⟩ := q1
  subst ex
  cases r1 with
  | cons r rr =>
    cases rr
    cases r
    have fin : ∀ b ∈ [s1.heap.objs.size + 1, s1.heap.objs.size], FpOk X pins H1 b := fun b hb => by
      have e' : b = s1.heap.objs.size + 1 ∨ b = s1.heap.objs.size := by simpa using hb
      have hle : s1.heap.objs.size ≤ b := by
        rcases e' with z | z
        · rw [z]; exact Nat.le_add_right _ _
        · rw [z]; exact Nat.le_refl _
      exact I1.fpOk hle (I1.hok.fresh hle)
    rcases q with ⟨hq, q⟩ | ⟨hq, q⟩
    · obtain ⟨its, rv, p', hz⟩ := I1.list hq
      refine call_enumerate_list p'.isList fun h' he hit hsz hk => wpAny_pyIter_enum he ?_
      have I2 : Inv X pins σ H1 { s1 with heap := h' } := I1.kept (t' := s1.toks) hk
      exact ⟨s1.heap.objs.size + 1, [s1.heap.objs.size + 1, s1.heap.objs.size], _, _, H1, rfl, I2, turn_enum a (s1.heap.objs.size + 1) s1.heap.objs.size, ⟨⟨.none, he⟩, hit, Nat.succ_ne_self _⟩, fin, q⟩
    · obtain ⟨its, rv, p', hz⟩ := I1.tuple hq
      refine call_enumerate_tuple (show s1.heap.IsTuple a its.toArray from p') fun h' he hit hsz hk => wpAny_pyIter_enum he ?_
      have I2 : Inv X pins σ H1 { s1 with heap := h' } := I1.kept (t' := s1.toks) hk
      exact ⟨s1.heap.objs.size + 1, [s1.heap.objs.size + 1, s1.heap.objs.size], _, _, H1, rfl, I2, turn_enumT a (s1.heap.objs.size + 1) s1.heap.objs.size, ⟨⟨.none, he⟩, hit, Nat.succ_ne_self _⟩, fin, q⟩
end Ev

set_option Elab.async false
set_option linter.all false
set_option maxRecDepth 100000
set_option maxHeartbeats 4000000
/-! EvA: calls by keywords, dicts, ranges as lists, isinstance, enumerate, zip, more stores. -/
namespace Ev
open PySem PySem.Spec PyProof.Rows L2
section
variable {X : Cx} {c : Cfg} {G : Ctx} {gl : Str → PV} {k : Nat} {J : Jw} {ex : Env → XV} {a b d e tg iter : Expr} {es : List Expr} {wa wb wd we : WE} {wl : WA} {pos pos' : Pos}

/-! ### calls by keywords alone -/
theorem k_nil : L2.PK X [] (tA X.K J wNil) := ⟨fun ps pins s σ H Q I ⟨A, ρ, h, j, rs, r, q⟩ => pk_nil.run ps pins s σ H Q I (q [] H .refl r .nil)⟩
theorem k_cons {nm : Option Str} {kpos : Pos} {kws : List Keyword} (jj : JOk J) (ha : PE X a (tE X.K J wa)) (hl : L2.PK X kws (tA X.K J wl)) (ma : MonE wa) (ml : MonA wl) : L2.PK X (⟨nm, a, kpos⟩ :: kws) (tA X.K J (wCons wa wl)) := by
  refine ⟨fun ps pins s σ H Q I ⟨A, ρ, h, j, rs, r, hw⟩ => (pk_cons ha hl).run ps pins s σ H Q I ?_⟩
  refine tE_of jj j rs r ma hw fun x h1 v H1 p j1 rs1 m1 r1 rv => ?_
  refine tA_of jj j1 rs1 r1 ml p fun xs h2 vs H2 q j2 rs2 m2 r2 rl => ?_
  exact q (v :: vs) H2 (m1.trans m2) r2 (.cons (rv.mon m2) rl)
theorem RepL.getD {K : Frag} {H : Hp} {xs : List PV} {vs : List V} (l : RepL K H xs vs) {i : Nat} (hi : i < xs.length) : RepV K H (xs.getD i .non) (vs.getD i .non) := by
  obtain ⟨v, e, rv⟩ := l.get (List.getElem?_eq_getElem hi)
  rw [List.getD_eq_getElem?_getD, List.getD_eq_getElem?_getD, e, List.getElem?_eq_getElem hi]
  exact rv
theorem vals_perm {vs : List V} {us : List Value} (r : Vals vs us) : ∀ {perm : List Nat}, (∀ i ∈ perm, i < vs.length) → Vals (perm.map fun i => vs.getD i .non) (perm.map fun i => us.getD i .none)
  | [], _ => .nil
  | i :: is, h => by
    refine .cons ?_ (vals_perm r fun j hj => h j (List.mem_cons_of_mem _ hj))
    have hi := h i List.mem_cons_self
    have go : ∀ {vs : List V} {us : List Value} {i : Nat}, Vals vs us → i < vs.length → RelV (vs.getD i .non) (us.getD i .none) := by
      intro vs us i r
      induction r generalizing i with
      | nil => intro h; exact absurd h (Nat.not_lt_zero _)
      | cons p _ ih =>
        intro h
        cases i with
        | zero => exact p
        | succ i => exact ih (Nat.lt_of_succ_lt_succ h)
    exact go r hi
theorem rep_perm {K : Frag} {H : Hp} {xs : List PV} {vs : List V} (l : RepL K H xs vs) : ∀ {perm : List Nat}, (∀ i ∈ perm, i < xs.length) → RepL K H (perm.map fun i => xs.getD i .non) (perm.map fun i => vs.getD i .non)
  | [], _ => .nil
  | i :: is, h => .cons (l.getD (h i List.mem_cons_self)) (rep_perm l fun j hj => h j (List.mem_cons_of_mem _ hj))
def wFnK (sp : Spec) (ex : Env → XV) (perm : List Nat) (wl : WA) : WE := fun ρ h Q => wl ρ h fun xs h1 => sp (perm.map fun i => xs.getD i .non) h1 Q (ex ρ)
theorem mono_fnK {sp : Spec} {perm : List Nat} (hs : ∀ as h (P Q : PK) (R T : XV), (∀ x h, P x h → Q x h) → (∀ c fs h, R c fs h → T c fs h) → sp as h P R → sp as h Q T) (ml : MonA wl) : MonE (wFnK sp ex perm wl) := fun ρ h P Q k hw => ml _ _ _ _ (fun xs h1 z => hs _ _ _ _ _ _ k (fun _ _ _ z => z) z) hw
theorem s_fnK (m : Match X c G gl k J ex) {f : Str} {ks : List Str} {perm : List Nat} {p : Pos} {kws : List Keyword} (hf : (f, ks, perm) ∈ c.kws) (hg : Gl X f) (hd : (f == ("__debug__" : Str)) = false) (ha : L2.PK X kws (tA X.K J wl)) (ml : MonA wl) (hn : kws.length = ks.length)
    (len : ∀ {ρ h Q}, wl ρ h Q → wl ρ h fun xs h1 => xs.length = kws.length ∧ Q xs h1) (hall : (backToKw pos (keywordEach kws X.env)).all (·.1.isSome) = true) (hks : (backToKw pos (keywordEach kws X.env)).filterMap (·.1) = ks)
    (hpl : (backToKw pos (keywordEach kws X.env)).any (·.1.isNone) = false) : PE X (.Call (.Name f p) [] kws pos) (tE X.K J (wFnK (G.fn f) ex perm wl)) := by
  obtain ⟨fa, fd, ps, hm, F, kp, kb⟩ := m.kws f ks perm hf
  refine ⟨fun pins s σ H Q I ⟨A, ρ, h, j, rs, r, hw⟩ => ?_⟩
  refine wpAny_Call_Name_kw (ld_glob I hg hm ?_ hd)
  have ht : tA X.K J wl σ H fun vs H1 => vs.length = ks.length ∧ ∃ (A : Addr → Prop) (ρ : Env) (h : MH) (as : List PV), J A H1 ∧ RepSt X.K H1 ρ σ ∧ Rel X.K A H1 h ∧ RepL X.K H1 as vs ∧ G.fn f (perm.map fun i => as.getD i .non) h (up X.K A H1 Q) (ex ρ) :=
    tA_of m.jj j rs r ml (len hw) fun xs h1 vs H1 p j1 rs1 m1 r1 rl => ⟨by rw [← rl.length, p.1, hn], A, ρ, h1, xs, j1, rs1, r1, rl, G.mono _ _ _ _ _ _ _ (fun _ _ z => up.trans m1 z) (fun _ _ _ z => z) p.2⟩
  refine PySem.W.callWith_KW0 (h₀ := X.base) I.ok.mod.kin kp hall (thn (ha.run pos pins s σ H _ I ht) fun us s1 ⟨vs, H1, I1, rv, hl, A1, ρ1, h1, as, j1, rs1, r1, rl, q⟩ => ⟨I1.kIn, ?_⟩) (by rw [hpl]; rfl)
  rw [hks]
  have lu : us.length = ks.length := by rw [← rv.length]; exact hl
  exact call_of (run_fng m F I1 (kb.to s1 us I1.kIn lu) (vals_perm rv fun i hi => by rw [hl]; exact kb.lt i hi) (by rw [List.length_map]; exact kb.len) j1 rs1 r1 (rep_perm rl fun i hi => by rw [rl.length, hl]; exact kb.lt i hi) q)

/-! ### dicts whose keys are ints and texts -/
def keyP : PV → Option Key
  | .int i => some (.inl i)
  | .str x => some (.inr x)
  | _ => none
def lookP (kvs : List (Key × PV)) (k : Key) : Option PV := (kvs.find? fun kv => decide (kv.1 = k)).map (·.2)
def putP (kvs : List (Key × PV)) (k : Key) (x : PV) : List (Key × PV) :=
  if kvs.any (fun kv => decide (kv.1 = k)) then kvs.map (fun kv => if kv.1 = k then (kv.1, x) else kv) else kvs ++ [(k, x)]
section
variable {K : Frag} {H : Hp}
theorem key_rep {x : PV} {v : V} {k : Key} (r : RepV K H x v) (e : keyP x = some k) : v = kV k := by
  cases r <;> cases e <;> rfl
theorem kr_find {kvs : List (Key × PV)} {ws : List (Key × V)} (r : KR K H kvs ws) (k : Key) : (∀ x, lookP kvs k = some x → ∃ v, valV ws k = some v ∧ RepV K H x v) ∧ (lookP kvs k).isSome = (valV ws k).isSome := by
  unfold KR at r
  induction r with
  | nil => exact ⟨fun _ e => (nomatch e), rfl⟩
  | @cons p q tl tl2 h t ih =>
    obtain ⟨h1, h2⟩ := h
    by_cases e : p.1 = k
    · have e2 : q.1 = k := h1 ▸ e
      rw [valV_pos e2]
      have e3 : lookP (p :: tl) k = some p.2 := by unfold lookP; rw [List.find?_cons_of_pos (by simpa using e)]; rfl
      rw [e3]
      exact ⟨fun x ex => by cases ex; exact ⟨_, rfl, h2⟩, rfl⟩
    · have e2 : ¬ q.1 = k := h1 ▸ e
      rw [valV_neg e2]
      have e3 : ∀ t, lookP (p :: t) k = lookP t k := fun t => by unfold lookP; rw [List.find?_cons_of_neg (by simpa using e)]
      rw [e3]
      exact ih
theorem kr_len {kvs : List (Key × PV)} {ws : List (Key × V)} (r : KR K H kvs ws) : kvs.length = ws.length := Paired.length r
theorem kr_any {kvs : List (Key × PV)} {ws : List (Key × V)} (r : KR K H kvs ws) (k : Key) : (kvs.any fun kv => decide (kv.1 = k)) = ws.any fun kv => decide (kv.1 = k) := by
  unfold KR at r
  induction r with
  | nil => rfl
  | cons h t ih => simp only [List.any_cons, ih, h.1]
theorem kr_map {kvs : List (Key × PV)} {ws : List (Key × V)} (r : KR K H kvs ws) (k : Key) {x : PV} {v : V} (rv : RepV K H x v) : KR K H (kvs.map fun kv => if kv.1 = k then (kv.1, x) else kv) (ws.map fun kv => if kv.1 = k then (kv.1, v) else kv) := by
  unfold KR at r ⊢
  induction r with
  | nil => exact .nil
  | @cons p q _ _ h t ih =>
    refine .cons ?_ ih
    simp only [h.1]
    by_cases z : q.1 = k
    · rw [if_pos z, if_pos z]; exact ⟨rfl, rv⟩
    · rw [if_neg z, if_neg z]; exact h
theorem kr_snoc {kvs : List (Key × PV)} {ws : List (Key × V)} (r : KR K H kvs ws) (k : Key) {x : PV} {v : V} (rv : RepV K H x v) : KR K H (kvs ++ [(k, x)]) (ws ++ [(k, v)]) := by
  unfold KR at r ⊢
  induction r with
  | nil => exact .cons ⟨rfl, rv⟩ .nil
  | cons h t ih => exact .cons h ih
theorem kr_put {kvs : List (Key × PV)} {ws : List (Key × V)} (r : KR K H kvs ws) (k : Key) {x : PV} {v : V} (rv : RepV K H x v) : KR K H (putP kvs k x) (putK ws k v) := by
  unfold putP putK
  rw [kr_any r k]
  split
  · exact kr_map r k rv
  · exact kr_snoc r k rv
end
/-- d[k] -/
def opDix : O2 := fun x y h Q => match x with
  | .ref p => ∃ kvs k v, h p = some (.dK kvs) ∧ keyP y = some k ∧ lookP kvs k = some v ∧ Q v h
  | _ => False
theorem mono_opDix : Mon2 opDix := by
  intro x y h P Q k
  unfold opDix
  split
  · exact fun ⟨kvs, q, v, e1, e2, e3, z⟩ => ⟨kvs, q, v, e1, e2, e3, k _ _ z⟩
  · exact id
theorem s_dix (m : Match X c G gl k J ex) (ha : PE X a (tE X.K J wa)) (hb : PE X b (tE X.K J wb)) (ma : MonE wa) (mb : MonE wb) (hs : NoSl b) : PE X (.Subscript a b pos) (tE X.K J (w2 opDix wa wb)) := by
  refine ⟨fun pins s σ H Q I ⟨A, ρ, h, j, rs, r, hw⟩ => (pe_dget (by have := room65 m.room; omega) ha hb hs).run pins s σ H Q I ?_⟩
  refine tE_of m.jj j rs r ma hw fun x h1 v H1 p j1 rs1 m1 r1 rv => ?_
  refine tE_of m.jj j1 rs1 r1 mb p fun y h2 u H2 q j2 rs2 m2 r2 ru => ?_
  unfold opDix at q
  split at q
  · obtain ⟨kvs, ky, z, e1, e2, e3, q⟩ := q
    have rv2 := rv.mon m2
    cases rv2
    obtain ⟨ws, eH, kr⟩ := r2.obj _ _ e1
    obtain ⟨w, ew, rw'⟩ := (kr_find kr ky).1 _ e3
    have ek := key_rep ru e2
    subst ek
    refine ⟨_, w, rfl, ?_, q w H2 (m1.trans m2) r2 rw'⟩
    rw [← ew]
    exact DGet.k eH
  · exact q.elim
/-- k in d -/
def opDin (neg : Bool) : O2 := fun y x h Q => match x with
  | .ref p => ∃ kvs k, h p = some (.dK kvs) ∧ keyP y = some k ∧ Q (.bl (neg != (lookP kvs k).isSome)) h
  | _ => False
theorem mono_opDin (n : Bool) : Mon2 (opDin n) := by
  intro y x h P Q k
  unfold opDin
  split
  · exact fun ⟨kvs, q, e1, e2, z⟩ => ⟨kvs, q, e1, e2, k _ _ z⟩
  · exact id
theorem s_din (m : Match X c G gl k J ex) (n : Bool) (ha : PE X a (tE X.K J wa)) (hb : PE X b (tE X.K J wb)) (ma : MonE wa) (mb : MonE wb) (hm : behindInMarks (if n then .NotIn else .In) b = false) : PE X (.Compare a [if n then .NotIn else .In] [b] pos) (tE X.K J (w2 (opDin n) wa wb)) := by
  refine ⟨fun pins s σ H Q I ⟨A, ρ, h, j, rs, r, hw⟩ => ?_⟩
  have hu : X.A.units + 1 < cLine := by have := room65 m.room; omega
  cases n with
  | false =>
    refine (pe_cmp (pc_din hu ha hb) hm).run pins s σ H Q I ?_
    refine tE_of m.jj j rs r ma hw fun x h1 v H1 p j1 rs1 m1 r1 rv => ?_
    refine tE_of m.jj j1 rs1 r1 mb p fun y h2 u H2 q j2 rs2 m2 r2 ru => ?_
    unfold opDin at q
    split at q
    · obtain ⟨kvs, ky, e1, e2, q⟩ := q
      cases ru
      obtain ⟨ws, eH, kr⟩ := r2.obj _ _ e1
      have ek := key_rep rv e2
      subst ek
      refine ⟨_, _, rfl, DGet.k eH, ?_⟩
      rw [← (kr_find kr ky).2, ← Bool.false_bne (lookP kvs ky).isSome]
      exact q _ H2 (m1.trans m2) r2 (.bl _)
    · exact q.elim
  | true =>
    refine (pe_cmp (pc_dnotin hu ha hb) hm).run pins s σ H Q I ?_
    refine tE_of m.jj j rs r ma hw fun x h1 v H1 p j1 rs1 m1 r1 rv => ?_
    refine tE_of m.jj j1 rs1 r1 mb p fun y h2 u H2 q j2 rs2 m2 r2 ru => ?_
    unfold opDin at q
    split at q
    · obtain ⟨kvs, ky, e1, e2, q⟩ := q
      cases ru
      obtain ⟨ws, eH, kr⟩ := r2.obj _ _ e1
      have ek := key_rep rv e2
      subst ek
      refine ⟨_, _, rfl, DGet.k eH, ?_⟩
      rw [← (kr_find kr ky).2, ← Bool.true_bne (lookP kvs ky).isSome]
      exact q _ H2 (m1.trans m2) r2 (.bl _)
    · exact q.elim
/-- d[k] = v -/
def dputP (o i v : PV) (h : MH) (Q : MH → Prop) : Prop := match o with
  | .ref p => ∃ kvs k, h p = some (.dK kvs) ∧ keyP i = some k ∧ kvs.length < sizeLine ∧ Q (mupd h p (.dK (putP kvs k v)))
  | _ => False
theorem mono_dput {o i v : PV} {h : MH} {P Q : MH → Prop} (k : ∀ h, P h → Q h) : dputP o i v h P → dputP o i v h Q := by
  unfold dputP
  split
  · exact fun ⟨kvs, ky, e, e2, e3, q⟩ => ⟨kvs, ky, e, e2, e3, k _ q⟩
  · exact id
def wDput (wo wi wv : WE) : WS := fun ρ h D => wv ρ h fun v h1 => wo ρ h1 fun o h2 => wi ρ h2 fun i h3 => dputP o i v h3 fun h4 => D.nx ρ h4
theorem mono_wDput {wo wi wv : WE} (mo : MonE wo) (mi : MonE wi) (mv : MonE wv) : MonS (wDput wo wi wv) := fun ρ h D D' l z =>
  mv _ _ _ _ (fun v h1 z => mo _ _ _ _ (fun o h2 z => mi _ _ _ _ (fun i h3 z => mono_dput (fun h4 z => l.nx _ _ z) z) z) z) z
theorem s_dput {wo wi wv : WE} (m : Match X c G gl k J ex) (ho : PE X a (tE X.K J wo)) (hi : PE X b (tE X.K J wi)) (hv : PE X d (tE X.K J wv)) (mo : MonE wo) (mi : MonE wi) (mv : MonE wv)
    (hs : swapsWith d (some (.Subscript a b pos')) pos.line X.env = pure false) : PS X (.Assign [.Subscript a b pos'] d pos) (tS X.K J (wDput wo wi wv)) := by
  refine ⟨fun pins s σ H D I ⟨A, ρ, h, j, rs, r, hw'⟩ => (ps_dput (by have := room65 m.room; omega) ho hi hv hs).run pins s σ H D I ?_⟩
  refine tE_of m.jj j rs r mv hw' fun v h1 vv H1 p j1 rs1 m1 r1 rv => ?_
  refine tE_of m.jj j1 rs1 r1 mo p fun o h2 ov H2 p2 j2 rs2 m2 r2 ro => ?_
  refine tE_of m.jj j2 rs2 r2 mi p2 fun i h3 iv H3 p3 j3 rs3 m3 r3 ri => ?_
  unfold dputP at p3
  split at p3
  · obtain ⟨kvs, ky, e1, e2, e3, q⟩ := p3
    have ro2 := ro.mon m3
    cases ro2
    obtain ⟨ws, eH, kr⟩ := r3.obj _ _ e1
    have ek := key_rep ri e2
    subst ek
    have mw := r3.mon_write (o := .dK (putK ws ky vv)) e1
    refine ⟨_, _, rfl, DPut.k eH (by rw [← kr_len kr]; exact e3), q σ _ (m1.trans (m2.trans (m3.trans mw))) (rs3.mon mw) (r3.write e1 ⟨_, upd_same, kr_put (KR.mon mw kr) ky ((rv.mon (m2.trans m3)).mon mw)⟩)⟩
  · exact p3.elim
/-- {} -/
def wDnew : WE := fun _ h Q => ∀ p, h p = none → Q (.ref p) (mupd h p (.dK []))
theorem mono_dnew : MonE wDnew := fun _ _ _ _ k q p hp => k _ _ (q p hp)
theorem s_dnew : PE X (.Dict [] [] pos) (tE X.K J wDnew) := by
  refine ⟨fun pins s σ H Q I ⟨A, ρ, h, j, rs, r, hw⟩ => pe_dnewK.run pins s σ H Q I fun p hp => ?_⟩
  exact hw p (r.free hp) (.ref p) _ (r.mon_new hp) (r.tell hp ⟨[], upd_same, .nil⟩) (.ref p)

/-! ### {k: v, ..} -/
abbrev WP := Env → MH → (List (PV × PV) → MH → Prop) → Prop
def MonP (w : WP) : Prop := ∀ ρ h (P Q : List (PV × PV) → MH → Prop), (∀ x h, P x h → Q x h) → w ρ h P → w ρ h Q
def wPnil : WP := fun _ h Q => Q [] h
def wPcons (wa wb : WE) (wp : WP) : WP := fun ρ h Q => wa ρ h fun x h1 => wb ρ h1 fun y h2 => wp ρ h2 fun ps h3 => Q ((x, y) :: ps) h3
theorem mono_pnil : MonP wPnil := fun _ _ _ _ k q => k _ _ q
theorem mono_pcons {wp : WP} (ma : MonE wa) (mb : MonE wb) (mp : MonP wp) : MonP (wPcons wa wb wp) := fun ρ h P Q k hw => ma _ _ _ _ (fun x h1 z => mb _ _ _ _ (fun y h2 z => mp _ _ _ _ (fun ps h3 z => k _ _ z) z) z) hw
def keysP : List (PV × PV) → Option (List (Key × PV))
  | [] => some []
  | (x, y) :: ps => (keyP x).bind fun k => (keysP ps).map fun r => (k, y) :: r
def mergeP (kvs more : List (Key × PV)) : List (Key × PV) := more.foldl (fun acc kv => putP acc kv.1 kv.2) kvs
def wDisp (wp : WP) : WE := fun ρ h Q => wp ρ h fun ps h1 => ∃ kvs, keysP ps = some kvs ∧ kvs.length ≤ 15 ∧ ∀ p, h1 p = none → Q (.ref p) (mupd h1 p (.dK (mergeP [] kvs)))
theorem mono_disp {wp : WP} (mp : MonP wp) : MonE (wDisp wp) := fun ρ h P Q k hw => mp _ _ _ _ (fun ps h1 ⟨kvs, e, l, q⟩ => ⟨kvs, e, l, fun p hp => k _ _ (q p hp)⟩) hw
abbrev PR (K : Frag) (H : Hp) : List (PV × PV) → List (V × V) → Prop := Paired fun p q => RepV K H p.1 q.1 ∧ RepV K H p.2 q.2
theorem pr_mon {K : Frag} {A : Addr → Prop} {H H' : Hp} (m : Mon A H H') {ps : List (PV × PV)} {qs : List (V × V)} (r : PR K H ps qs) : PR K H' ps qs := Paired.mapP r fun _ _ z => ⟨z.1.mon m, z.2.mon m⟩
theorem keys_pr {K : Frag} {H : Hp} : ∀ {ps : List (PV × PV)} {qs : List (V × V)} {kvs : List (Key × PV)}, PR K H ps qs → keysP ps = some kvs → ∃ ws : List (Key × V), qs = ws.map (fun kv => (kV kv.1, kv.2)) ∧ KR K H kvs ws := by
  intro ps qs kvs r
  induction r generalizing kvs with
  | nil => intro e; cases e; exact ⟨[], rfl, .nil⟩
  | @cons p q ps qs h t ih =>
    intro e
    obtain ⟨x, y⟩ := p
    simp only [keysP] at e
    obtain ⟨k, e1, e2⟩ := Option.bind_eq_some_iff.mp e
    obtain ⟨r, e3, rfl⟩ := Option.map_eq_some_iff.mp e2
    obtain ⟨ws, rfl, kr⟩ := ih e3
    obtain ⟨v, w⟩ := q
    cases key_rep h.1 e1
    exact ⟨(k, w) :: ws, rfl, .cons ⟨rfl, h.2⟩ kr⟩
theorem kr_merge {K : Frag} {H : Hp} {more : List (Key × PV)} {ws : List (Key × V)} (r : KR K H more ws) : ∀ {kvs : List (Key × PV)} {vs : List (Key × V)}, KR K H kvs vs → KR K H (mergeP kvs more) (mergeK vs ws) := by
  unfold KR at r
  induction r with
  | nil => exact fun r => r
  | @cons p q ps qs h t ih =>
    intro kvs vs r
    show KR K H (mergeP (putP kvs p.1 p.2) ps) (mergeK (putK vs q.1 q.2) qs)
    rw [h.1]
    exact ih (kr_put r q.1 h.2)
/-- pairs: their readings -/
inductive PPt (X : Cx) (J : Jw) (pos : Pos) : List (Option Expr) → List Expr → WP → Prop where
  | nil : PPt X J pos [] [] wPnil
  | cons {a b : Expr} {ks : List (Option Expr)} {vs : List Expr} {wa wb : WE} {wp : WP} : PE X a (tE X.K J wa) → PE X b (tE X.K J wb) → MonE wa → MonE wb → MonP wp → PPt X J pos ks vs wp → PPt X J pos (some a :: ks) (b :: vs) (wPcons wa wb wp)
theorem ppt_run (jj : JOk J) {ks : List (Option Expr)} {vs : List Expr} {wp : WP} (t : PPt X J pos ks vs wp) : ∃ trs, PPs X pos ks vs trs ∧ ∀ {A : Addr → Prop} {ρ : Env} {h : MH} {σ : L2.St} {H : Hp} {P : List (PV × PV) → MH → Prop} {R : List (V × V) → Hp → Prop}, J A H → RepSt X.K H ρ σ → Rel X.K A H h → wp ρ h P →
    (∀ ps h1 qs H1, P ps h1 → RepSt X.K H1 ρ σ → Mon A H H1 → Rel X.K A H1 h1 → PR X.K H1 ps qs → R qs H1) → tPairs trs σ H R := by
  induction t with
  | nil => exact ⟨[], pps_nil, fun j rs r q k => k _ _ _ _ q rs .refl r .nil⟩
  | @cons a b ks vs wa wb wp ha hb ma mb mp t ih =>
    obtain ⟨trs, hp, run⟩ := ih
    refine ⟨_, pps_cons ha hb hp, fun {A ρ h σ H P R} j rs r hw k => ?_⟩
    show tE X.K J wa σ H fun x H1 => tE X.K J wb σ H1 fun y H2 => tPairs trs σ H2 fun ps H3 => R ((x, y) :: ps) H3
    refine tE_of jj j rs r ma hw fun x h1 v H1 p1 j1 rs1 m1 r1 rv => ?_
    refine tE_of jj j1 rs1 r1 mb p1 fun y h2 u H2 p2 j2 rs2 m2 r2 ru => ?_
    exact run j2 rs2 r2 p2 fun ps h3 qs H3 p3 rs3 m3 r3 pr => k _ _ _ _ p3 rs3 (m1.trans (m2.trans m3)) r3 (.cons ⟨rv.mon (m2.trans m3), ru.mon m3⟩ pr)
theorem s_disp (jj : JOk J) {ks : List (Option Expr)} {vs : List Expr} {wp : WP} (t : PPt X J pos ks vs wp) (mp : MonP wp) (hall : ks.all (·.isSome) = true) (hl : ks.length = vs.length) (h0 : ks ≠ []) (h15 : ks.length ≤ 15) : PE X (.Dict ks vs pos) (tE X.K J (wDisp wp)) := by
  obtain ⟨trs, hp, run⟩ := ppt_run jj t
  refine ⟨fun pins s σ H Q I ⟨A, ρ, h, j, rs, r, hw⟩ => (pe_disp hp hall hl h0 h15).run pins s σ H Q I fun p hn => ?_⟩
  have np : ∀ d, A d → d ≠ p := r.nothid hn
  have rB : Rel X.K (fun d => A d ∨ d = p) (upd H p (.dK [])) h := by
    have l := r.laid (o := .dK []) hn
    refine ⟨l.obj, fun d hd => ?_⟩
    rcases hd with hd | rfl
    · exact l.hid d hd
    · exact ⟨r.free hn, _, upd_same⟩
  have jB : J (fun d => A d ∨ d = p) (upd H p (.dK [])) := jj.big (jj.mon j (r.mon_new hn)) fun d hd => .inl hd
  refine run jB (rs.mon (r.mon_new (o := .dK []) hn)) rB hw fun ps h1 qs H1 ⟨kvs, ek, el, q⟩ rs1 m1 r1 pr => ?_
  have e1 : H1 p = some (.dK []) := (m1.hid p (.inr rfl)).trans upd_same
  obtain ⟨ws, rfl, kr⟩ := keys_pr pr ek
  have hf : h1 p = none := (r1.hid p (.inr rfl)).1
  have mA : Mon A H H1 := (r.mon_new hn).trans (m1.sub fun d hd => .inl hd)
  have mw : Mon A H1 (upd H1 p (.dK (mergeK [] ws))) := Ev.mon_write e1 (fun _ z => nomatch z) (fun _ _ z => nomatch z) np
  refine ⟨e1, ws, rfl, by rw [← kr_len kr]; exact el, q p hf (.ref p) _ (mA.trans mw) ⟨fun a o e => ?_, fun d hd => ?_⟩ (.ref p)⟩
  · by_cases ha : a = p
    · subst ha
      rw [mupd_same] at e; cases e
      exact ⟨_, upd_same, KR.mon mw (kr_merge kr .nil)⟩
    · rw [mupd_ne ha] at e
      exact (r1.obj a o e).mon mw (upd_ne ha)
  · rw [mupd_ne (np d hd)]
    obtain ⟨z1, o', z2⟩ := r1.hid d (.inl hd)
    exact ⟨z1, o', by rw [upd_ne (np d hd)]; exact z2⟩

/-! ### list(range(..)) -/
def rngL (i j : Int) : List PV := (List.range (j - i).toNat).map fun t => .int (i + (t : Nat))
theorem rngL_rep {K : Frag} {H : Hp} {i j : Int} : RepL K H (rngL i j) (rgV i j) := by
  unfold rngL rgV
  generalize List.range (j - i).toNat = l
  induction l with
  | nil => exact .nil
  | cons t l ih => exact .cons (.int _) ih
def wLr1 (m : Bool) (wa : WE) : WE := fun ρ h Q => wa ρ h fun x h1 => ∃ j, x = .int j ∧ RgOk 0 j ∧ allocL m (rngL 0 j) h1 Q
def wLr2 (m : Bool) (wa wb : WE) : WE := fun ρ h Q => wa ρ h fun x h1 => wb ρ h1 fun y h2 => ∃ i j, x = .int i ∧ y = .int j ∧ RgOk i j ∧ allocL m (rngL i j) h2 Q
theorem mono_lr1 {m : Bool} (ma : MonE wa) : MonE (wLr1 m wa) := fun ρ h P Q k hw => ma _ _ _ _ (fun x h1 ⟨j, e, o, z⟩ => ⟨j, e, o, allocL_mono k z⟩) hw
theorem mono_lr2 {m : Bool} (ma : MonE wa) (mb : MonE wb) : MonE (wLr2 m wa wb) := fun ρ h P Q k hw => ma _ _ _ _ (fun x h1 z => mb _ _ _ _ (fun y h2 ⟨i, j, e, e2, o, z⟩ => ⟨i, j, e, e2, o, allocL_mono k z⟩) z) hw
theorem s_lr1 {p p2 pos2 : Pos} (m : Match X c G gl k J ex) (f : Bool) (hg : Gl X "list") (hm : X.mg "list" = none) (hg2 : Gl X "range") (hm2 : X.mg "range" = none) (ha : PE X a (tE X.K J wa)) (ma : MonE wa) (he : starEach [a] X.env = (false, eval a X.env) :: starEach [] X.env) :
    PE X (.Call (.Name "list" p) [.Call (.Name "range" p2) [a] [] pos2] [] pos) (tE X.K J (wLr1 f wa)) := by
  have base := pe_fzm (pe_listRg (p := p) (pos := pos) m.calm hg hm (prg_1 (p := p2) (pos := pos2) hg2 hm2 ha he) rfl) f
  refine ⟨fun pins s σ H Q I ⟨A, ρ, h, j, rs, r, hw⟩ => base.run pins s σ H Q I ?_⟩
  refine tE_of m.jj j rs r ma hw fun x h1 v H1 ⟨n, e, ok, al⟩ j1 rs1 m1 r1 rv => ?_
  subst e
  cases rv
  exact ⟨n, rfl, ok, fun q hq => alloc_new r1 rngL_rep hq (allocL_mono (fun z h3 u => up.trans m1 u) al)⟩
theorem s_lr2 {p p2 pos2 : Pos} (m : Match X c G gl k J ex) (f : Bool) (hg : Gl X "list") (hm : X.mg "list" = none) (hg2 : Gl X "range") (hm2 : X.mg "range" = none) (ha : PE X a (tE X.K J wa)) (hb : PE X b (tE X.K J wb)) (ma : MonE wa) (mb : MonE wb) (he : starEach [a, b] X.env = (false, eval a X.env) :: starEach [b] X.env)
    (he2 : starEach [b] X.env = (false, eval b X.env) :: starEach [] X.env) (hpl : (backTo pos2 (starEach [b] X.env)).any (·.1) = false) :
    PE X (.Call (.Name "list" p) [.Call (.Name "range" p2) [a, b] [] pos2] [] pos) (tE X.K J (wLr2 f wa wb)) := by
  have base := pe_fzm (pe_listRg (p := p) (pos := pos) m.calm hg hm (prg_2 (p := p2) (pos := pos2) hg2 hm2 ha hb he he2 hpl) rfl) f
  refine ⟨fun pins s σ H Q I ⟨A, ρ, h, j, rs, r, hw⟩ => base.run pins s σ H Q I ?_⟩
  refine tE_of m.jj j rs r ma hw fun x h1 v H1 p1 j1 rs1 m1 r1 rv => ?_
  refine tE_of m.jj j1 rs1 r1 mb p1 fun y h2 u H2 ⟨i, n, e, e2, ok, al⟩ j2 rs2 m2 r2 ru => ?_
  subst e e2
  cases rv; cases ru
  exact ⟨i, n, rfl, rfl, ok, fun q hq => alloc_new r2 rngL_rep hq (allocL_mono (fun z h3 u => up.trans (m1.trans m2) u) al)⟩

/-! ### isinstance -/
inductive Ty where
  | int | bool | str | tuple | list
  deriving DecidableEq
def Ty.name : Ty → String
  | .int => "int" | .bool => "bool" | .str => "str" | .tuple => "tuple" | .list => "list"
/-- the class of a value (an instance's is told by the heap) -/
def clsP (h : MH) : PV → Option String
  | .non => some "NoneType"
  | .bl _ => some "bool"
  | .int _ => some "int"
  | .str _ => some "str"
  | .tup _ => some "tuple"
  | .tpl _ => some "tuple"
  | .lst _ => some "list"
  | .scr _ => some "list"
  | .ref p => match h p with
    | some (.lst _) => some "list"
    | some (.dK _) => some "dict"
    | some (.dT _) => some "dict"
    | _ => none
  | .ty _ => none
def isB (t : Ty) (n : String) : Bool := match t with
  | .int => n == "int" || n == "bool"
  | .bool => n == "bool" | .str => n == "str" | .tuple => n == "tuple" | .list => n == "list"
def opIsi (t : Ty) : O1 := fun x h Q => ∃ n, clsP h x = some n ∧ Q (.bl (isB t n)) h
theorem mono_isi (t : Ty) : Mon1 (opIsi t) := fun x h P Q k ⟨n, e, q⟩ => ⟨n, e, k _ _ q⟩
theorem tyx_of {K : Frag} {A : Addr → Prop} {H : Hp} {h : MH} {x : PV} {v : V} {n : String} (r : Rel K A H h) (rv : RepV K H x v) (e : clsP h x = some n) : TyX K H v (.type n) := by
  cases rv with
  | non => cases e; exact .base .non
  | bl b => cases e; exact .base (.bl b)
  | int b => cases e; exact .base (.int b)
  | str b => cases e; exact .base (.str b)
  | ty b => cases e
  | ref p =>
    simp only [clsP] at e
    split at e
    · rename_i xs q
      cases e
      obtain ⟨vs, z, _⟩ := r.obj _ _ q
      exact .base (.lst z)
    · rename_i xs q
      cases e
      obtain ⟨vs, z, _⟩ := r.obj _ _ q
      exact .base (.dK z)
    · rename_i xs q
      cases e
      obtain ⟨vs, z, _⟩ := r.obj _ _ q
      exact .base (.dT z)
    · cases e
  | tup s l =>
    cases e
    rcases s with (s | ⟨o, s⟩) | ⟨o, its, n, q, c, _⟩
    · exact .base (.tup s)
    · exact .fTuple s
    · exact .kTuple q c
  | tpl s l =>
    cases e
    obtain ⟨o, s, _⟩ := s
    exact .fTuple s
  | lst s l =>
    cases e
    obtain ⟨o, s⟩ := s
    exact .base (.frz s)
  | scr s l =>
    cases e
    rcases s with ⟨o, s⟩ | ⟨o, its, n, q, c, _⟩
    · exact .base (.frz s)
    · exact .kList q c
theorem kit_b {K : Frag} : ∀ (t : Ty) {h : MH} {x : PV} {n : String}, clsP h x = some n → PySem.W.kitOne K (.type n) (.type t.name) = some (isB t n) := by
  have key : ∀ (t : Ty) (n : String), n ∈ ["NoneType", "bool", "int", "str", "tuple", "list", "dict"] → PySem.W.kitOne K (.type n) (.type t.name) = some (isB t n) := by
    intro t n hn
    simp only [List.mem_cons, List.not_mem_nil, or_false] at hn
    cases t <;> rcases hn with rfl | rfl | rfl | rfl | rfl | rfl | rfl <;> first | rfl | decide +kernel
  intro t h x n e
  refine key t n ?_
  cases x <;> simp only [clsP] at e <;> first | (cases e; simp) | (split at e <;> cases e <;> simp) | cases e
theorem s_isi {p p2 : Pos} (m : Match X c G gl k J ex) (t : Ty) (hg : Gl X "isinstance") (hm : X.mg "isinstance" = none) (hg2 : Gl X (t.name : Str)) (hm2 : X.mg (t.name : Str) = none) (ha : PE X a (tE X.K J wa)) (ma : MonE wa)
    (he : starEach [a, .Name (t.name : Str) p2] X.env = (false, eval a X.env) :: starEach [.Name (t.name : Str) p2] X.env) : PE X (.Call (.Name "isinstance" p) [a, .Name (t.name : Str) p2] [] pos) (tE X.K J (w1 (opIsi t) wa)) := by
  have hT : PE X (.Name (t.name : Str) p2) (tC (.ty t.name)) := by
    cases t <;> exact pe_bltn hg2 hm2 (by decide +kernel) rfl
  have base := pe_callB (pos := pos) (p := p) (call_isi (X := X)) hg hm PyProof.Rows.boot_isinstance (pa_cons ha (pa_cons hT pa_nil) he) (by decide) (by decide) he rfl
  refine ⟨fun pins s σ H Q I ⟨A, ρ, h, j, rs, r, hw⟩ => base.run pins s σ H Q I ?_⟩
  refine tE_of m.jj j rs r ma hw fun x h1 v H1 ⟨n, e, q⟩ j1 rs1 m1 r1 rv => ?_
  exact ⟨v, .ty t.name, .type n, .type t.name, _, rfl, .ty _, tyx_of r1 rv e, kit_b t e, q _ H1 m1 r1 (.bl _)⟩

/-! ### more stores -/
def wPar3 (i j l : Nat) (wl : WA) : WS := fun ρ h D => wl ρ h fun xs h1 => ∃ x y z, xs = [x, y, z] ∧ D.nx (((ρ.set i (some x)).set j (some y)).set l (some z)) h1
theorem mono_par3 {i j l : Nat} (ml : MonA wl) : MonS (wPar3 i j l wl) := fun ρ h D D' le z => ml _ _ _ _ (fun xs h1 ⟨x, y, u, e, z⟩ => ⟨x, y, u, e, le.nx _ _ z⟩) z
theorem repL3 {K : Frag} {H : Hp} {x y z : PV} {xs : List V} (l : RepL K H [x, y, z] xs) : ∃ v w u, xs = [v, w, u] ∧ RepV K H x v ∧ RepV K H y w ∧ RepV K H z u := by
  cases l with
  | cons r t =>
    cases t with
    | cons r2 t2 =>
      cases t2 with
      | cons r3 t3 => cases t3; exact ⟨_, _, _, rfl, r, r2, r3⟩
theorem s_par3 {i j l : Nat} {x y z : Str} {px py pz pt pt2 : Pos} {kt k2 : Nat} (m : Match X c G gl k J ex) (hi : X.N[i]? = some x) (hj : X.N[j]? = some y) (hl : X.N[l]? = some z) (hij : i ≠ j) (hil : i ≠ l) (hjl : j ≠ l) (hx : X.env.scope.names.lookup x = some .local) (hy : X.env.scope.names.lookup y = some .local) (hz : X.env.scope.names.lookup z = some .local)
    (ha : PA X [a, b, d] (tA X.K J wl)) (ml : MonA wl) (hw : swappedStores [.Tuple [.Name x px, .Name y py, .Name z pz] kt pt] (.Tuple [a, b, d] k2 pt2) X.env = pure (some [x, y, z])) (hs : swapsWithSole [.Tuple [.Name x px, .Name y py, .Name z pz] kt pt] (.Tuple [a, b, d] k2 pt2) pos.line X.env = pure false) :
    PS X (.Assign [.Tuple [.Name x px, .Name y py, .Name z pz] kt pt] (.Tuple [a, b, d] k2 pt2) pos) (tS X.K J (wPar3 i j l wl)) := by
  refine ⟨fun pins s σ H D I ⟨A, ρ, h, jw, rs, r, hw'⟩ => (ps_par3 m.calm (m.N ▸ m.nd) hi hj hl hij hil hjl hx hy hz ha hw hs).run pins s σ H D I ?_⟩
  refine tA_of m.jj jw rs r ml hw' fun xs h1 vs H1 ⟨z1, u1, z2, e, p⟩ j1 rs1 m1 r1 rl => ?_
  subst e
  obtain ⟨v, w, u, rfl, rz, ru, rw'⟩ := repL3 rl
  exact ⟨v, w, u, rfl, p _ _ m1 (((rs1.set i rz).set j ru).set l rw') r1⟩
/-- o[i], target = value -/
def wSubp (wo wi : WE) (t : ST) (wv : WE) : WS := fun ρ h D => wv ρ h fun v h1 => ∃ x y, v = .tup [x, y] ∧ wo ρ h1 fun o h2 => wi ρ h2 fun i h3 => setOp o i x h3 fun h4 => ∃ ρ2, t.set y ρ = some ρ2 ∧ D.nx ρ2 h4
theorem mono_subp {wo wi wv : WE} {t : ST} (mo : MonE wo) (mi : MonE wi) (mv : MonE wv) : MonS (wSubp wo wi t wv) := fun ρ h D D' l z =>
  mv _ _ _ _ (fun v h1 ⟨x, y, e, z⟩ => ⟨x, y, e, mo _ _ _ _ (fun o h2 z => mi _ _ _ _ (fun i h3 z => mono_setOp (fun h4 ⟨ρ2, e, z⟩ => ⟨ρ2, e, l.nx _ _ z⟩) z) z) z⟩) z
theorem s_subp {wo wi wv : WE} {t : ST} {kt : Nat} {pt p2 : Pos} (m : Match X c G gl k J ex) (ho : PE X a (tE X.K J wo)) (hi : PE X b (tE X.K J wi)) (hv : PE X d (tE X.K J wv)) (mo : MonE wo) (mi : MonE wi) (mv : MonE wv) (hg : PG X tg (t.g X.K))
    (hs : swapsWithSole [.Tuple [.Subscript a b p2, tg] kt pt] d pos.line X.env = pure false) (hw : swappedStores [.Tuple [.Subscript a b p2, tg] kt pt] d X.env = pure none)
    (ht : assignEach [tg] X.env = [(false, assign tg X.env)])
    (hset : ∀ v, assign (.Subscript a b p2) X.env v = (do
      let ov ← holding [v] (eval a X.env)
      let iv ← holding [v, ov] (eval b X.env)
      standAt p2
      holding [v, ov, iv] (setItem ov iv v)
      release [v, ov, iv] [])) : PS X (.Assign [.Tuple [.Subscript a b p2, tg] kt pt] d pos) (tS X.K J (wSubp wo wi t wv)) := by
  have e2 : assignEach [.Subscript a b p2, tg] X.env = (false, assign (.Subscript a b p2) X.env) :: assignEach [tg] X.env := rfl
  have g2 : PGs X [.Subscript a b p2, tg] (gCons (gSub (tE X.K J wo) (tE X.K J wi) (lSet X.K)) (gCons (t.g X.K) gNil)) :=
    pgs_cons (pg_sub ho hi ok_set hset) (pgs_cons hg pgs_nil (by rw [ht]; rfl)) (by rw [e2]; rfl)
  have gt : PG X (.Tuple [.Subscript a b p2, tg] kt pt) (gTup X.K 2 (gCons (gSub (tE X.K J wo) (tE X.K J wi) (lSet X.K)) (gCons (t.g X.K) gNil))) :=
    pg_tup m.calm g2 (by rw [e2, ht]; rfl) (by rw [e2, ht]; rfl)
  refine ⟨fun pins s σ H D I ⟨A, ρ, h, j, rs, r, hw'⟩ => (ps_asg hv gt hs hw rfl).run pins s σ H D I ?_⟩
  refine tE_of m.jj j rs r mv hw' fun v h1 vv H1 ⟨x, y, e, p⟩ j1 rs1 m1 r1 rv => ?_
  subst e
  cases rv with
  | tup sq l =>
    obtain ⟨u, w, rfl, rx, ry⟩ := repL2 l
    refine ⟨_, _, rfl, sq, rfl, u, [w], rfl, ?_⟩
    show tE X.K J wo σ H1 fun o H2 => tE X.K J wi σ H2 fun i H3 => lSet X.K o i u H3 fun H4 => gCons (t.g X.K) gNil [w] σ H4 D.nx
    refine tE_of m.jj j1 rs1 r1 mo p fun o h2 ov H2 p2 j2 rs2 m2 r2 ro => ?_
    refine tE_of m.jj j2 rs2 r2 mi p2 fun i h3 iv H3 p3 j3 rs3 m3 r3 ri => ?_
    refine ⟨A, o, i, x, h3, r3, ro.mon m3, ri, rx.mon (m2.trans m3), mono_setOp (fun h4 ⟨ρ2, es, z⟩ H4 m4 r4 => ?_) p3⟩
    refine ⟨w, [], rfl, ST.set_ok t ((ry.mon (m2.trans m3)).mon m4) (rs3.mon m4) es fun σ' rs' _ => ⟨rfl, z _ _ (m1.trans (m2.trans (m3.trans m4))) rs' r4⟩⟩

/-! ### enumerate, zip -/
def enumP (xs : List PV) : List PV := (List.range xs.length).map fun i => .tup [.int (i : Nat), xs.getD i .non]
theorem enumP_len (xs : List PV) : (enumP xs).length = xs.length := by simp [enumP]
theorem enumP_get {xs : List PV} {i : Nat} (hi : i < xs.length) : (enumP xs)[i]? = some (.tup [.int (i : Nat), xs.getD i .non]) := by
  unfold enumP
  rw [List.getElem?_map, List.getElem?_range hi] <;> rfl
def wEnum (wa : WE) : WI := fun ρ h Q => wa ρ h fun x h1 => ∃ xs, (asLstW h1 x = some xs ∨ x = .tup xs) ∧ Q ⟨enumP xs, keepOf x xs⟩ h1
theorem mono_enum (ma : MonE wa) : MonI (wEnum wa) := fun ρ h P Q k hw => ma _ _ _ _ (fun x h1 ⟨xs, e, q⟩ => ⟨xs, e, k _ _ q⟩) hw
theorem lst_later {K : Frag} {A : Addr → Prop} {H1 H : Hp} {h1 h : MH} {x : PV} {v : V} {xs : List PV} (r1 : Rel K A H1 h1) (rv : RepV K H1 x v) (e : asLstW h1 x = some xs) (m : Mon A H1 H) (r : Rel K A H h) (kp : keepOf x xs h) : ∃ a ws, v = .ref a ∧ SqL K H a ws ∧ RepL K H xs ws := by
  have hs : asSeq h1 x = some xs := by cases x <;> first | exact e | cases e
  obtain ⟨e2, rv2⟩ := seq_later r1 rv hs m r kp
  obtain ⟨q, ws, eq, hq, l⟩ := asSeq_sq r rv2 e2
  rcases hq with ⟨hq, _⟩ | ⟨_, rfl | rfl⟩
  · exact ⟨q, ws, eq, hq, l⟩
  · cases e
  · cases e
theorem ite_ok {K : Frag} {A : Addr → Prop} {H1 : Hp} {h1 : MH} {x : PV} {p : Addr} {xs : List PV} (r1 : Rel K A H1 h1) (rv : RepV K H1 x (.ref p)) (e : asLstW h1 x = some xs) : ItOk K A (Ite K p) ⟨enumP xs, keepOf x xs⟩ H1 := by
  have at_ : ∀ {H : Hp} {h : MH}, Mon A H1 H → Rel K A H h → keepOf x xs h → ∃ ws, SqL K H p ws ∧ RepL K H xs ws := by
    intro H h m r kp
    obtain ⟨a, ws, ea, hq, l⟩ := lst_later r1 rv e m r kp
    cases ea
    exact ⟨ws, hq, l⟩
  refine ⟨fun i H h hi m r kp => ?_, fun H h m r kp => ?_, fun i H h y H' hi m r kp yl => ?_⟩
  · obtain ⟨ws, hq, l⟩ := at_ m r kp
    have hi : i < xs.length := by rw [← enumP_len xs]; exact hi
    obtain ⟨w, e1, _⟩ := l.get (List.getElem?_eq_getElem hi)
    exact ⟨ws, w, hq, e1⟩
  · obtain ⟨ws, hq, l⟩ := at_ m r kp
    refine ⟨ws, hq, ?_⟩
    show ws.length ≤ (enumP xs).length
    rw [enumP_len, l.length]
    exact Nat.le_refl _
  · obtain ⟨ws, hq, l⟩ := at_ m r kp
    have hi : i < xs.length := by rw [← enumP_len xs]; exact hi
    obtain ⟨T, z, rfl, hT, rfl, yl⟩ := yl
    obtain ⟨u, e1, rz⟩ := l.get' (yl ws hq)
    refine ⟨_, enumP_get hi, ?_, .inr ⟨T, _, hT, rfl⟩⟩
    have eu : xs.getD i .non = u := by rw [List.getD_eq_getElem?_getD, e1] <;> rfl
    rw [eu]
    have mn : Mon A H (upd H T (.tup [.int (i : Nat), z])) := r.mon_new hT
    exact .tup (.inl (.of upd_same)) (.cons (.int _) (.cons (rz.mon mn) .nil))
theorem iteT_ok {K : Frag} {A : Addr → Prop} {H1 : Hp} {p : Addr} {xs : List PV} {kp : MH → Prop} (rv : RepV K H1 (.tup xs) (.ref p)) : ItOk K A (IteT K p) ⟨enumP xs, kp⟩ H1 := by
  have at_ : ∀ {H : Hp}, Mon A H1 H → ∃ ws, SqT K H p ws ∧ RepL K H xs ws := by
    intro H m
    cases rv.mon m with
    | tup s l => exact ⟨_, s, l⟩
  refine ⟨fun i H h hi m r kp => ?_, fun H h m r kp => ?_, fun i H h y H' hi m r kp yl => ?_⟩
  · obtain ⟨ws, hq, l⟩ := at_ m
    have hi : i < xs.length := by rw [← enumP_len xs]; exact hi
    obtain ⟨w, e1, _⟩ := l.get (List.getElem?_eq_getElem hi)
    exact ⟨ws, w, hq, e1⟩
  · obtain ⟨ws, hq, l⟩ := at_ m
    refine ⟨ws, hq, ?_⟩
    show ws.length = (enumP xs).length
    rw [enumP_len, l.length]
  · obtain ⟨ws, hq, l⟩ := at_ m
    have hi : i < xs.length := by rw [← enumP_len xs]; exact hi
    obtain ⟨T, z, rfl, hT, rfl, yl⟩ := yl
    obtain ⟨u, e1, rz⟩ := l.get' (yl ws hq)
    refine ⟨_, enumP_get hi, ?_, .inr ⟨T, _, hT, rfl⟩⟩
    have eu : xs.getD i .non = u := by rw [List.getD_eq_getElem?_getD, e1] <;> rfl
    rw [eu]
    have mn : Mon A H (upd H T (.tup [.int (i : Nat), z])) := r.mon_new hT
    exact .tup (.inl (.of upd_same)) (.cons (.int _) (.cons (rz.mon mn) .nil))
theorem s_enum {p tpos : Pos} {elts : List Expr} {kk : Nat} (jj : JOk J) (hg : Gl X "enumerate") (hm : X.mg "enumerate" = none) (ha : PE X a (tE X.K J wa)) (ma : MonE wa) (he : starEach [a] X.env = [(false, eval a X.env)]) : PI X (.Tuple elts kk tpos) (.Call (.Name "enumerate" p) [a] [] pos) (tI X.K J (wEnum wa)) := by
  have pa : PA X [a] (tCons (tE X.K J wa) tNil) := pa_cons ha pa_nil (by rw [he]; rfl)
  refine ⟨fun pins s σ H R I ⟨A, ρ, h, j, rs, r, hw⟩ => (pi_enumA (p := p) (pos := pos) hg hm pa he).run pins s σ H R I ?_⟩
  refine tE_of jj j rs r ma hw fun x h1 v H1 ⟨xs, e, q⟩ j1 rs1 m1 r1 rv => ?_
  rcases e with e | rfl
  · obtain ⟨l, vs, rfl, hq, rl⟩ := asLstW_sq r1 rv e
    exact ⟨l, vs, rfl, .inl ⟨hq, q _ H1 m1 r1 fun B sB => ite_ok (r1.sub sB) rv e⟩⟩
  · cases rv with
    | tup s1 l1 => exact ⟨_, _, rfl, .inr ⟨s1, q _ H1 m1 r1 fun B _ => iteT_ok (.tup s1 l1)⟩⟩
def zipP (xs ys : List PV) : List PV := (List.range (min xs.length ys.length)).map fun i => .tup [xs.getD i .non, ys.getD i .non]
theorem zipP_len (xs ys : List PV) : (zipP xs ys).length = min xs.length ys.length := by simp [zipP]
theorem zipP_get {xs ys : List PV} {i : Nat} (hi : i < min xs.length ys.length) : (zipP xs ys)[i]? = some (.tup [xs.getD i .non, ys.getD i .non]) := by
  unfold zipP
  rw [List.getElem?_map, List.getElem?_range hi] <;> rfl
def wZip (wa wb : WE) : WI := fun ρ h Q => wa ρ h fun x h1 => wb ρ h1 fun y h2 => ∃ xs ys, ((asLstW h2 x = some xs ∧ asLstW h2 y = some ys) ∨ (x = .tup xs ∧ y = .tup ys)) ∧ Q ⟨zipP xs ys, fun h => keepOf x xs h ∧ keepOf y ys h⟩ h2
theorem mono_zip (ma : MonE wa) (mb : MonE wb) : MonI (wZip wa wb) := fun ρ h P Q k hw => ma _ _ _ _ (fun x h1 z => mb _ _ _ _ (fun y h2 ⟨xs, ys, e, q⟩ => ⟨xs, ys, e, k _ _ q⟩) z) hw
theorem itz_ok {K : Frag} {A : Addr → Prop} {H1 : Hp} {h1 : MH} {x y : PV} {p q : Addr} {xs ys : List PV} (r1 : Rel K A H1 h1) (rv : RepV K H1 x (.ref p)) (ru : RepV K H1 y (.ref q)) (e : asLstW h1 x = some xs) (e2 : asLstW h1 y = some ys) : ItOk K A (Itz K p q) ⟨zipP xs ys, fun h => keepOf x xs h ∧ keepOf y ys h⟩ H1 := by
  have at_ : ∀ {H : Hp} {h : MH}, Mon A H1 H → Rel K A H h → (keepOf x xs h ∧ keepOf y ys h) → ∃ ws us, SqL K H p ws ∧ RepL K H xs ws ∧ SqL K H q us ∧ RepL K H ys us := by
    intro H h m r kp
    obtain ⟨a, ws, ea, hq, l⟩ := lst_later r1 rv e m r kp.1
    cases ea
    obtain ⟨b, us, eb, hq2, l2⟩ := lst_later r1 ru e2 m r kp.2
    cases eb
    exact ⟨ws, us, hq, l, hq2, l2⟩
  refine ⟨fun i H h hi m r kp => ?_, fun H h m r kp => ?_, fun i H h z H' hi m r kp yl => ?_⟩
  · obtain ⟨ws, us, hq, l, hq2, l2⟩ := at_ m r kp
    have hi : i < min xs.length ys.length := by rw [← zipP_len xs ys]; exact hi
    obtain ⟨w, e1, _⟩ := l.get (List.getElem?_eq_getElem (show i < xs.length by omega))
    obtain ⟨u, e2, _⟩ := l2.get (List.getElem?_eq_getElem (show i < ys.length by omega))
    exact ⟨ws, us, w, u, hq, hq2, e1, e2⟩
  · obtain ⟨ws, us, hq, l, hq2, l2⟩ := at_ m r kp
    refine ⟨ws, us, hq, hq2, ?_⟩
    show ws.length ≤ (zipP xs ys).length ∨ us.length ≤ (zipP xs ys).length
    rw [zipP_len, ← l.length, ← l2.length]
    omega
  · obtain ⟨ws, us, hq, l, hq2, l2⟩ := at_ m r kp
    have hi : i < min xs.length ys.length := by rw [← zipP_len xs ys]; exact hi
    obtain ⟨T, w, u, rfl, hT, rfl, yl, yl2⟩ := yl
    obtain ⟨a, e1, ra⟩ := l.get' (yl ws hq)
    obtain ⟨b, e2, rb⟩ := l2.get' (yl2 us hq2)
    refine ⟨_, zipP_get hi, ?_, .inr ⟨T, _, hT, rfl⟩⟩
    have ea : xs.getD i .non = a := by rw [List.getD_eq_getElem?_getD, e1] <;> rfl
    have eb : ys.getD i .non = b := by rw [List.getD_eq_getElem?_getD, e2] <;> rfl
    rw [ea, eb]
    have mn : Mon A H (upd H T (.tup [w, u])) := r.mon_new hT
    exact .tup (.inl (.of upd_same)) (.cons (ra.mon mn) (.cons (rb.mon mn) .nil))
theorem itzt_ok {K : Frag} {A : Addr → Prop} {H1 : Hp} {p q : Addr} {xs ys : List PV} {kp : MH → Prop} (rv : RepV K H1 (.tup xs) (.ref p)) (ru : RepV K H1 (.tup ys) (.ref q)) : ItOk K A (RZ.ItzT K p q) ⟨zipP xs ys, kp⟩ H1 := by
  have at_ : ∀ {H : Hp}, Mon A H1 H → ∃ ws us, SqT K H p ws ∧ RepL K H xs ws ∧ SqT K H q us ∧ RepL K H ys us := by
    intro H m
    cases rv.mon m with
    | tup s l =>
      cases ru.mon m with
      | tup s2 l2 => exact ⟨_, _, s, l, s2, l2⟩
  refine ⟨fun i H h hi m r kp => ?_, fun H h m r kp => ?_, fun i H h z H' hi m r kp yl => ?_⟩
  · obtain ⟨ws, us, hq, l, hq2, l2⟩ := at_ m
    have hi : i < min xs.length ys.length := by rw [← zipP_len xs ys]; exact hi
    obtain ⟨w, e1, _⟩ := l.get (List.getElem?_eq_getElem (show i < xs.length by omega))
    obtain ⟨u, e2, _⟩ := l2.get (List.getElem?_eq_getElem (show i < ys.length by omega))
    exact ⟨ws, us, w, u, hq, hq2, e1, e2⟩
  · obtain ⟨ws, us, hq, l, hq2, l2⟩ := at_ m
    refine ⟨ws, us, hq, hq2, ?_⟩
    show ws.length ≤ (zipP xs ys).length ∨ us.length ≤ (zipP xs ys).length
    rw [zipP_len, ← l.length, ← l2.length]
    omega
  · obtain ⟨ws, us, hq, l, hq2, l2⟩ := at_ m
    have hi : i < min xs.length ys.length := by rw [← zipP_len xs ys]; exact hi
    obtain ⟨T, w, u, rfl, hT, rfl, yl, yl2⟩ := yl
    obtain ⟨a, e1, ra⟩ := l.get' (yl ws hq)
    obtain ⟨b, e2, rb⟩ := l2.get' (yl2 us hq2)
    refine ⟨_, zipP_get hi, ?_, .inr ⟨T, _, hT, rfl⟩⟩
    have ea : xs.getD i .non = a := by rw [List.getD_eq_getElem?_getD, e1] <;> rfl
    have eb : ys.getD i .non = b := by rw [List.getD_eq_getElem?_getD, e2] <;> rfl
    rw [ea, eb]
    have mn : Mon A H (upd H T (.tup [w, u])) := r.mon_new hT
    exact .tup (.inl (.of upd_same)) (.cons (ra.mon mn) (.cons (rb.mon mn) .nil))
theorem s_zip {p tpos : Pos} {elts : List Expr} {kk : Nat} (jj : JOk J) (hg : Gl X "zip") (hm : X.mg "zip" = none) (ha : PE X a (tE X.K J wa)) (hb : PE X b (tE X.K J wb)) (ma : MonE wa) (mb : MonE wb) (he : starEach [a, b] X.env = (false, eval a X.env) :: starEach [b] X.env)
    (he2 : starEach [b] X.env = (false, eval b X.env) :: starEach [] X.env) (hpl : (backTo pos (starEach [b] X.env)).any (·.1) = false) : PI X (.Tuple elts kk tpos) (.Call (.Name "zip" p) [a, b] [] pos) (tI X.K J (wZip wa wb)) := by
  have pa : PA X [a, b] (tCons (tE X.K J wa) (tCons (tE X.K J wb) tNil)) := pa_cons ha (pa_cons hb pa_nil he2) he
  refine ⟨fun pins s σ H R I ⟨A, ρ, h, j, rs, r, hw⟩ => (RZ.pi_zipA (p := p) (pos := pos) hg hm pa he hpl).run pins s σ H R I ?_⟩
  refine tE_of jj j rs r ma hw fun x h1 v H1 p1 j1 rs1 m1 r1 rv => ?_
  refine tE_of jj j1 rs1 r1 mb p1 fun y h2 u H2 ⟨xs, ys, e, q⟩ j2 rs2 m2 r2 ru => ?_
  rcases e with ⟨e1, e2⟩ | ⟨rfl, rfl⟩
  · obtain ⟨l, vs, rfl, hq, rl⟩ := asLstW_sq r2 (rv.mon m2) e1
    obtain ⟨l2, us, rfl, hq2, rl2⟩ := asLstW_sq r2 ru e2
    exact ⟨l, l2, vs, us, rfl, .inl ⟨hq, hq2, q _ H2 (m1.trans m2) r2 fun B sB => itz_ok (r2.sub sB) (rv.mon m2) ru e1 e2⟩⟩
  · have rv2 := rv.mon m2
    cases rv2 with
    | tup s1 l1 =>
      cases ru with
      | tup s2 l2 =>
        exact ⟨_, _, _, _, rfl, .inr ⟨s1, s2, q _ H2 (m1.trans m2) r2 fun B _ => itzt_ok (.tup s1 l1) (.tup s2 l2)⟩⟩
end
end Ev

set_option Elab.async false
set_option linter.all false
set_option maxRecDepth 100000
set_option maxHeartbeats 4000000
/-! EvB: tuple.index from a place on. -/
namespace Ev.TI
open PySem PySem.SeqAt
open AutoSeq1 (wpAny_loadPart')
open MeetsSeq MeetsSeq2 MeetsSeq3 SeqRoads2
/-- for i in [a:n] by its list of numbers -/
theorem forIn_rngA {β : Type} {M : Model} {A : Around} {E : Value → Shared → Prop} {s : Shared} {a n : Nat} {hp : 0 < 1} (f : Nat → β → Sem (ForInStep β)) (I : List Nat → β → Shared → Prop) (Q : β → Shared → Prop)
    (turn : ∀ x rest b s, I (x :: rest) b s → wpAny M A (f x b) (fun r s' => match r with
      | .yield b' => I rest b' s'
      | .done b' => Q b' s') E s)
    (fin : ∀ b s, I [] b s → Q b s) (b : β) (h : I (List.range' a (n - a)) b s) : wpAny M A (forIn ({ start := a, stop := n, step := 1, step_pos := hp } : Std.Legacy.Range) b f) Q E s := by
  rw [Std.Legacy.Range.forIn_eq_forIn_range']
  simp only [Std.Legacy.Range.size, Nat.add_sub_cancel, Nat.div_one]
  exact wpAny_forIn_list f I Q turn fin _ b h
theorem tuple_indexFrom (l : Addr) (items : Array Value) (n : Nat) (dd : Option Addr) (sl : Array (Option Value)) (x : Value) (e : Value → Bool) (lo j : Nat) (t : Tok) (hj : j < items.size) (hlo : lo ≤ j)
    (hit : e items[j] = true) (hno : ∀ m (hm : m < items.size), lo ≤ m → m < j → e items[m] = false) :
    Meets (Builtin.«tuple.index» ⟨[.ref l, x, .int lo t], []⟩)
      (fun A R s => s.heap.get? l = some { cls := .type "tuple", dict := dd, data := .seq items n, slots := sl } ∧ (∀ y, y ∈ items → EqAt A.in1 s y x (e y)) ∧ R (.ok (.ret (.int j s.toks))) { s with toks := s.toks + 1 }) :=
  .of_wp fun prog w A R s h => by
    obtain ⟨hp, g, d, tk, os⟩ := s; obtain ⟨hl, he, h⟩ := h
    wp_walk using wpAny_loadPart' hl
    rw [AutoSeq1.idx_int]
    wp_walk using forIn_rngA _ (fun rest b s' => b.1 = none ∧ s' = ⟨hp, g, d, tk, os⟩ ∧ ∃ i, rest = List.range' i (items.size - i) ∧ lo ≤ i ∧ i ≤ j) _
    case turn =>
      rintro y rest b s' ⟨hb', rfl, i, hr, h1, h2⟩
      have hlt : i < items.size := by omega
      have e1 : items.size - i = (items.size - (i + 1)) + 1 := by omega
      rw [e1, List.range'_succ] at hr
      obtain ⟨rfl, hrest⟩ := List.cons.inj hr
      rw [Array.getElem?_eq_getElem hlt]
      refine wpAny_bind (he _ (Array.getElem_mem hlt) prog w _ _ ?_)
      by_cases hji : y = j
      · subst hji
        rw [hit]
        wp_walk
        exact ⟨_, rfl, h⟩
      · rw [hno y hlt h1 (by omega)]
        wp_walk
        exact ⟨rfl, rfl, y + 1, hrest, by omega, by omega⟩
    case fin =>
      rintro b s' ⟨hb', rfl, i, hr, h1, h2⟩
      exfalso
      have e1 : items.size - i = (items.size - (i + 1)) + 1 := by omega
      rw [e1, List.range'_succ] at hr
      cases hr
    case h =>
      have e1 : (max (if (lo : Int) < 0 then (lo : Int) + items.size else lo) 0).toNat = lo := by
        rw [if_neg (by omega)]
        omega
      refine ⟨rfl, rfl, lo, ?_, Nat.le_refl _, hlo⟩
      rw [e1, Nat.min_self]
end Ev.TI
namespace Ev
open PySem PySem.Spec PyProof.Rows L2
section
variable {X : Cx} {c : Cfg} {G : Ctx} {gl : Str → PV} {k : Nat} {J : Jw} {ex : Env → XV} {a b : Expr} {wa wb : WE} {pos : Pos}
/-- t.index(x, lo): the first place from lo on, ints -/
theorem mt_tixI : MtR X "tuple.index" (fun x xs H Q => ∃ (p : Addr) (ns : List Int) (z : Int) (lo j : Nat), x = .ref p ∧ xs = [.int z, .int lo] ∧ SqT X.K H p (ns.map V.int) ∧ lo ≤ j ∧ ns[j]? = some z ∧ (∀ m, lo ≤ m → m < j → ns[m]? ≠ some z) ∧ Q (.int (j : Nat)) H) := by
  intro pins s σ H x xs v us Q I rx rs h
  obtain ⟨p, ns, z, lo, j, rfl, rfl, hq, hlo, hz, hno, q⟩ := h
  cases rx
  obtain ⟨u, u2, rfl, ⟨t, rfl⟩, ⟨t2, rfl⟩⟩ := vals2 rs
  obtain ⟨its, r, pl, hsz⟩ := I.tuple hq
  obtain ⟨⟨cls, dd, dt, sl⟩, ho, hc, n, hd⟩ := pl
  simp only at hc hd
  subst hc
  subst hd
  have hl : its.toArray.size = ns.length := by rw [List.size_toArray, ← r.length, List.length_map]
  have hj : j < its.toArray.size := by rw [hl]; exact (List.getElem?_eq_some_iff.mp hz).1
  have read : ∀ (m : Nat) (hm : m < its.toArray.size), ∃ y t', ns[m]? = some y ∧ its.toArray[m] = Value.int y t' := fun m hm => by
    have hm' : m < ns.length := by rw [← hl]; exact hm
    obtain ⟨w, hw, t', hw'⟩ := r.get (i := m) (x := .int ns[m]) (by simp [hm'])
    refine ⟨ns[m], t', List.getElem?_eq_getElem hm', ?_⟩
    have e := (List.getElem?_eq_some_iff.mp hw).2
    rw [← hw', ← e]
    simp
  have flat : (ns.map V.int).all flatV = true := by
    rw [List.all_map]
    exact List.all_eq_true.mpr fun _ _ => rfl
  refine call_meets PySem.F.slot_tuple_index ⟨_, ho, rfl⟩ PySem.F.entry_tuple_index (PySem.F.args_tuple_index_3 _ _ _) (TI.tuple_indexFrom p its.toArray n dd sl (.int z t) (eqU (.int z)) lo j t2 hj hlo ?_ ?_)
    ⟨ho, fun w hw => mem_eqAt (x := .int z) ⟨t, rfl⟩ rfl r flat w (by simpa using hw), ⟨.int (j : Nat), H, I.tok _, ⟨_, rfl⟩, q⟩⟩
  · obtain ⟨y, t', h1, h2⟩ := read j hj
    rw [hz] at h1
    cases h1
    rw [h2]
    show (z == z) = true
    exact beq_self_eq_true z
  · intro m hm hm1 hm2
    obtain ⟨y, t', h1, h2⟩ := read m hm
    rw [h2]
    show (y == z) = false
    exact beq_eq_false_iff_ne.mpr fun e => hno m hm1 hm2 (e ▸ h1)
/-- the first place of z from lo on -/
def opTix (lo : Nat) : O2 := fun x y h Q => ∃ (ns : List Int) (z : Int) (j : Nat), x = .tpl (ns.map .int) ∧ y = .int z ∧ lo ≤ j ∧ ns[j]? = some z ∧ (∀ m, lo ≤ m → m < j → ns[m]? ≠ some z) ∧ Q (.int (j : Nat)) h
theorem mono_opTix (lo : Nat) : Mon2 (opTix lo) := fun x y h P Q k ⟨ns, z, j, e1, e2, h1, h2, h3, q⟩ => ⟨ns, z, j, e1, e2, h1, h2, h3, k _ _ q⟩
def isTupP : PV → Prop
  | .tpl _ => True
  | _ => False
def wTix (lo : Nat) (wa wb : WE) : WE := fun ρ h Q => wa ρ h fun x h1 => isTupP x ∧ wb ρ h1 fun y h2 => opTix lo x y h2 Q
theorem mono_tix {lo : Nat} (ma : MonE wa) (mb : MonE wb) : MonE (wTix lo wa wb) := fun ρ h P Q k hw => ma _ _ _ _ (fun x h1 ⟨e, z⟩ => ⟨e, mb _ _ _ _ (fun y h2 z => mono_opTix lo _ _ _ _ _ k z) z⟩) hw
theorem s_tix {apos cp : Pos} {kk : Nat} (m : Match X c G gl k J ex) (lo : Nat) (ha : PE X a (tE X.K J wa)) (hb : PE X b (tE X.K J wb)) (ma : MonE wa) (mb : MonE wb) (hbase : attributeBase a "index" X.env (eval a X.env) = eval a X.env)
    (he : starEach [b, .Constant (.int lo) kk cp] X.env = (false, eval b X.env) :: starEach [.Constant (.int lo) kk cp] X.env) (hline : (apos.endLine == pos.line) = true) :
    PE X (.Call (.Attribute a "index" apos) [b, .Constant (.int lo) kk cp] [] pos) (tE X.K J (wTix lo wa wb)) := by
  have pc : PE X (.Constant (.int lo) kk cp) (tC (.int lo)) := pe_int
  have pa : PA X [b, .Constant (.int lo) kk cp] (tCons (tE X.K J wb) (tCons (tC (.int lo)) tNil)) := pa_cons hb (pa_cons pc pa_nil) he
  have hfew : ((backTo pos (starEach [b, .Constant (.int lo) kk cp] X.env)).all (fun x => !x.1) && (backToKw pos (keywordEach [] X.env)).all (fun x => x.1.isSome) && decide ([b, .Constant (.int lo) kk cp].length + ([] : List Keyword).length + (if ([] : List Keyword).isEmpty then 0 else 1) < 30)) = true := by
    rw [he]; rfl
  refine ⟨fun pins s σ H Q I ⟨A, ρ, h, j, rs, r, hw⟩ => ?_⟩
  have ta : tE X.K J wa σ H fun v H1 => ∃ (p : Addr) (vs : List V), v = .ref p ∧ TpD H1 p vs ∧ tCons (tE X.K J wb) (tCons (tC (.int lo)) tNil) σ H1 fun us H2 => ∃ (ns : List Int) (z : Int) (j : Nat), us = [.int z, .int lo] ∧ SqT X.K H2 p (ns.map V.int) ∧ lo ≤ j ∧ ns[j]? = some z ∧ (∀ m, lo ≤ m → m < j → ns[m]? ≠ some z) ∧ Q (.int (j : Nat)) H2 := by
    refine tE_of m.jj j rs r ma hw fun x h1 v H1 ⟨it, p⟩ j1 rs1 m1 r1 rv => ?_
    unfold isTupP at it
    split at it
    · cases rv with
      | tpl sq l =>
        refine ⟨_, _, rfl, sq, ?_⟩
        show tE X.K J wb σ H1 fun y H2 => _
        refine tE_of m.jj j1 rs1 r1 mb p fun y h2 u H2 ⟨ns, z, n, e1, e2, c1, c2, c3, q⟩ j2 rs2 m2 r2 ru => ?_
        subst e2
        cases ru
        cases e1
        have el := (l.mon m2).map_int
        subst el
        exact ⟨ns, z, n, rfl, m2.sqT sq.sq, c1, c2, c3, q _ H2 (m1.trans m2) r2 (.int _)⟩
    · exact it.elim
  refine wpAny_Call_method_late hbase hfew hline rfl (thn (ha.run pins s σ H _ I ta) fun v s1 ⟨x, H1, I1, r1, p, vs, ex, ⟨od, hod, odd⟩, q1⟩ => ?_)
  subst ex
  cases r1
  obtain ⟨ho, _, _, _, ob, ho', hc, _⟩ := I1.hok p _ hod
  rw [ho] at ho'
  cases ho'
  refine ⟨"tuple", "tuple.index", PySem.F.plainAttrs_tuple, PySem.F.slot_tuple_index, PySem.F.type_tuple_index, ⟨od, ho, hc⟩, fun a e => by cases e; exact ⟨od, ho, odd⟩, ?_⟩
  · have hA := pa.run pos pins s1 σ H1 _ I1 q1
    rw [he] at hA ⊢
    refine Calls.callWith_builtin rfl (Calls.evalArgs_plain ?_)
    exact thn hA fun us s2 ⟨vs2, H2, I2, r2, ns, z, n, e1, sq2, c1, c2, c3, q⟩ => mt_tixI pins s2 σ H2 (.ref p) vs2 (.ref p) us Q I2 rfl r2 ⟨p, ns, z, lo, n, rfl, e1, sq2, c1, c2, c3, q⟩
end
end Ev

set_option Elab.async false
set_option linter.all false
set_option maxRecDepth 100000
set_option maxHeartbeats 4000000
/-! EvC: instances of the module's own classes: attributes, properties, methods, made. -/
namespace Ev
open PySem PySem.Spec PyProof.Rows L2
/-! ### attributes -/
def putA (f : Str) (v : PV) : List (Str × PV) → List (Str × PV)
  | [] => [(f, v)]
  | (g, x) :: r => if g = f then (g, v) :: r else (g, x) :: putA f v r
section
variable {K : Frag} {H : Hp} {A : Addr → Prop} {h : MH}
theorem KR.look {f : Str} : ∀ {fs : List (Str × PV)} {ws : List (Str × V)} {v : PV}, KR K H fs ws → fs.lookup f = some v → ∃ w, ws.lookup f = some w ∧ RepV K H v w
  | _, _, _, .nil, e => by cases e
  | _, _, v, .cons (a := a) (b := b) r t, e => by
    obtain ⟨g, x⟩ := a
    obtain ⟨g2, y⟩ := b
    obtain ⟨r1, r2⟩ := r
    simp only at r1 r2
    subst r1
    by_cases z : (f == g) = true
    · simp only [List.lookup, z] at e ⊢
      cases e
      exact ⟨y, rfl, r2⟩
    · simp only [Bool.not_eq_true] at z
      simp only [List.lookup, z] at e ⊢
      exact KR.look t e
theorem KR.nolook {f : Str} : ∀ {fs : List (Str × PV)} {ws : List (Str × V)}, KR K H fs ws → fs.lookup f = none → ws.lookup f = none
  | _, _, .nil, e => rfl
  | _, _, .cons (a := a) (b := b) r t, e => by
    obtain ⟨g, x⟩ := a
    obtain ⟨g2, y⟩ := b
    obtain ⟨r1, r2⟩ := r
    simp only at r1 r2
    subst r1
    by_cases z : (f == g) = true
    · simp only [List.lookup, z] at e
      cases e
    · simp only [Bool.not_eq_true] at z
      simp only [List.lookup, z] at e ⊢
      exact KR.nolook t e
theorem KR.len : ∀ {fs : List (Str × PV)} {ws : List (Str × V)}, KR K H fs ws → fs.length = ws.length
  | _, _, .nil => rfl
  | _, _, .cons _ t => by rw [List.length_cons, List.length_cons, KR.len t]
theorem KR.put {f : Str} {v : PV} {w : V} (rv : RepV K H v w) : ∀ {fs : List (Str × PV)} {ws : List (Str × V)}, KR K H fs ws → KR K H (putA f v fs) (putF f w ws)
  | _, _, .nil => .cons ⟨rfl, rv⟩ .nil
  | _, _, .cons (a := a) (b := b) r t => by
    obtain ⟨g, x⟩ := a
    obtain ⟨g2, y⟩ := b
    obtain ⟨r1, r2⟩ := r
    simp only at r1 r2
    subst r1
    unfold putA putF
    split
    · exact .cons ⟨rfl, rv⟩ t
    · exact .cons ⟨rfl, r2⟩ (KR.put rv t)
end
section
variable {X : Cx} {c : Cfg} {G : Ctx} {gl : Str → PV} {k : Nat} {J : Jw} {ex : Env → XV} {a b : Expr} {wa wb : WE} {pos apos : Pos} {e : Expr} {es : List Expr} {wl : WA}
/-- e.f, an attribute -/
def wFld (C f : Str) (wa : WE) : WE := fun ρ h Q => wa ρ h fun x h1 => ∃ p fs v, x = .ref p ∧ h1 p = some (.ins C fs) ∧ fs.lookup f = some v ∧ Q v h1
theorem mono_fld {C f : Str} (ma : MonE wa) : MonE (wFld C f wa) := fun ρ h P Q k hw => ma _ _ _ _ (fun x h1 ⟨p, fs, v, e1, e2, e3, q⟩ => ⟨p, fs, v, e1, e2, e3, k _ _ q⟩) hw
theorem s_fld (m : Match X c G gl k J ex) {C f : Str} (ha : PE X a (tE X.K J wa)) (ma : MonE wa) (cl : Cls X.K (He.ga X.K C)) (na : NoAttr X.K (He.ga X.K C) f) (hb : attributeBase a f X.env (eval a X.env) = eval a X.env) : PE X (.Attribute a f pos) (tE X.K J (wFld C f wa)) := by
  refine ⟨fun pins s σ H Q I ⟨A, ρ, h, j, rs, r, hw⟩ => (pe_fld ha hb).run pins s σ H Q I ?_⟩
  refine tE_of m.jj j rs r ma hw fun x h1 u H1 ⟨p, fs, v, e1, e2, e3, q⟩ j1 rs1 m1 r1 rv => ?_
  subst e1
  cases rv
  obtain ⟨dx, ws, e4, kr⟩ := r1.obj p _ e2
  obtain ⟨w, lw, rw'⟩ := kr.look e3
  exact ⟨p, _, dx, ws, w, rfl, e4, cl, na, lw, q _ _ m1 r1 rw'⟩
/-- o.f = v -/
def wFst (C f : Str) (wo wv : WE) : WS := fun ρ h D => wv ρ h fun v h1 => wo ρ h1 fun x h2 => ∃ p fs, x = .ref p ∧ h2 p = some (.ins C fs) ∧ fs.length < 1000 ∧ D.nx ρ (mupd h2 p (.ins C (putA f v fs)))
theorem mono_fst {C f : Str} {wo wv : WE} (mo : MonE wo) (mv : MonE wv) : MonS (wFst C f wo wv) := fun ρ h D D' l z => mv _ _ _ _ (fun v h1 z => mo _ _ _ _ (fun x h2 ⟨p, fs, e1, e2, e3, q⟩ => ⟨p, fs, e1, e2, e3, l.nx _ _ q⟩) z) z
theorem s_fst (m : Match X c G gl k J ex) {C f : Str} {wo wv : WE} {spos : Pos} (ho : PE X a (tE X.K J wo)) (hv : PE X b (tE X.K J wv)) (mo : MonE wo) (mv : MonE wv) (cl : Cls X.K (He.ga X.K C)) (na : NoAttr X.K (He.ga X.K C) f)
    (hs : swapsWith b (some (.Attribute a f pos)) spos.line X.env = pure false) : PS X (.Assign [.Attribute a f pos] b spos) (tS X.K J (wFst C f wo wv)) := by
  refine ⟨fun pins s σ H D I ⟨A, ρ, h, j, rs, r, hw⟩ => (ps_fld ho hv hs).run pins s σ H D I ?_⟩
  refine tE_of m.jj j rs r mv hw fun v h1 u H1 p1 j1 rs1 m1 r1 rv => ?_
  refine tE_of m.jj j1 rs1 r1 mo p1 fun x h2 w H2 ⟨p, fs, e1, e2, e3, q⟩ j2 rs2 m2 r2 rx => ?_
  subst e1
  cases rx
  obtain ⟨dx, ws, e4, kr⟩ := r2.obj p _ e2
  have rv2 := rv.mon m2
  have mw : Mon A H2 (upd H2 p (.ins (He.ga X.K C) dx (putF f u ws))) := r2.mon_write e2
  refine ⟨p, _, dx, ws, rfl, e4, cl, na, by rw [← kr.len]; exact e3, q _ _ ((m1.trans m2).trans mw) (rs2.mon mw) (r2.write e2 ⟨dx, _, upd_same, (KR.put rv2 kr).mon mw⟩)⟩
/-- e.f, a property: its getter is called -/
def wPrp (C : Str) (sp : Spec) (wa : WE) : WE := fun ρ h Q => wa ρ h fun x h1 => ∃ p fs, x = .ref p ∧ h1 p = some (.ins C fs) ∧ sp [.ref p] h1 Q noX
theorem mono_prp {C : Str} {sp : Spec} (hs : ∀ as h (P Q : PK) (R T : XV), (∀ x h, P x h → Q x h) → (∀ c fs h, R c fs h → T c fs h) → sp as h P R → sp as h Q T) (ma : MonE wa) : MonE (wPrp C sp wa) :=
  fun ρ h P Q k hw => ma _ _ _ _ (fun x h1 ⟨p, fs, e1, e2, q⟩ => ⟨p, fs, e1, e2, hs _ _ _ _ _ _ k (fun _ _ _ z => z) q⟩) hw
theorem s_prp (m : Match X c G gl k J ex) {C f : Str} {sp : Spec} (hsm : ∀ as h (P Q : PK) (R T : XV), (∀ x h, P x h → Q x h) → (∀ c fs h, R c fs h → T c fs h) → sp as h P R → sp as h Q T)
    (ha : PE X a (tE X.K J wa)) (ma : MonE wa) (O : PrpOk X.prog X.w X.K X.mg X.base k C f sp) (hb : attributeBase a f X.env (eval a X.env) = eval a X.env) : PE X (.Attribute a f pos) (tE X.K J (wPrp C sp wa)) := by
  obtain ⟨cl, ⟨pa, g, fd, sf, hp, bd, F⟩, hz⟩ := O
  refine ⟨fun pins s σ H Q I ⟨A, ρ, h, j, rs, r, hw⟩ => ?_⟩
  have key : tE X.K J wa σ H fun v H1 => ∃ (p : Addr) (h1 : MH) (fs : List (Str × PV)), v = .ref p ∧ h1 p = some (.ins C fs) ∧ Rel X.K A H1 h1 ∧ sp [.ref p] h1 (up X.K A H1 Q) noX :=
    tE_of m.jj j rs r ma hw fun x h1 u H1 ⟨p, fs, e1, e2, q⟩ j1 rs1 m1 r1 rv => by
      subst e1
      cases rv
      exact ⟨p, h1, fs, rfl, e2, r1, hsm _ _ _ _ _ _ (fun _ _ z => up.trans m1 z) (fun _ _ _ z => z) q⟩
  refine attr_of hb (thn (ha.run pins s σ H _ I key) fun u s1 ⟨v, H1, I1, rv, p, h1, fs, ev, e2, r1, q⟩ => ?_)
  subst ev
  obtain rfl : u = Value.ref p := rv
  obtain ⟨dx, ws, e4, kr⟩ := r1.obj p _ e2
  cases k with
  | zero => exact (hz rfl _ _ _ _ q).elim
  | succ k =>
  have F := F k rfl
  have hr : Room (k + 1) X.A := m.room
  obtain ⟨mA, O, _, _, _, _⟩ := ins_get I1.hok e4
  obtain ⟨od, Jk, _⟩ := O.look
  obtain ⟨rest, hrec⟩ := hp.rec_
  have I2 := I1.tok (s1.toks + 1)
  have hc : (PySem.W.clsIn X.K (He.ga X.K C)).isSome = true := by
    obtain ⟨cd, hc, _⟩ := PySem.W.any_some cl.hd
    rw [hc]
    rfl
  refine PySem.W.get_bind I1.kIn Jk (PySem.W.plainGet_of (cl.get f)).1 (PySem.W.findObj_data hc hp.at_ hp.get hp.tak) (PySem.W.plainGet_of (cl.get f)).2 (wpAny_call (PySem.W.prop_get (s := { s1 with toks := s1.toks + 1 }) I1.kIn hrec ?_))
  refine codeAny_mono (F.run X.A.in1 X.stack { s1 with toks := s1.toks + 1 } H1 ⟨[.ref p], []⟩ [.ref p] [.ref p] Q (fun _ _ _ => False) m.gd hr.in1 I2.env0.in1 (bd _ [.ref p] I2.kIn rfl) (.cons rfl .nil) rfl
    ⟨A, [.ref p], h1, r1, .cons (.ref p) .nil, hsm _ _ _ _ _ _ (fun _ _ z => z) (fun _ _ _ z => z.elim) q⟩) fun r s' hq => ?_
  cases r with
  | error er =>
    obtain ⟨_, _, _, _, _, _, _, _, _, _, _, _, z⟩ := hq
    exact z.elim
  | ok fl =>
    cases fl with
    | ret u =>
      obtain ⟨v, H', I3, rv, q3⟩ := I2.after hq
      show wpAny _ _ (handedOut u) _ _ _
      rw [PySem.W.handedOut_of (handed_of rv)]
      exact wpAny_pure ⟨v, H', I3, rv, q3⟩
    | next => exact False.elim hq
    | brk => exact False.elim hq
    | cont => exact False.elim hq
theorem mcall_eq {o : Expr} {mn : Str} {apos pos : Pos} {args : List Expr} {env : PySem.Env} (hb : attributeBase o mn env (eval o env) = eval o env) (hf : methodCallForm (args.length + 0) (backTo pos (starEach args env)) (backToKw pos (keywordEach [] env)) = true) (hl : (apos.endLine == pos.line) = true) :
    eval (.Call (.Attribute o mn apos) args [] pos) env = (do
      let ov ← eval o env
      standAt apos.atName
      let (f, first) ← holding [ov] (getMethod ov mn (do return (← importBound o env).getD true))
      callWith pos f first (backTo pos (starEach args env)) (backToKw pos (keywordEach [] env))) := by
  have e : eval (.Call (.Attribute o mn apos) args [] pos) env = (do
      let ov ← attributeBase o mn env (eval o env)
      standAt apos.atName
      methodCall o mn apos pos env ov (args.length + 0) (backTo pos (starEach args env)) (backToKw pos (keywordEach [] env))) := by
    cases o <;> rfl
  rw [e, hb]
  unfold methodCall calleeOf methodCallPos
  rw [hf]
  simp only [hl, Bool.not_true, Bool.false_or, if_true]
  rfl
/-- o.m(..) -/
def wMt (C mn : Str) (sp : Spec) (ex : Env → XV) (wa : WE) (wl : WA) : WE := fun ρ h Q => wa ρ h fun x h1 => ∃ p, x = .ref p ∧ (∃ fs, h1 p = some (.ins C fs) ∧ fs.lookup mn = none) ∧ wl ρ h1 fun xs h2 => sp (x :: xs) h2 Q (ex ρ)
theorem mono_mt {C mn : Str} {sp : Spec} {ex : Env → XV} (hs : ∀ as h (P Q : PK) (R T : XV), (∀ x h, P x h → Q x h) → (∀ c fs h, R c fs h → T c fs h) → sp as h P R → sp as h Q T) (ma : MonE wa) (ml : MonA wl) : MonE (wMt C mn sp ex wa wl) :=
  fun ρ h P Q k hw => ma _ _ _ _ (fun x h1 ⟨p, e1, e2, q⟩ => ⟨p, e1, e2, ml _ _ _ _ (fun xs h2 q => hs _ _ _ _ _ _ k (fun _ _ _ z => z) q) q⟩) hw
theorem s_mt (m : Match X c G gl k J ex) {C mn key : Str} {ps : List Str} (ha : PE X a (tE X.K J wa)) (ma : MonE wa) (hl : PA X (e :: es) (tA X.K J wl)) (ml : MonA wl) (O : MtOk X.prog X.w X.K X.mg X.base k C mn ps (G.fn key))
    (hn : es.length + 2 = ps.length) (len : ∀ {ρ h Q}, wl ρ h Q → wl ρ h fun xs h1 => xs.length = es.length + 1 ∧ Q xs h1)
    (he : starEach (e :: es) X.env = (false, eval e X.env) :: starEach es X.env) (hpl : (backTo pos (starEach es X.env)).any (·.1) = false)
    (hb : attributeBase a mn X.env (eval a X.env) = eval a X.env) (hf : methodCallForm ((e :: es).length + 0) (backTo pos (starEach (e :: es) X.env)) (backToKw pos (keywordEach [] X.env)) = true) (hline : (apos.endLine == pos.line) = true) : PE X (.Call (.Attribute a mn apos) (e :: es) [] pos) (tE X.K J (wMt C mn (G.fn key) ex wa wl)) := by
  obtain ⟨cl, fa, fd, hm, F, bd⟩ := O
  have ht := mcall_eq (o := a) (mn := mn) (apos := apos) (pos := pos) (args := e :: es) (env := X.env) hb hf hline
  refine ⟨fun pins s σ H Q I ⟨A, ρ, h, j, rs, r, hw⟩ => ?_⟩
  have key1 : tE X.K J wa σ H fun v H1 => ∃ (p : Addr) (h1 : MH) (fs : List (Str × PV)), v = .ref p ∧ h1 p = some (.ins C fs) ∧ fs.lookup mn = none ∧ Rel X.K A H1 h1 ∧
      tA X.K J wl σ H1 fun vs H2 => vs.length + 1 = ps.length ∧ ∃ (ρ : Env) (h : MH) (as : List PV), J A H2 ∧ RepSt X.K H2 ρ σ ∧ Rel X.K A H2 h ∧ RepL X.K H2 as vs ∧ G.fn key (.ref p :: as) h (up X.K A H2 Q) (ex ρ) :=
    tE_of m.jj j rs r ma hw fun x h1 u H1 ⟨p, e1, ⟨fs, e2, e3⟩, q⟩ j1 rs1 m1 r1 rv => by
      subst e1
      cases rv
      refine ⟨p, h1, fs, rfl, e2, e3, r1, tA_of m.jj j1 rs1 r1 ml (len q) fun xs h2 vs H2 q2 j2 rs2 m2 r2 rl => ⟨by rw [← rl.length, q2.1]; omega, ρ, h2, xs, j2, rs2, r2, rl, G.mono _ _ _ _ _ _ _ (fun _ _ z => up.trans (m1.trans m2) z) (fun _ _ _ z => z) q2.2⟩⟩
  refine PySem.W.methodCall_KW (pl := do return (← importBound a X.env).getD true) (thn (ha.run pins s σ H _ I key1) fun u s1 ⟨v, H1, I1, rv, p, h1, fs, ev, e2, e3, r1, q⟩ => ?_) ht
  subst ev
  obtain rfl : u = Value.ref p := rv
  obtain ⟨dx, ws, e4, kr⟩ := r1.obj p _ e2
  refine getmeth_ok I1 e4 cl hm (kr.nolook e3) ?_
  refine PySem.W.callWith_K (first := [.ref p]) (h₀ := X.base) I.ok.mod.kin hm.kp (thn (hl.run pos pins s1 σ H1 _ I1 q) fun us s2 ⟨vs2, H2, I2, rv2, hl2, ρ2, h2, as, j2, rs2, r2, rl, q2⟩ => ⟨I2.kIn, ?_⟩) he hpl
  have b := bd s2 (.ref p :: us) I2.kIn (by rw [List.append_nil, List.length_cons, ← rv2.length]; exact hl2)
  rw [List.append_nil] at b
  exact call_of (run_fng (us := Value.ref p :: us) (vs := V.ref p :: vs2) m F I2 b (.cons rfl rv2) (by rw [List.length_cons]; exact hl2) j2 rs2 r2 (.cons (.ref p) rl) q2)
theorem s_mt0 (m : Match X c G gl k J ex) {C mn key : Str} {ps : List Str} (ha : PE X a (tE X.K J wa)) (ma : MonE wa) (O : MtOk X.prog X.w X.K X.mg X.base k C mn ps (G.fn key)) (hn : ps.length = 1)
    (hb : attributeBase a mn X.env (eval a X.env) = eval a X.env) (hline : (apos.endLine == pos.line) = true) : PE X (.Call (.Attribute a mn apos) [] [] pos) (tE X.K J (wMt C mn (G.fn key) ex wa wNil)) := by
  obtain ⟨cl, fa, fd, hm, F, bd⟩ := O
  have ht := mcall_eq (o := a) (mn := mn) (apos := apos) (pos := pos) (args := []) (env := X.env) hb rfl hline
  refine ⟨fun pins s σ H Q I ⟨A, ρ, h, j, rs, r, hw⟩ => ?_⟩
  have key1 : tE X.K J wa σ H fun v H1 => ∃ (p : Addr) (ρ : Env) (h1 : MH) (fs : List (Str × PV)), v = .ref p ∧ h1 p = some (.ins C fs) ∧ fs.lookup mn = none ∧ J A H1 ∧ RepSt X.K H1 ρ σ ∧ Rel X.K A H1 h1 ∧ G.fn key [.ref p] h1 (up X.K A H1 Q) (ex ρ) :=
    tE_of m.jj j rs r ma hw fun x h1 u H1 ⟨p, e1, ⟨fs, e2, e3⟩, q⟩ j1 rs1 m1 r1 rv => by
      subst e1
      cases rv
      exact ⟨p, ρ, h1, fs, rfl, e2, e3, j1, rs1, r1, G.mono _ _ _ _ _ _ _ (fun _ _ z => up.trans m1 z) (fun _ _ _ z => z) q⟩
  refine PySem.W.methodCall_KW (pl := do return (← importBound a X.env).getD true) (thn (ha.run pins s σ H _ I key1) fun u s1 ⟨v, H1, I1, rv, p, ρ1, h1, fs, ev, e2, e3, j1, rs1, r1, q⟩ => ?_) ht
  subst ev
  obtain rfl : u = Value.ref p := rv
  obtain ⟨dx, ws, e4, kr⟩ := r1.obj p _ e2
  refine getmeth_ok I1 e4 cl hm (kr.nolook e3) ?_
  refine PySem.W.callWith_K0 (first := [.ref p]) I1.kIn hm.kp ?_
  have b := bd s1 [.ref p] I1.kIn (by rw [hn]; rfl)
  rw [List.append_nil] at b
  exact call_of (run_fng (us := [Value.ref p]) (vs := [V.ref p]) m F I1 b (.cons rfl .nil) (by rw [hn]; rfl) j1 rs1 r1 (.cons (.ref p) .nil) q)
end
/-! ### made -/
theorem Rel.made {K : Frag} {A : Addr → Prop} {H : Hp} {h : MH} {x dx : Addr} {C : Str} (r : Rel K A H h) (hx : H x = none) (hd : H dx = none) (ne : dx ≠ x) :
    Rel K A (upd (upd H dx (.own x)) x (.ins (He.ga K C) dx [])) (mupd h x (.ins C [])) ∧ Mon A H (upd (upd H dx (.own x)) x (.ins (He.ga K C) dx [])) ∧ h x = none := by
  have r1 : Rel K A (upd H dx (.own x)) h := r.laid hd
  have hx1 : (upd H dx (.own x)) x = none := by rw [upd_ne (Ne.symm ne)]; exact hx
  have r2 : Rel K A (upd (upd H dx (.own x)) x (.ins (He.ga K C) dx [])) h := r1.laid hx1
  refine ⟨⟨fun a u e => ?_, fun d hd => ⟨?_, (r2.hid d hd).2⟩⟩, (r.mon_new hd).trans (r1.mon_new hx1), r.free hx⟩
  · by_cases ha : a = x
    · subst ha
      rw [mupd_same] at e
      cases e
      exact ⟨dx, [], upd_same, .nil⟩
    · rw [mupd_ne ha] at e
      exact r2.obj a u e
  · rw [mupd_ne (r1.nothid hx1 d hd)]
    exact (r2.hid d hd).1
section
variable {X : Cx} {c : Cfg} {G : Ctx} {gl : Str → PV} {k : Nat} {J : Jw} {ex : Env → XV} {pos pos2 : Pos} {e : Expr} {es : List Expr} {wl : WA}
def wMk (C : Str) (n : Nat) (sp : Spec) (wl : WA) : WE := fun ρ h Q => wl ρ h fun xs h1 => n ≤ xs.length ∧ xs.length < sizeLine ∧ ∀ p, h1 p = none → sp (.ref p :: (xs.take n ++ [.tup (xs.drop n)])) (mupd h1 p (.ins C [])) (fun v h2 => v = .non ∧ Q (.ref p) h2) noX
theorem mono_mk {C : Str} {n : Nat} {sp : Spec} (hs : ∀ as h (P Q : PK) (R T : XV), (∀ x h, P x h → Q x h) → (∀ c fs h, R c fs h → T c fs h) → sp as h P R → sp as h Q T) (ml : MonA wl) : MonE (wMk C n sp wl) :=
  fun ρ h P Q k hw => ml _ _ _ _ (fun xs h1 ⟨n1, n2, q⟩ => ⟨n1, n2, fun p hp => hs _ _ _ _ _ _ (fun v h2 z => ⟨z.1, k _ _ z.2⟩) (fun _ _ _ z => z) (q p hp)⟩) hw
theorem s_mk (m : Match X c G gl k J ex) {C : Str} {n : Nat} {sp : Spec} (hsm : ∀ as h (P Q : PK) (R T : XV), (∀ x h, P x h → Q x h) → (∀ c fs h, R c fs h → T c fs h) → sp as h P R → sp as h Q T)
    (O : MkOk X.prog X.w X.K X.mg X.base k C n sp) (hg : Gl X C) (hd : (C == ("__debug__" : Str)) = false)
    (ha : PA X (e :: es) (tA X.K J wl)) (ml : MonA wl) (he : starEach (e :: es) X.env = (false, eval e X.env) :: starEach es X.env) (hpl : (backTo pos (starEach es X.env)).any (·.1) = false) :
    PE X (.Call (.Name C pos2) (e :: es) [] pos) (tE X.K J (wMk C n sp wl)) := by
  obtain ⟨hm, ⟨f, M, F⟩, hz⟩ := O
  refine ⟨fun pins s σ H Q I ⟨A, ρ, h, j, rs, r, hw⟩ => ?_⟩
  refine wpAny_Call_Name_kw (ld_glob I hg hm ?_ hd)
  have key : tA X.K J wl σ H fun vs H1 => ∃ (h1 : MH) (as : List PV), Rel X.K A H1 h1 ∧ RepL X.K H1 as vs ∧ n ≤ as.length ∧ as.length < sizeLine ∧ ∀ p, h1 p = none → sp (.ref p :: (as.take n ++ [.tup (as.drop n)])) (mupd h1 p (.ins C [])) (fun v h2 => v = .non ∧ up X.K A H1 Q (.ref p) h2) noX :=
    tA_of m.jj j rs r ml hw fun xs h1 vs H1 ⟨n1, n2, q⟩ j1 rs1 m1 r1 rl => ⟨h1, xs, r1, rl, n1, n2, fun p hp => hsm _ _ _ _ _ _ (fun v h2 z => ⟨z.1, up.trans m1 z.2⟩) (fun _ _ _ z => z) (q p hp)⟩
  refine PySem.W.callWith_K (h₀ := X.base) I.ok.mod.kin M.kp (thn (ha.run pos pins s σ H _ I key) fun us s1 ⟨vs, H1, I1, rv, h1, as, r1, rl, n1, n2, q⟩ => ⟨I1.kIn, ?_⟩) he hpl
  have I2 := Inv.made (C := He.ga X.K C) I1
  have nx : H1 (s1.heap.objs.size + 1) = none := I1.hok.fresh (Nat.le_succ _)
  have nd : H1 s1.heap.objs.size = none := I1.hok.fresh (Nat.le_refl _)
  obtain ⟨r2, m2, fx⟩ := r1.made (C := C) nx nd (Nat.ne_of_lt (Nat.lt_succ_self _))
  cases k with
  | zero => exact (hz rfl _ _ _ _ (q _ fx)).elim
  | succ k =>
  have F := F k rfl
  have hr : Room (k + 1) X.A := m.room
  have rv2 : Vals (V.ref (s1.heap.objs.size + 1) :: vs) (Value.ref (s1.heap.objs.size + 1) :: us) := .cons rfl rv
  refine wpAny_call (make_map (f := f) I1.kIn M.makes M.init (beq_iff_eq.mp M.fn) (codeAny_mono (F.run _ X.stack _ _ (Value.ref (s1.heap.objs.size + 1) :: us) _ (fun v H2 => v = .non ∧ Q (.ref (s1.heap.objs.size + 1)) H2) m.gd (hr.make (He.ga X.K C) us []) (I2.env0.make (He.ga X.K C) us []) rv2
    (by rw [List.length_cons, ← rl.length]; omega) (by rw [List.length_cons, ← rl.length]; omega) ⟨A, .ref (s1.heap.objs.size + 1) :: as, _, r2, .cons (.ref _) (rl.mon m2), ?_⟩) fun r s' hq' => ?_))
  · have z := q _ fx
    exact hsm _ _ _ _ _ _ (fun v h2 ⟨z1, z2⟩ u H' mo re rv => by
      subst z1
      cases rv
      exact ⟨rfl, z2 (.ref _) H' (m2.trans mo) re (.ref _)⟩) (fun _ _ _ z => z) z
  · cases r with
    | error e =>
      obtain ⟨_, _, _, _, _, _, _, _, _, _, _, _, z⟩ := hq'
      exact z.elim
    | ok fl =>
      cases fl with
      | ret u =>
        obtain ⟨v, H', I3, rv, ev, q3⟩ := I2.after hq'
        subst ev
        exact ⟨rv, ⟨V.ref (s1.heap.objs.size + 1), H', I3, rfl, q3⟩⟩
      | next => exact False.elim hq'
      | brk => exact False.elim hq'
      | cont => exact False.elim hq'
end
end Ev

set_option Elab.async false
set_option linter.all false
set_option maxRecDepth 100000
set_option maxHeartbeats 4000000
/-! EvD: comprehensions with any number of fors; how many different ints a display has. -/
namespace Ev
open PySem PySem.Spec PyProof.Rows L2
/-! ### what stands behind a clause's tests -/
def innerB (elt : Expr) (gens : List Comprehension) (scope : Scope) (pos : Pos) (d : Nat) (acc : Value) (env : PySem.Env) (k : Sem Fin) : Sem Fin := match gens[d]? with
  | some g' => do
    let x ← eval g'.iter env
    standAt g'.iter.pos
    let x ← foldedSetIterable g'.iter env x
    let _ ← runOwn (.compStart (.ListComp elt gens scope pos) d (← holding [x] (pyIter x)) acc env) env
    k
  | none => do
    (do let _ ← call (.builtin "list.append") [acc, ← eval elt env])
    k
theorem turn_gen {elt t0 i0 : Expr} {ifs0 : List Expr} {gens : List Comprehension} {scope : Scope} {pos : Pos} {d : Nat} {it acc : Value} {env : PySem.Env} (hg : gens[d]? = some ⟨t0, i0, ifs0, 0⟩) (hn : ∀ g, gens[d + 1]? = some g → g.is_async = 0) :
    compTurn (.ListComp elt gens scope pos) d it acc env = (do
      standAt i0.pos
      match ← pyNext it with
      | none => pure (.done .next)
      | some v =>
        letOwnedTupleGo t0 it v
        assign t0 env v
        let mut ok := true
        for c in ifs0 do
          if ok then ok ← isTrue c env (eval c env)
        if ok then
          innerB elt gens scope pos (d + 1) acc env (again (.compLoop (.ListComp elt gens scope pos) d it acc env))
        else again (.compLoop (.ListComp elt gens scope pos) d it acc env)) := by
  unfold compTurn innerB
  dsimp only
  rw [hg]
  cases e : gens[d + 1]? with
  | none => rfl
  | some g =>
    obtain ⟨t1, i1, ifs1, a1⟩ := g
    obtain rfl : a1 = 0 := hn _ e
    rfl
section
variable {prog : Program} {w : World} {A : Around} {R : PySem.Result → Shared → Prop} {s : Shared} {elt t0 i0 : Expr} {ifs0 : List Expr} {gens : List Comprehension} {scope : Scope} {pos : Pos} {it acc : Value} {env : PySem.Env} {d : Nat}
theorem loop_gen (hg : gens[d]? = some ⟨t0, i0, ifs0, 0⟩) (hn : ∀ g, gens[d + 1]? = some g → g.is_async = 0) (I : Nat → Shared → Prop)
    (turn : ∀ n s, I n s → wpAny (model prog w) A (pyNext it) (fun r s₁ => match r with
      | none => R (.ok .next) s₁
      | some v => wpAny (model prog w) A (letOwnedTupleGo t0 it v) (fun _ s₁' => wpAny (model prog w) A (assign t0 env v) (fun _ s₂ =>
          wpAny (model prog w) A (forIn ifs0 true fun c r => if r = true then do let ok ← isTrue c env (eval c env); pure (ForInStep.yield ok) else pure (ForInStep.yield r)) (fun ok s₃ =>
            if ok = true then wpAny (model prog w) A (innerB elt gens scope pos (d + 1) acc env (again (.compLoop (.ListComp elt gens scope pos) d it acc env))) (fun r s₄ => r = .again (.compLoop (.ListComp elt gens scope pos) d it acc env) ∧ ∃ m, m < n ∧ I m s₄) (notedBy (model prog w) A env fun e s' => R (.error e) s') s₃
            else ∃ m, m < n ∧ I m s₃) (notedBy (model prog w) A env fun e s' => R (.error e) s') s₂) (notedBy (model prog w) A env fun e s' => R (.error e) s') s₁') (notedBy (model prog w) A env fun e s' => R (.error e) s') s₁) (notedBy (model prog w) A env fun e s' => R (.error e) s') s)
    (n : Nat) (h : I n s) :
    codeAny (model prog w) A (.compLoop (.ListComp elt gens scope pos) d it acc env) R s := by
  refine codeAny_loop rfl I (fun n s hI => ?_) n h
  show wpAny _ A ((compTurn (.ListComp elt gens scope pos) d it acc env).onRaise (fun x => do noteFrame x env; theTreesLotGoes x)) _ _ s
  refine wpAny_noted ?_
  rw [turn_gen hg hn]
  refine wpAny_bind (wpAny_standAt (wpAny_bind (wpAny_mono (turn n s hI) (fun r s₁ h₁ => ?_) fun _ _ h' => h')))
  cases r with
  | none => exact wpAny_pure h₁
  | some v =>
    refine wpAny_bind (wpAny_mono h₁ (fun _ s₁' h₁' => ?_) fun _ _ h' => h')
    refine wpAny_bind (wpAny_mono h₁' (fun _ s₂ h₂ => wpAny_bind (wpAny_mono h₂ (fun ok s₃ h₃ => ?_) fun _ _ h' => h')) fun _ _ h' => h')
    cases ok with
    | false => exact wpAny_pure ⟨rfl, h₃⟩
    | true =>
      refine wpAny_mono h₃ (fun r s₄ h₄ => ?_) fun _ _ h' => h'
      obtain ⟨e, z⟩ := h₄
      subst e
      exact ⟨rfl, z⟩
theorem start_gen (hg : gens[d]? = some ⟨t0, i0, ifs0, 0⟩) (h0 : codeAny (model prog w) A (.compLoop (.ListComp elt gens scope pos) d it acc env) R s)
    (h : wpAny (model prog w) A (pyIter it) (fun it' s' => codeAny (model prog w) A (.compLoop (.ListComp elt gens scope pos) d it' acc env) R s')
      (notedBy (model prog w) A env fun x s' => R (.error x) s') s) :
    codeAny (model prog w) A (.compStart (.ListComp elt gens scope pos) d it acc env) R s := by
  refine codeAny_of_tree ?_
  cases d with
  | zero =>
    show wpAny _ _ ((compStart (.ListComp elt gens scope pos) 0 it acc env).onRaise (fun x => do noteFrame x env; standAt theWindowsPlace)) _ _ s
    refine wpAny_notedAt ?_
    unfold compStart
    have hc : (clausesOf (.ListComp elt gens scope pos))[0]? = some ⟨t0, i0, ifs0, 0⟩ := hg
    rw [hc]
    show wpAny _ _ (ask >>= _) _ _ s
    refine wpAny_bind (wpAny_askSetting (wpAny_ite ?_))
    split
    · first
        | exact wpAny_bind (wpAny_pure (wpAny_pure (And.intro rfl h0)))
        | exact wpAny_pure (And.intro rfl h0)
    · first
        | exact wpAny_bind (wpAny_rule (wpAny_bind (wpAny_standAt (wpAny_bind (wpAny_mono h (fun it' s' h' => wpAny_pure (And.intro rfl h')) fun _ _ x => x)))))
        | (refine wpAny_bind (wpAny_rule ?_); show wpAny _ _ (standAt i0.pos >>= _) _ _ s; exact wpAny_bind (wpAny_standAt (wpAny_bind (wpAny_mono h (fun it' s' h' => wpAny_pure (And.intro rfl h')) fun _ _ x => x))))
  | succ d =>
    show wpAny _ _ ((compStart (.ListComp elt gens scope pos) (d + 1) it acc env).onRaise (fun x => do noteFrame x env; standAt theWindowsPlace)) _ _ s
    refine wpAny_notedAt ?_
    unfold compStart
    have hc : (clausesOf (.ListComp elt gens scope pos))[(d + 1)]? = some ⟨t0, i0, ifs0, 0⟩ := hg
    rw [hc]
    show wpAny _ _ (ask >>= _) _ _ s
    refine wpAny_bind (wpAny_askSetting (wpAny_ite ?_))
    split
    · first
        | exact wpAny_bind (wpAny_pure (wpAny_pure (And.intro rfl h0)))
        | exact wpAny_pure (And.intro rfl h0)
    · first
        | exact wpAny_bind (wpAny_rule (wpAny_bind (wpAny_standAt (wpAny_bind (wpAny_mono h (fun it' s' h' => wpAny_pure (And.intro rfl h')) fun _ _ x => x)))))
        | (refine wpAny_bind (wpAny_rule ?_); show wpAny _ _ (standAt i0.pos >>= _) _ _ s; exact wpAny_bind (wpAny_standAt (wpAny_bind (wpAny_mono h (fun it' s' h' => wpAny_pure (And.intro rfl h')) fun _ _ x => x))))
end

section
variable {prog : Program} {w : World} {A : Around} {E : Value → Shared → Prop} {s : Shared} {elt t1 i1 : Expr} {ifs1 : List Expr} {gens : List Comprehension} {scope : Scope} {pos : Pos} {acc : Value} {env : PySem.Env} {d : Nat} {c : Code} {P : Shared → Prop}
theorem inner_last (hn : gens[d]? = none) (h : wpAny (model prog w) A (eval elt env) (fun x s4 => wpAny (model prog w) A (call (.builtin "list.append") [acc, x]) (fun _ s5 => P s5) E s4) E s) :
    wpAny (model prog w) A (innerB elt gens scope pos d acc env (again c)) (fun r s => r = .again c ∧ P s) E s := by
  unfold innerB
  rw [hn]
  exact wpAny_bind (wpAny_bind (wpAny_mono h (fun x s₄ h₄ => wpAny_bind (wpAny_mono h₄ (fun _ s₅ h₅ => wpAny_pure (wpAny_pure ⟨rfl, h₅⟩)) fun _ _ h' => h')) fun _ _ h' => h'))
theorem inner_more (hg : gens[d]? = some ⟨t1, i1, ifs1, 0⟩) (hs : ∀ x, foldedSetIterable i1 env x = pure x)
    (h : wpAny (model prog w) A (eval i1 env) (fun x s4 => wpAny (model prog w) A (pyIter x) (fun it1 s5 => codeAny (model prog w) A (.compStart (.ListComp elt gens scope pos) d it1 acc env) (fun r s' => match r with
      | .ok _ => P s'
      | .error _ => False) s5) E s4) E s) :
    wpAny (model prog w) A (innerB elt gens scope pos d acc env (again c)) (fun r s => r = .again c ∧ P s) E s := by
  unfold innerB
  rw [hg]
  refine wpAny_bind (wpAny_mono h (fun x s₄ h₄ => ?_) fun _ _ h' => h')
  refine wpAny_bind (wpAny_standAt (wpAny_bind (wpAny_of_eq (hs x) (wpAny_bind (wpAny_holding (wpAny_mono h₄ (fun it1 s₅ h₅ => ?_) fun _ _ h' => h'))))))
  refine wpAny_bind (wpAny_runOwn ?_)
  rw [Around.mark_none]
  refine codeAny_mono h₅ fun r s' hr => ?_
  cases r with
  | ok f =>
    first
      | exact wpAny_pure ⟨rfl, hr⟩
      | exact wpAny_bind (wpAny_pure (wpAny_pure ⟨rfl, hr⟩))
  | error e => exact hr.elim
end
/-! ### clauses -/
structure ClI where
  tg : Expr
  iter : Expr
  ifs : List Expr
  wi : TI
  g : TG
  tt : TT
  vs : List Nat
def vsOf : List ClI → List Nat
  | [] => []
  | c :: _ => c.vs
structure OkCl (Y : Cx) (c : ClI) : Prop where
  g : PG Y c.tg c.g
  t : PTs Y c.ifs c.tt
def GoodCl (Y : Cx) (gens : List Comprehension) : Nat → List ClI → Prop
  | d, [] => gens[d]? = none
  | d, c :: cs => gens[d]? = some ⟨c.tg, c.iter, c.ifs, 0⟩ ∧ PI Y c.tg c.iter c.wi ∧ OkCl Y c ∧ (∀ x, foldedSetIterable c.iter Y.env x = pure x) ∧ (∀ i ∈ vsOf cs, i ∈ c.vs) ∧ GoodCl Y gens (d + 1) cs
theorem GoodCl.async {Y : Cx} {gens : List Comprehension} {d : Nat} : ∀ {cs : List ClI}, GoodCl Y gens d cs → ∀ g, gens[d]? = some g → g.is_async = 0
  | [], h, g, e => by
    have h : gens[d]? = none := h
    rw [h] at e; cases e
  | c :: cs, h, g, e => by
    rw [h.1] at e
    cases e
    rfl
/-- a loop of a clause whose iterator walks J -/
def tLp (body : L2.St → Hp → (Hp → Prop) → Prop) (c : ClI) (σ : L2.St) (J : It) (H : Hp) (Nx : Hp → Prop) : Prop :=
  ∃ W : Nat → Nat → Hp → Prop, (∃ m, W 0 m H) ∧ ∀ j k H, W j k H → (J.stop j H ∧ Nx H) ∨ (J.go j H ∧ ∃ Nx1 : Hp → Prop, (∀ H', Nx1 H' → ∃ k', k' < k ∧ W (j + 1) k' H') ∧
    ∀ x H', J.yld j H x H' → c.g x (L2.wipe σ c.vs) H' fun σ3 H5 => L2.wipe σ3 c.vs = L2.wipe σ c.vs ∧ c.tt σ3 H5 fun b H6 => if b = true then body σ3 H6 Nx1 else Nx1 H6)
def tCl (te : TE) (D : Addr) : List ClI → L2.St → Hp → (Hp → Prop) → Prop
  | [], σ, H, Nx => te σ H fun y H7 => ∃ acc, H7 D = some (.lst acc) ∧ acc.length < sizeLine ∧ Nx (upd H7 D (.lst (acc ++ [y])))
  | c :: cs, σ, H, Nx => c.wi σ H fun J H4 => tLp (tCl te D cs) c σ J H4 Nx
section
variable {Y : Cx} {elt : Expr} {te : TE} {gens : List Comprehension} {scope : Scope} {pos : Pos} {D : Addr} {c : ClI} {cs : List ClI} {d : Nat}
/-- what a body keeps of the slots -/
def KeepS (vs : List Nat) (σ σ' : L2.St) : Prop := σ.length = σ'.length ∧ ∀ (j : Nat) v, (L2.wipe σ vs)[j]? = some (some v) → σ'[j]? = some (some v)
/-- a loop, given what its body does -/
theorem loop_cl (hc : Y.calm = true) (hx : ∀ e s, Y.xe e s → False) (hg : gens[d]? = some ⟨c.tg, c.iter, c.ifs, 0⟩) (hn : ∀ g, gens[d + 1]? = some g → g.is_async = 0) (ok : OkCl Y c) (sub : ∀ i ∈ vsOf cs, i ∈ c.vs)
    {body : L2.St → Hp → (Hp → Prop) → Prop}
    (hb : ∀ (pins : List (Addr × Obj)) (σ : L2.St) (H : Hp) (s : Shared) (Nx : Hp → Prop) (P : Shared → Prop) (k : Code), Inv Y pins σ H s → body σ H Nx → (∀ σ' H' s', Inv Y pins σ' H' s' → KeepS (vsOf cs) σ σ' → Nx H' → P s') →
      wpAny (model Y.prog Y.w) Y.A (innerB elt gens scope pos (d + 1) (.ref D) Y.env (again k)) (fun r s' => r = .again k ∧ P s') (fun _ _ => False) s)
    {J : It} {fp : List Addr} {it : Addr} {tn : Nat → Heap → Prop} (T : Turn Y.prog Y.w Y.K c.tg J fp it tn)
    {pins : List (Addr × Obj)} {σ : L2.St} {H : Hp} {s : Shared} {Nx : Hp → Prop} {R : PySem.Result → Shared → Prop}
    (I : Inv Y pins (L2.wipe σ c.vs) H s) (st : tn 0 s.heap) (nf : ∀ b ∈ fp, H b = none)
    (stat : ∀ (H' : Hp) (σ' : L2.St) (s' : Shared), Inv Y pins σ' H' s' → (∀ b ∈ fp, H' b = none) → ∀ b ∈ fp, FpOk Y pins H' b)
    (h : tLp body c σ J H Nx) (hR : ∀ H' s', Inv Y pins (L2.wipe σ c.vs) H' s' → Nx H' → R (.ok .next) s') :
    codeAny (model Y.prog Y.w) Y.A (.compLoop (.ListComp elt gens scope pos) d (.ref it) (.ref D) Y.env) R s := by
  obtain ⟨W, ⟨m0, w0⟩, turn⟩ := h
  refine loop_gen hg hn (fun n s' => ∃ i H', Inv Y pins (L2.wipe σ c.vs) H' s' ∧ tn i s'.heap ∧ (∀ b ∈ fp, H' b = none) ∧ W i n H') ?_ m0 ⟨0, H, I, st, nf, w0⟩
  rintro n s5 ⟨i, H5, I5, st5, n5, w5⟩
  rcases turn i n H5 w5 with ⟨stop, qq⟩ | ⟨go, Nx1, hNx, step⟩
  · refine thnF (T.done Y rfl rfl rfl hc i pins s5 _ H5 (fun _ _ => False) I5 (stat _ _ _ I5 n5) st5 stop) fun r s6 ⟨hr, I6⟩ => ?_
    subst hr
    exact hR _ _ I6 qq
  · refine thnF (T.item Y rfl rfl rfl hc i pins s5 _ H5 (fun _ _ => False) I5 (stat _ _ _ I5 n5) st5 go) fun r s6 ⟨u, hr, h6⟩ => ?_
    subst hr
    refine thnF h6 fun _ s7 ⟨x, H7, I7, r7, y7, st7, n7⟩ => ?_
    have I7' := I7.pinned (stat _ _ _ I7 n7) (T.obj _ _ st7)
    refine thnF (wpAny_mono (ok.g.run _ s7 _ H7 x u _ I7' r7 (step x H7 y7)) (fun _ _ z => z) fun e s z => (hx e s z).elim) fun _ s8 ⟨σ8, H8, I8, hw8, q8⟩ => ?_
    refine thnF (wpAny_mono (ok.t.run _ s8 σ8 H8 _ I8 q8) (fun _ _ z => z) fun e s z => (hx e s z).elim) fun b s9 ⟨H9, I9, q9⟩ => ?_
    have hl8 : (L2.wipe σ c.vs).length = σ8.length := by rw [← hw8, L2.wipe_length]
    have fin : ∀ {σ9 : L2.St} {s' : Shared} {H' : Hp}, Inv Y (pins ++ pinsAt fp s7.heap) σ9 H' s' → KeepS (vsOf cs) σ8 σ9 → Nx1 H' →
        ∃ m, m < n ∧ ∃ i H', Inv Y pins (L2.wipe σ c.vs) H' s' ∧ tn i s'.heap ∧ (∀ b ∈ fp, H' b = none) ∧ W i m H' := fun {σ9 s' H'} I' ks nx => by
      obtain ⟨m', hm, w'⟩ := hNx H' nx
      have pin' : ∀ b ∈ fp, ∀ o, s7.heap.get? b = some o → s'.heap.get? b = some o ∧ H' b = none := fun b hb o e =>
        let z := I'.pin (b, o) (List.mem_append_right _ (List.mem_append_right _ (mem_pinsAt hb e)))
        ⟨z.1, z.2.1⟩
      refine ⟨m', hm, i + 1, H', (I'.unpinned (pins := pins)).weak (hl8.trans ks.1) (fun j v e => ?_), T.keep _ _ _ st7 fun b hb o e => (pin' b hb o e).1, fun b hb => ?_, w'⟩
      · rw [← hw8] at e
        obtain ⟨e1, e2⟩ := L2.wipe_some e
        refine ks.2 j v ?_
        rw [L2.wipe_out fun z => e2 (sub j z)]
        exact e1
      · obtain ⟨o, e, _⟩ := T.obj _ _ st7 b hb
        exact (pin' b hb o e).2
    cases b with
    | false =>
      simp only [Bool.false_eq_true, if_false] at q9 ⊢
      exact fin I9 ⟨rfl, fun j v e => (L2.wipe_some e).1⟩ q9
    | true =>
      simp only [if_true] at q9 ⊢
      exact wpAny_mono (hb _ σ8 H9 s9 Nx1 _ _ I9 q9 fun σ' H' s' I' ks nx => fin I' ks nx) (fun _ _ z => z) fun _ _ z => z.elim
theorem body_cl (hc : Y.calm = true) (hx : ∀ e s, Y.xe e s → False) (pe : PE Y elt te) : ∀ (cs : List ClI) (d : Nat), GoodCl Y gens d cs → ∀ (pins : List (Addr × Obj)) (σ : L2.St) (H : Hp) (s : Shared) (Nx : Hp → Prop) (P : Shared → Prop) (k : Code), Inv Y pins σ H s → tCl te D cs σ H Nx →
      (∀ σ' H' s', Inv Y pins σ' H' s' → KeepS (vsOf cs) σ σ' → Nx H' → P s') →
      wpAny (model Y.prog Y.w) Y.A (innerB elt gens scope pos d (.ref D) Y.env (again k)) (fun r s' => r = .again k ∧ P s') (fun _ _ => False) s
  | [], d, hg, pins, σ, H, s, Nx, P, k, I, h, hP => by
    have hg : gens[d]? = none := hg
    refine inner_last hg ?_
    refine thnF (wpAny_mono (pe.run _ s σ H _ I h) (fun _ _ z => z) fun e s z => (hx e s z).elim) fun z s10 ⟨yv, H10, I10, r10, acc, hD10, hz10, nx⟩ => ?_
    exact app_ok (X := Y) I10 hD10 hz10 r10 fun s11 I11 => hP _ _ _ I11 ⟨rfl, fun j v e => e⟩ nx
  | c :: cs, d, hg, pins, σ, H, s, Nx, P, k, I, h, hP => by
    obtain ⟨h1, pi, ok, hs, sub, hr⟩ := hg
    refine inner_more h1 hs ?_
    refine thnF (wpAny_mono (pi.run _ s σ H _ I h) (fun _ _ z => z) fun e s z => (hx e s z).elim) fun xv s10 hxv => thnF (wpAny_mono hxv (fun _ _ z => z) fun e s z => (hx e s z).elim) fun itv s11 h11 => ?_
    obtain ⟨it, fp, tn, J, H11, e1, I11, T, st11, f11, q⟩ := h11
    subst e1
    have loop : codeAny (model Y.prog Y.w) Y.A (.compLoop (.ListComp elt gens scope pos) d (.ref it) (.ref D) Y.env) (fun r s' => match r with
        | .ok _ => P s'
        | .error _ => False) s11 := by
      refine loop_cl hc hx h1 hr.async ok sub (fun pins σ H s Nx P k I h hP => body_cl hc hx pe cs (d + 1) hr pins σ H s Nx P k I h hP) T (I11.weak (L2.wipe_length _ _) (fun j v e => (L2.wipe_some e).1)) st11 (fun b hb => (f11 b hb).1)
        (fun H' σ' s' I' hn b hb => ⟨hn b hb, (f11 b hb).2⟩) q fun H' s' I' nx => ?_
      exact hP _ _ _ I' ⟨(L2.wipe_length σ c.vs).symm, fun j v e => e⟩ nx
    exact start_gen h1 loop (T.self Y.A 0 _ _ _ st11 loop)
end
/-! ### as a whole -/
def clG (c : ClI) : Comprehension := ⟨c.tg, c.iter, c.ifs, 0⟩
def tLcN (te : TE) (c : ClI) (cs : List ClI) : TE := fun σ H Q => c.wi σ H fun J H1 => ∀ D, H1 D = none → tLp (tCl te D cs) c σ J (upd H1 D (.lst [])) fun H' => Q (.ref D) H'
section
variable {X : Cx}
/-- what a comprehension's texts do in its block -/
structure BlkGood (X : Cx) (elt : Expr) (te : TE) (scope : Scope) (c : ClI) (cs : List ClI) : Prop where
  ok : ∀ (s : Shared) (H : Hp) (C : Addr) (cl : List (Str × Addr)) (fp : List Addr), OkCl (X.blk s H scope (compEnvC scope cl C X.env) fp) c ∧ GoodCl (X.blk s H scope (compEnvC scope cl C X.env) fp) (clG c :: cs.map clG) 1 cs ∧ PE (X.blk s H scope (compEnvC scope cl C X.env) fp) elt te
  sub : ∀ i ∈ vsOf cs, i ∈ c.vs
theorem lcN_core {pins : List (Addr × Obj)} {s : Shared} {σ : L2.St} {H : Hp} {Q : VK} {elt : Expr} {c : ClI} {cs : List ClI} {scope : Scope} {own : List (Str × Nat)} {pos pos' : Pos} {te : TE} {use : Option (Value → Sem Unit)} {Qf : Value → Shared → Prop}
    (hc : X.calm = true) (hN : X.N.Nodup) (I : Inv X pins σ H s) (hi : PI X c.tg c.iter c.wi) (ok : BlkOk X.N X.env.scope scope own) (hv : c.vs = own.map (·.2)) (B : BlkGood X elt te scope c cs) (hs : ∀ x, foldedSetIterable c.iter X.env x = pure x)
    (h : tLcN te c cs σ H Q)
    (hRR : ∀ D C s' m H', Inv X pins σ H' s' → Q (.ref D) H' → s'.heap.Ns C m → FpOk X pins H' C → compPost (model X.prog X.w) X.A X.xe use Qf (.ref D) C (.ok .next) s') :
    wpAny (model X.prog X.w) X.A (comprehension (.ListComp elt (clG c :: cs.map clG) scope pos) scope X.env pos' (newList []) false (eval c.iter X.env) use) Qf X.xe s := by
  have hfree : ∀ y ∈ scope.names, y.2 = .free → ∃ c, X.env.cells.lookup y.1 = some c := fun y hy e => by
    rcases ok.free y hy e with k | k
    · exact I.ok.has _ (.inl k)
    · exact I.ok.has _ (.inr k)
  refine wpAny_comprehension_free (use := use) (g := clG c) (gs := cs.map clG) rfl hs (closure_ok hfree) ok.kind (fun y hy e => by rw [ok.uniq y hy, e])
    (thn (hi.run pins s σ H _ I h) fun xv s1 hx => thn hx fun itv s2 h2 => ?_)
  obtain ⟨it, fp, tn, J, H2, e, I2, T, st2, f2, q⟩ := h2
  subst e
  refine wpAny_newObj_type (newEnv_comp ?_) (by show 0 ≤ sizeLine; decide)
  generalize hD : s2.heap.objs.size = D
  have hDn : H2 D = none := I2.hok.fresh (Nat.le_of_eq hD)
  have q := q D hDn
  -- the new list
  generalize hs3 : ({ s2 with heap := s2.heap.push { cls := .type "list", data := .seq ([] : List Value).toArray } } : Shared) = s3
  have I3 : Inv X pins σ (upd H2 D (.lst [])) s3 := by
    rw [← hs3]
    refine I2.laid (t' := s2.toks) (fun b o e => Heap.get?_push_of_some _ e) (Nat.le_of_eq hD) ⟨Nat.zero_le _, [], 0, .nil, ?_⟩
    rw [← hD]
    exact Heap.get?_push_size _ rfl
  have h3 : s3.heap = s2.heap.push { cls := .type "list", data := .seq ([] : List Value).toArray } := by rw [← hs3]
  have sz : ∀ b ∈ fp, b < s2.heap.objs.size := fun b hb => by
    obtain ⟨o, e, _⟩ := T.obj _ _ st2 b hb
    exact Heap.lt_size e
  have f3 : ∀ b ∈ fp, FpOk X pins (upd H2 D (.lst [])) b ∧ b < s3.heap.objs.size := fun b hb => by
    have hlt := sz b hb
    refine ⟨⟨?_, (f2 b hb).2⟩, by rw [h3, Heap.size_push]; exact Nat.lt_succ_of_lt hlt⟩
    rw [upd_ne (by rw [← hD]; exact Nat.ne_of_lt hlt)]
    exact (f2 b hb).1
  have st3 : tn 0 s3.heap := T.keep _ _ _ st2 fun b _ o e => by rw [h3]; exact Heap.get?_push_of_some _ e
  have I4 := block_start I3 ok hN f3
  obtain ⟨po, pg, pe⟩ := B.ok s3 (upd H2 D (.lst [])) s3.heap.objs.size (cellsFrom (s3.heap.objs.size + 1) scope.names (cloFrom X.env.cells scope.names [])) fp
  show codeAny _ _ (.compStart (.ListComp elt (clG c :: cs.map clG) scope pos) 0 (.ref it) (.ref D) (compEnvC scope (cellsFrom (s3.heap.objs.size + 1) scope.names (cloFrom X.env.cells scope.names [])) s3.heap.objs.size X.env)) (compPost (model X.prog X.w) X.A X.xe use Qf (.ref D) s3.heap.objs.size) { s3 with heap := pushCells (s3.heap.push { cls := .type "dict", data := .dict #[] }) scope.names }
  have nfp : ∀ b ∈ fp, (upd H2 D (.lst [])) b = none := fun b hb => (f3 b hb).1.1
  generalize hce : compEnvC scope (cellsFrom (s3.heap.objs.size + 1) scope.names (cloFrom X.env.cells scope.names [])) s3.heap.objs.size X.env = ce at I4 po pg pe ⊢
  have cL : ce.locals = s3.heap.objs.size := by subst hce; rfl
  generalize hH3 : upd H2 D (.lst []) = H3 at I3 I4 po pg pe q nfp f3
  generalize hs4 : ({ s3 with heap := pushCells (s3.heap.push { cls := .type "dict", data := .dict #[] }) scope.names } : Shared) = s4 at I4 ⊢
  have st4 : tn 0 s4.heap := T.keep _ _ _ st3 fun b _ o e => by rw [← hs4]; exact pushCells_keeps _ _ _ _ (Heap.get?_push_of_some _ e)
  have stat : ∀ (H' : Hp) (σ' : L2.St) (s' : Shared), Inv (X.blk s3 H3 scope ce fp) [] σ' H' s' → (∀ b ∈ fp, H' b = none) → ∀ b ∈ fp, FpOk (X.blk s3 H3 scope ce fp) [] H' b := fun H' σ' s' I' hn b hb =>
    ⟨hn b hb, (I'.ok.exf b hb).1, I'.ok.exfs b hb, .inl hb, fun x c e => (I'.ok.exf b hb).2 x c e, fun p hp => absurd (show p ∈ ([] : List (Addr × Obj)) ++ [] from hp) (by simp)⟩
  rw [← hv] at I4
  have loop : codeAny (model X.prog X.w) X.A (.compLoop (.ListComp elt (clG c :: cs.map clG) scope pos) 0 (.ref it) (.ref D) ce) (compPost (model X.prog X.w) X.A X.xe use Qf (.ref D) s3.heap.objs.size) s4 := by
    refine loop_cl (Y := X.blk s3 H3 scope ce fp) (cs := cs) hc (fun _ _ z => z) rfl pg.async po B.sub (fun pins σ H s Nx P k I h hP => body_cl (Y := X.blk s3 H3 scope ce fp) hc (fun _ _ z => z) pe cs 1 pg pins σ H s Nx P k I h hP) T I4 st4 nfp stat q fun H5 s6 I6 qq => ?_
    -- back in the def's context
    have I7 : Inv X pins σ H5 s6 := I3.call' (ch := fp) I6.os I6.base I6.hok I6.bare fun b hb => ⟨(f3 b hb).1.2.2.2.1, (f3 b hb).1.2.1, (f3 b hb).1.2.2.2.2.1, (f3 b hb).1.2.2.2.2.2⟩
    have nC : H5 s3.heap.objs.size = none := by
      have z : H5 ce.locals = none := I6.free
      rw [cL] at z
      exact z
    obtain ⟨m, hn, _⟩ := I6.loc
    have hn : s6.heap.Ns ce.locals m := hn
    rw [cL] at hn
    exact hRR D s3.heap.objs.size s6 m H5 I7 qq hn (I3.fpOk (Nat.le_refl _) nC)
  exact codeAny_compStart_list loop (T.self X.A 0 _ _ _ st4 loop)
/-- as a value -/
theorem pe_lcN {elt : Expr} {c : ClI} {cs : List ClI} {scope : Scope} {own : List (Str × Nat)} {pos : Pos} {te : TE} (hc : X.calm = true) (hN : X.N.Nodup) (hi : PI X c.tg c.iter c.wi) (ok : BlkOk X.N X.env.scope scope own) (hv : c.vs = own.map (·.2)) (B : BlkGood X elt te scope c cs)
    (hs : ∀ x, foldedSetIterable c.iter X.env x = pure x) : PE X (.ListComp elt (clG c :: cs.map clG) scope pos) (tLcN te c cs) := by
  refine ⟨fun pins s σ H Q I h => ?_⟩
  have e : eval (.ListComp elt (clG c :: cs.map clG) scope pos) X.env = comprehension (.ListComp elt (clG c :: cs.map clG) scope pos) scope X.env (firstIterPos (clG c :: cs.map clG) pos) (newList []) false (eval c.iter X.env) := rfl
  rw [e]
  refine lcN_core hc hN I hi ok hv B hs h fun D C s' m H' I' q hn f => ⟨m, hn, fun h'' sb => ?_⟩
  obtain ⟨f0, f1, f2, f3, f4, f5⟩ := f
  exact ⟨.ref D, H', I'.turned (t' := s'.toks) (fun b o hb e => (sb.2 b hb).trans e) f0 f1 f3 f4 f5, rfl, q⟩
theorem ps_setLcN {i : Nat} {y : Str} {py : Pos} {elt : Expr} {c : ClI} {cs : List ClI} {scope : Scope} {own : List (Str × Nat)} {pos spos : Pos} {te : TE} (hc : X.calm = true) (hN : X.N.Nodup) (hy : X.N[i]? = some y) (hyl : X.env.scope.names.lookup y = some .local)
    (hsw : swapsWith (.ListComp elt (clG c :: cs.map clG) scope pos) (some (.Name y py)) spos.line X.env = pure true) (hi : PI X c.tg c.iter c.wi) (ok : BlkOk X.N X.env.scope scope own) (hv : c.vs = own.map (·.2)) (B : BlkGood X elt te scope c cs)
    (hs : ∀ x, foldedSetIterable c.iter X.env x = pure x) :
    PS X (.Assign [.Name y py] (.ListComp elt (clG c :: cs.map clG) scope pos) spos) (tAsg (tLcN te c cs) (gName i)) := by
  refine ⟨fun pins s σ H D I h => ?_⟩
  rw [exec_Assign_Name_used _ _ _ _ hsw]
  refine wpAny_bind (wpAny_standAt (wpAny_bind ?_))
  show wpAny _ X.A (do let _ ← comprehension (.ListComp elt (clG c :: cs.map clG) scope pos) scope X.env (firstIterPos (clG c :: cs.map clG) pos) (newList []) false (eval c.iter X.env) (some (assign (.Name y py) X.env))) _ _ s
  have h : tLcN te c cs σ H (fun x H1 => gName i x σ H1 D.nx) := h
  refine wpAny_bind (thn (lcN_core (Qf := fun _ s' => SP X pins D .next s') hc hN I hi ok hv B hs h fun L C s' m H' I' q hn f => ?_) fun _ s' hq => wpAny_pure (wpAny_pure hq))
  show wpAny _ _ (assign (.Name y py) X.env (.ref L)) _ _ _
  refine wpAny_assign_Name (store_ok2 (v := V.ref L) I' hN hy (.inl hyl) rfl (fun s2 I2 ⟨a, sb, ha⟩ => ?_) (.inr hyl))
  obtain ⟨f0, f1, f2, f3, f4, f5⟩ := f
  have haC : C ≠ a := by
    rcases ha with z | z
    · rw [z]; exact f1
    · exact fun e => f4 y a z e.symm
  refine ⟨m, hn.sameBut sb haC, fun h3 sb3 => ?_⟩
  exact ⟨_, H', I2.turned (t' := s2.toks) (fun b o hb e => (sb3.2 b hb).trans e) f0 f1 f3 f4 f5, q⟩
end
end Ev

set_option Elab.async false
set_option linter.all false
set_option maxRecDepth 100000
set_option maxHeartbeats 4000000
/-! EvE: comprehensions of any number of fors, told of values; how many different ints a display has. -/
namespace Ev
open PySem PySem.Spec PyProof.Rows L2
structure ClW where
  wi : WI
  t : ST
  wt : WT
  vs : List Nat
def wCl (we : WE) : List ClW → Env → MH → List PV → (List PV → MH → Prop) → Prop
  | [], ρ, h, acc, K => we ρ h fun y h' => acc.length < sizeLine ∧ K (acc ++ [y]) h'
  | c :: cs, ρ, h, acc, K => c.wi ρ h fun it h1 => ∃ Iv : Nat → List PV → MH → Prop, Iv 0 acc h1 ∧
    (∀ i x acc h2, it.xs[i]? = some x → Iv i acc h2 → it.keep h2 ∧ ∃ ρ2, c.t.set x (wipeE ρ c.vs) = some ρ2 ∧ c.wt ρ2 h2 fun b h3 => if b = true then wCl we cs ρ2 h3 acc (Iv (i + 1)) else Iv (i + 1) acc h3) ∧
    ∀ acc h2, Iv it.xs.length acc h2 → it.keep h2 ∧ K acc h2
def wCompN (m : Bool) (cs : List ClW) (we : WE) : WE := fun ρ h Q => wCl we cs ρ h [] fun acc h2 => allocL m acc h2 Q
theorem mono_cl {we : WE} (me : MonE we) : ∀ (cs : List ClW), (∀ c ∈ cs, MonI c.wi) → ∀ {ρ : Env} {h : MH} {acc : List PV} {P Q : List PV → MH → Prop}, (∀ a h, P a h → Q a h) → wCl we cs ρ h acc P → wCl we cs ρ h acc Q
  | [], _, ρ, h, acc, P, Q, k, z => me _ _ _ _ (fun y h' q => ⟨q.1, k _ _ q.2⟩) z
  | c :: cs, mi, ρ, h, acc, P, Q, k, z => mi c List.mem_cons_self _ _ _ _ (fun it h1 ⟨Iv, a0, a1, a2⟩ => ⟨Iv, a0, a1, fun acc h2 iv => ⟨(a2 acc h2 iv).1, k _ _ (a2 acc h2 iv).2⟩⟩) z
theorem mono_compN {m : Bool} {cs : List ClW} {we : WE} (me : MonE we) (mi : ∀ c ∈ cs, MonI c.wi) : MonE (wCompN m cs we) := fun ρ h P Q k z => mono_cl me cs mi (fun _ _ z => allocL_mono k z) z
theorem wipe_idem {σ : L2.St} {vs : List Nat} : L2.wipe (L2.wipe σ vs) vs = L2.wipe σ vs := by
  have idem : ∀ (vs : List Nat) (σ : L2.St), (∀ i ∈ vs, ∀ v, σ[i]? ≠ some (some v)) → L2.wipe σ vs = σ := by
    intro vs
    induction vs with
    | nil => intro σ _; rfl
    | cons v vs ih =>
      intro σ hv
      unfold L2.wipe
      rw [ih σ fun i hi => hv i (List.mem_cons_of_mem _ hi)]
      apply List.ext_getElem?
      intro n
      rw [List.getElem?_set]
      split
      · rename_i e
        subst e
        split
        · rename_i hlen
          have := hv v List.mem_cons_self
          rw [List.getElem?_eq_getElem hlen] at this ⊢
          cases z : σ[v] with
          | none => rfl
          | some u => exact (this u (by rw [z])).elim
        · rename_i hlen
          exact (List.getElem?_eq_none (by omega)).symm
      · rfl
  refine idem _ _ fun i hi v e => ?_
  exact (wipe_some e).2 hi
/-- a clause's text does what its wish tells -/
structure ClRel (K : Frag) (J : Jw) (c : ClW) (c' : ClI) : Prop where
  wi : c'.wi = tI K J c.wi
  g : c'.g = c.t.g K
  tt : c'.tt = tT K J0 c.wt
  vs : c'.vs = c.vs
  sub : ∀ i ∈ c.t.slots, i ∈ c.vs
  mi : MonI c.wi
  mt : MonT c.wt
inductive ClRels (K : Frag) (J : Jw) : List ClW → List ClI → Prop
  | nil : ClRels K J [] []
  | cons {c c' cs cs'} : ClRel K J c c' → ClRels K J cs cs' → ClRels K J (c :: cs) (c' :: cs')
abbrev HidD (A : Addr → Prop) (D : Addr) : Addr → Prop := fun d => A d ∨ d = D
section
variable {K : Frag} {A : Addr → Prop} {D : Addr}
theorem lp_bridge {J : Jw} {c : ClW} {c' : ClI} (cr : ClRel K J c c') (np : ∀ d, A d → d ≠ D) {bodyW : Env → MH → List PV → (List PV → MH → Prop) → Prop} {body : L2.St → Hp → (Hp → Prop) → Prop}
    (hbody : ∀ (ρ : Env) (σ : L2.St) (h : MH) (H : Hp) (acc : List PV) (ws : List V) (Kp : List PV → MH → Prop) (Nx : Hp → Prop), RepSt K H ρ σ → Rel K (HidD A D) H h → H D = some (.lst ws) → RepL K H acc ws → bodyW ρ h acc Kp →
      (∀ acc' h' ws' H', Mon A H H' → Rel K (HidD A D) H' h' → H' D = some (.lst ws') → RepL K H' acc' ws' → Kp acc' h' → Nx H') → body σ H Nx)
    {It1 : It} {it : Items} {H0 H1 : Hp} (io : ItOk K A It1 it H0) (m01 : Mon A H0 H1) {ρ : Env} {σ : L2.St} {h1 : MH} {acc : List PV} {ws : List V} {Kp : List PV → MH → Prop} {Nx : Hp → Prop}
    (rs : RepSt K H1 ρ σ) (r1 : Rel K (HidD A D) H1 h1) (hD : H1 D = some (.lst ws)) (la : RepL K H1 acc ws)
    (Iv : Nat → List PV → MH → Prop) (a0 : Iv 0 acc h1)
    (a1 : ∀ i x acc h2, it.xs[i]? = some x → Iv i acc h2 → it.keep h2 ∧ ∃ ρ2, c.t.set x (wipeE ρ c.vs) = some ρ2 ∧ c.wt ρ2 h2 fun b h3 => if b = true then bodyW ρ2 h3 acc (Iv (i + 1)) else Iv (i + 1) acc h3)
    (a2 : ∀ acc h2, Iv it.xs.length acc h2 → it.keep h2 ∧ Kp acc h2)
    (hN : ∀ acc' h' ws' H', Mon A H1 H' → Rel K (HidD A D) H' h' → H' D = some (.lst ws') → RepL K H' acc' ws' → Kp acc' h' → Nx H') : tLp body c' σ It1 H1 Nx := by
  refine ⟨fun i n H2 => ∃ acc h2 ws, n = it.xs.length - i ∧ i ≤ it.xs.length ∧ Iv i acc h2 ∧ Mon A H1 H2 ∧ Rel K (HidD A D) H2 h2 ∧ H2 D = some (.lst ws) ∧ RepL K H2 acc ws,
    ⟨_, acc, h1, ws, rfl, Nat.zero_le _, a0, .refl, r1, hD, la⟩, ?_⟩
  rintro i n H2 ⟨acc, h2, ws, rfl, hi, iv, m2, r2, hD2, la⟩
  have r2A : Rel K A H2 h2 := r2.sub fun d hd => .inl hd
  have m02 := m01.trans m2
  by_cases hlt : i < it.xs.length
  · obtain ⟨x0, hx0⟩ : ∃ x, it.xs[i]? = some x := ⟨_, List.getElem?_eq_getElem hlt⟩
    obtain ⟨kp, _⟩ := a1 i x0 acc h2 hx0 iv
    refine .inr ⟨io.go i H2 h2 hlt m02 r2A kp, fun H' => ∃ acc h2 ws, Iv (i + 1) acc h2 ∧ Mon A H1 H' ∧ Rel K (HidD A D) H' h2 ∧ H' D = some (.lst ws) ∧ RepL K H' acc ws,
      fun H' ⟨acc, h2, ws, q⟩ => ⟨it.xs.length - (i + 1), by omega, acc, h2, ws, rfl, hlt, q⟩, fun x H3 yl => ?_⟩
    obtain ⟨p, ep, rp, hH3⟩ := io.yld i H2 h2 x H3 hlt m02 r2A kp yl
    have m23 : Mon (HidD A D) H2 H3 := by
      rcases hH3 with rfl | ⟨T, us, hT, rfl⟩
      · exact .refl
      · exact r2.mon_new hT
    have r3 : Rel K (HidD A D) H3 h2 := by
      rcases hH3 with rfl | ⟨T, us, hT, rfl⟩
      · exact r2
      · exact r2.laid hT
    obtain ⟨_, ρ2, es, q⟩ := a1 i p acc h2 ep iv
    have rs3 : RepSt K H3 ρ σ := rs.mon (m2.trans (m23.sub fun d hd => .inl hd))
    rw [cr.g, cr.tt, cr.vs]
    refine ST.set_ok c.t rp (rs3.wipe _) es fun σ2 rs2 hwp => ⟨?_, ?_⟩
    · rw [hwp _ cr.sub]
      exact wipe_idem
    · refine tT_of (J := J0) (A := HidD A D) j0 trivial rs2 r3 cr.mt q fun bb h3 H4 qb _ rs4 m4 r4 => ?_
      have la4 : RepL K H4 acc ws := (la.mon m23).mon m4
      have hD4 : H4 D = some (.lst ws) := (m4.hid D (.inr rfl)).trans ((m23.hid D (.inr rfl)).trans hD2)
      have mA4 : Mon A H1 H4 := m2.trans ((m23.trans m4).sub fun d hd => .inl hd)
      cases bb with
      | false => exact ⟨acc, h3, ws, qb, mA4, r4, hD4, la4⟩
      | true => exact hbody ρ2 σ2 h3 H4 acc ws _ _ rs4 r4 hD4 la4 qb fun acc' h' ws' H' mo r' hD' la' iv' => ⟨acc', h', ws', iv', mA4.trans mo, r', hD', la'⟩
  · have e : i = it.xs.length := by omega
    subst e
    obtain ⟨kp, al⟩ := a2 acc h2 iv
    exact .inl ⟨io.stop H2 h2 m02 r2A kp, hN acc h2 ws H2 m2 r2 hD2 la al⟩
theorem cl_bridge {we : WE} (me : MonE we) (np : ∀ d, A d → d ≠ D) : ∀ (cs : List ClW) (cs' : List ClI), ClRels K J0 cs cs' → ∀ (ρ : Env) (σ : L2.St) (h : MH) (H : Hp) (acc : List PV) (ws : List V) (Kp : List PV → MH → Prop) (Nx : Hp → Prop),
    RepSt K H ρ σ → Rel K (HidD A D) H h → H D = some (.lst ws) → RepL K H acc ws → wCl we cs ρ h acc Kp →
    (∀ acc' h' ws' H', Mon A H H' → Rel K (HidD A D) H' h' → H' D = some (.lst ws') → RepL K H' acc' ws' → Kp acc' h' → Nx H') → tCl (tE K J0 we) D cs' σ H Nx
  | [], _, .nil, ρ, σ, h, H, acc, ws, Kp, Nx, rs, r, hD, la, hw, hN => by
    refine tE_of (J := J0) (A := HidD A D) j0 trivial rs r me hw fun y h4 v H5 ⟨hz, qy⟩ _ rs5 m5 r5 rv => ?_
    have hD5 : H5 D = some (.lst ws) := (m5.hid D (.inr rfl)).trans hD
    have la5 := la.mon m5
    have mw : Mon A H5 (upd H5 D (.lst (ws ++ [v]))) := Ev.mon_write hD5 (fun _ z => nomatch z) (fun _ _ z => nomatch z) np
    refine ⟨ws, hD5, by rw [← la5.length]; exact hz, hN (acc ++ [y]) h4 (ws ++ [v]) _ ((m5.sub fun d hd => .inl hd).trans mw) ⟨fun a o e => ?_, fun d hd => ?_⟩ upd_same ((la5.mon mw).append (.cons (rv.mon mw) .nil)) qy⟩
    · have na : a ≠ D := fun z => by
        have := (r5.hid D (.inr rfl)).1
        rw [← z, e] at this; cases this
      exact (r5.obj a o e).mon mw (upd_ne na)
    · obtain ⟨h1', o', h2'⟩ := r5.hid d hd
      refine ⟨h1', ?_⟩
      by_cases hdD : d = D
      · subst hdD; exact ⟨_, upd_same⟩
      · exact ⟨o', by rw [upd_ne hdD]; exact h2'⟩
  | c :: cs, _, .cons (c' := c') (cs' := cs') cr crs, ρ, σ, h, H, acc, ws, Kp, Nx, rs, r, hD, la, hw, hN => by
    show c'.wi σ H fun J H4 => tLp (tCl (tE K J0 we) D cs') c' σ J H4 Nx
    rw [cr.wi]
    refine ⟨HidD A D, ρ, h, trivial, rs, r, cr.mi _ _ _ _ (fun it h1 ⟨Iv, a0, a1, a2⟩ It1 H1 m1 r1 io => ?_) hw⟩
    have hD1 : H1 D = some (.lst ws) := (m1.hid D (.inr rfl)).trans hD
    exact lp_bridge cr np (fun ρ σ h H acc ws Kp Nx rs r hD la hw hN => cl_bridge me np cs cs' crs ρ σ h H acc ws Kp Nx rs r hD la hw hN) (io A fun d hd => .inl hd) .refl (rs.mon m1) r1 hD1 (la.mon m1) Iv a0 a1 a2
      fun acc' h' ws' H' mo r' hD' la' kp => hN acc' h' ws' H' ((m1.sub fun d hd => .inl hd).trans mo) r' hD' la' kp
end
section
variable {X : Cx} {c : Cfg} {G : Ctx} {gl : Str → PV} {k : Nat} {J : Jw} {ex : Env → XV}
theorem s_compN {we : WE} (f : Bool) {cw : ClW} {cws : List ClW} {ci : ClI} {cis : List ClI} (me : MonE we) (cr : ClRel X.K J cw ci) (crs : ClRels X.K J0 cws cis) : ∀ {σ : L2.St} {H : Hp} {Q : VK}, tE X.K J (wCompN f (cw :: cws) we) σ H Q → tLcN (tE X.K J0 we) ci cis σ H (fzm f Q) := by
  rintro σ H Q ⟨A, ρ, h, j, rs, r, hw⟩
  show ci.wi σ H _
  rw [cr.wi]
  refine ⟨A, ρ, h, j, rs, r, cr.mi _ _ _ _ (fun it h1 ⟨Iv, a0, a1, a2⟩ It1 H1 m1 r1 io => ?_) hw⟩
  intro D hD
  have np : ∀ d, A d → d ≠ D := r1.nothid hD
  -- with the new list out of sight
  have rB0 : Rel X.K (HidD A D) (upd H1 D (.lst [])) h1 := by
    have l := r1.laid (o := .lst []) hD
    refine ⟨l.obj, fun d hd => ?_⟩
    rcases hd with hd | rfl
    · exact l.hid d hd
    · exact ⟨r1.free hD, _, upd_same⟩
  refine lp_bridge cr np (fun ρ σ h H acc ws Kp Nx rs r hD la hw hN => cl_bridge me np cws cis crs ρ σ h H acc ws Kp Nx rs r hD la hw hN) (io A fun _ z => z) (r1.mon_new hD) (rs.mon (m1.trans (r1.mon_new hD))) rB0 upd_same .nil Iv a0 a1 a2 ?_
  intro acc h2 ws H2 m2 r2 hD2 la al
  have r2A : Rel X.K A H2 h2 := r2.sub fun d hd => .inl hd
  have hDh := (r2.hid D (.inr rfl)).1
  have m02 : Mon A H1 H2 := (r1.mon_new hD).trans m2
  have eH : upd H2 D (.lst ws) = H2 := by
    funext b
    by_cases hb : b = D
    · subst hb; rw [upd_same, hD2]
    · rw [upd_ne hb]
  have mz : ∀ o, Mon A H2 (upd H2 D (.frz o (.lst ws))) := fun o => Ev.mon_write hD2 (fun _ z => nomatch z) (fun _ _ z => nomatch z) np
  show fzm f Q (.ref D) H2
  rw [← eH]
  refine alloc_at (H0 := H) (A := A) (h := h2) (xs := acc) (by rw [eH]; exact m1.trans m02) (by rw [eH]; exact r2A) hDh np (fun o => (m1.trans m02).trans (mz o)) (by rw [eH]; exact la) (fun o => la.mon (mz o)) (fun o => ?_) al
  refine ⟨fun a u e => ?_, fun d hd => ?_⟩
  · have na : a ≠ D := fun z => by rw [z, hDh] at e; cases e
    exact (r2A.obj a u e).mon (mz o) (upd_ne na)
  · obtain ⟨h1', o', h2'⟩ := r2A.hid d hd
    exact ⟨h1', o', by rw [upd_ne (np d hd)]; exact h2'⟩
end
end Ev

set_option Elab.async false
set_option linter.all false
set_option maxRecDepth 100000
set_option maxHeartbeats 4000000
/-! EvL: how many different ints a display has: len({a, b, c}). -/
namespace Ev
open PySem PySem.Spec PyProof.Rows L2
def adds : (Int → Bool) → Nat → List Int → Nat
  | _, n, [] => n
  | S, n, k :: ks => adds (fun j => S j || decide (j = k)) (if S k = true then n else n + 1) ks
def setCard (ns : List Int) : Nat := adds (fun _ => false) 0 ns
theorem adds_congr {S T : Int → Bool} (e : ∀ k, S k = T k) (n : Nat) (ks : List Int) : adds S n ks = adds T n ks := by
  have : S = T := funext e
  rw [this]
section
variable {P : Program} {w : World} {A : Around} {E : Value → Shared → Prop} {s : Shared} {D : Addr}
theorem unledI {S : Int → Bool} {n : Nat} {Q : Unit → Shared → Prop} (hS : s.heap.SetOf (PySem.intKind P w) D S n) (h : ∀ h', h'.SetOf (PySem.intKind P w) D S n → (∀ b o, b ≠ D → s.heap.get? b = some o → h'.get? b = some o) → Q () { s with heap := h' }) :
    wpAny (model P w) A (setUnled D) Q E s := by
  obtain ⟨o, es, ep, t, ho, hex, hd, hel, hmem, hb, hf, hn⟩ := hS
  have hf' : ({ t with led := false } : SetTable).fits es.size = true := by cases t; exact hf
  unfold setUnled
  refine wpAny_bind (wpAny_setState_of ho hd hf ?_)
  dsimp only
  refine wpAny_storeSet_of ho hd ?_ (fits_of_scanBound hb)
  obtain ⟨_, hS⟩ := SetOf_store (knd := PySem.intKind P w) ho hex hd hel hmem hb hf'
  rw [hn] at hS
  have sb := Heap.SameBut.update s.heap D (Obj.putSet es { t with led := false })
  exact h _ hS fun b o hb e => (sb.2 b hb).trans e
theorem fill_ints {u : Bool} {h₀ : Heap} : ∀ {ns : List Int} {us : List Value}, Vals (ns.map V.int) us → ∀ (h : Heap) (k : Nat) (S : Int → Bool) (n : Nat) (Q : Value → Shared → Prop), h.SetOf (PySem.intKind P w) D S n →
    (∀ b o, b ≠ D → h₀.get? b = some o → h.get? b = some o) → n + ns.length < 4000 →
    (∀ h' k' S', h'.SetOf (PySem.intKind P w) D S' (adds S n ns) → (∀ b o, b ≠ D → h₀.get? b = some o → h'.get? b = some o) → PySem.W.KdsFill (model P w) A E u D Q [] { s with heap := h', toks := k' }) →
    PySem.W.KdsFill (model P w) A E u D Q us { s with heap := h, toks := k }
  | [], us, r, h, k, S, n, Q, hS, hk, _, q => by
    cases r
    exact q h k S hS hk
  | y :: ns, us, r, h, k, S, n, Q, hS, hk, hn, q => by
    cases r with
    | cons r1 r =>
    obtain ⟨t, rfl⟩ := r1
    rw [List.length_cons] at hn
    refine PySem.W.kds_fill_cons ?_
    unfold setAdd
    refine wpAny_holding (wpAny_bind ((PySem.intKind P w).pyHash (k := y) (intKind_is P w y t) ?_))
    refine wpAny_setAddHashed_of (knd := PySem.intKind P w) (s := { s with heap := h, toks := k + 1 }) (intKind_is P w y t) rfl hS (by unfold scanBound; omega) fun h' sb hS' => ?_
    exact fill_ints r h' (k + 1) _ _ Q hS' (fun b o hb e => (sb.2 b hb).trans (hk b o hb e)) (by split <;> omega) fun h2 k2 S2 a b => q h2 k2 S2 a b
end
theorem kdsAll_mono {M : Model} {A : Around} {E : Value → Shared → Prop} {env : PySem.Env} : ∀ (es : List Expr) (s : Shared) (Q Q' : List Value → Shared → Prop), (∀ us s, Q us s → Q' us s) → PySem.W.KdsAll M A E env es Q s → PySem.W.KdsAll M A E env es Q' s
  | [], s, Q, Q', k, h => k [] s h
  | e :: es, s, Q, Q', k, h => wpAny_mono (show wpAny M A (eval e env) (fun v s' => PySem.W.KdsAll M A E env es (fun vs => Q (v :: vs)) s') E s from h) (fun v s' h' => kdsAll_mono es s' _ _ (fun us s => k (v :: us) s) h') fun _ _ z => z
/-- the elements of a display, one after another -/
structure PEa (X : Cx) (es : List Expr) (t : TA) : Prop where
  run : ∀ (pins : List (Addr × Obj)) (s : Shared) (σ : L2.St) (H : Hp) (Q : List V → Hp → Prop), Inv X pins σ H s → t σ H Q →
    PySem.W.KdsAll (model X.prog X.w) X.A X.xe X.env es (fun us s' => ∃ vs H', Inv X pins σ H' s' ∧ Vals vs us ∧ Q vs H') s
section
variable {X : Cx} {c : Cfg} {G : Ctx} {gl : Str → PV} {k : Nat} {J : Jw} {ex : Env → XV} {a : Expr} {es : List Expr} {wa : WE} {wl : WA} {pos p1 p2 : Pos}
theorem ea_nil : PEa X [] (tA X.K J wNil) := ⟨fun pins s σ H Q I ⟨A, ρ, h, j, rs, r, q⟩ => ⟨[], H, I, .nil, q [] H .refl r .nil⟩⟩
theorem ea_cons (jj : JOk J) (ha : PE X a (tE X.K J wa)) (hl : PEa X es (tA X.K J wl)) (ma : MonE wa) (ml : MonA wl) : PEa X (a :: es) (tA X.K J (wCons wa wl)) := by
  refine ⟨fun pins s σ H Q I ⟨A, ρ, h, j, rs, r, hw⟩ => ?_⟩
  have key : tE X.K J wa σ H fun v H1 => tA X.K J wl σ H1 fun vs H2 => Q (v :: vs) H2 := by
    refine tE_of jj j rs r ma hw fun x h1 v H1 p j1 rs1 m1 r1 rv => ?_
    refine tA_of jj j1 rs1 r1 ml p fun xs h2 vs H2 q j2 rs2 m2 r2 rl => ?_
    exact q (v :: vs) H2 (m1.trans m2) r2 (.cons (rv.mon m2) rl)
  show wpAny _ _ (eval a X.env) (fun v s' => PySem.W.KdsAll (model X.prog X.w) X.A X.xe X.env es _ s') X.xe s
  refine thn (ha.run pins s σ H _ I key) fun u s1 ⟨v, H1, I1, rv, q⟩ => ?_
  exact kdsAll_mono es s1 _ _ (fun us s2 ⟨vs, H2, I2, rl, q2⟩ => ⟨v :: vs, H2, I2, .cons rv rl, q2⟩) (hl.run pins s1 σ H1 _ I1 q)
def wLens (wl : WA) : WE := fun ρ h Q => wl ρ h fun xs h1 => ∃ ns : List Int, xs = ns.map .int ∧ Q (.int (setCard ns)) h1
theorem mono_lens (ml : MonA wl) : MonE (wLens wl) := fun ρ h P Q k hw => ml _ _ _ _ (fun xs h1 ⟨ns, e, q⟩ => ⟨ns, e, k _ _ q⟩) hw
theorem display_ints {pins : List (Addr × Obj)} {σ : L2.St} {H : Hp} {s : Shared} {Q : Value → Shared → Prop} {t : TA} (I : Inv X pins σ H s) (hs : es.all PySem.W.kdsPlain = true) (hl : es.length ≤ 30) (hcd : PySem.W.kdsCode X.K X.env.code = true) (he : PEa X es t)
    (h : t σ H fun vs H2 => ∃ ns : List Int, vs = ns.map V.int ∧ ns.length ≤ 30 ∧ ∀ (s2 : Shared) (D : Addr) (S' : Int → Bool), Inv X pins σ H2 s2 → s2.heap.SetOf (PySem.intKind X.prog X.w) D S' (setCard ns) → Q (.ref D) s2) :
    wpAny (model X.prog X.w) X.A (eval (.Set es 0 pos) X.env) Q X.xe s := by
  rw [arm_eval_Set]
  refine wpAny_bind (wpAny_standAt ?_)
  refine wpAny_bind (PySem.W.kds_main I.kIn hcd fun b => ?_)
  rw [PySem.W.kds_star es hs, List.map_map]
  refine PySem.W.kds_core (ts := (evalEach es X.env).map fun t => do let v ← t; standAt pos; pure v) (road0 es) ?_ ?_ ?_ fun led => ?_
  · refine List.findIdx?_eq_none_iff.mpr fun x hx => ?_
    obtain ⟨t, _, rfl⟩ := List.mem_map.mp hx
    rfl
  · rw [List.length_map, PySem.W.kds_len]
    exact hl
  · rw [List.map_map]
    try rfl
  · generalize hD : s.heap.objs.size = D
    generalize hs1 : ({ s with heap := s.heap.push { cls := .type "set", dict := none, data := .set #[] 0 (.fresh 0 0 led) } } : Shared) = s1
    have hDn : H D = none := I.hok.fresh (Nat.le_of_eq hD)
    have I1 : Inv X pins σ H s1 := by
      rw [← hs1]
      exact I.kept (t' := s.toks) fun b o e => Heap.get?_push_of_some _ e
    have gD : s1.heap.get? D = some { cls := .type "set", dict := none, data := .set #[] 0 (.fresh 0 0 led) } := by
      rw [← hs1, ← hD]
      exact Heap.get?_push_size _ rfl
    have fp : FpOk X pins H D := I.fpOk (Nat.le_of_eq hD) hDn
    have I1p := I1.pinned (fp := [D]) (fun b hb => by rw [List.mem_singleton.mp hb]; exact fp) (fun b hb => by rw [List.mem_singleton.mp hb]; exact ⟨_, gD, fun v z => nomatch z⟩)
    refine PySem.W.kds_all pos es _ _ (kdsAll_mono es s1 _ _ ?_ (he.run _ s1 σ H _ I1p h))
    rintro us s2 ⟨vs, H2, I2, rl, ns, rfl, hz, q⟩
    have pin := I2.pin (D, _) (List.mem_append_right _ (List.mem_append_right _ (mem_pinsAt (List.mem_singleton.mpr rfl) gD)))
    have I3 : Inv X pins σ H2 s2 := I2.unpinned
    obtain ⟨f0, f1, f2, f3, f4, f5⟩ := fp
    have gD2 : s2.heap.get? D = some { cls := .type "set", dict := none, data := .set #[] 0 (.fresh 0 0 led) } := pin.1
    have fill := fill_ints (P := X.prog) (w := X.w) (A := X.A) (E := X.xe) (s := s2) (D := D) (u := (displayRoad 0 es == DisplayRoad.unsure)) (h₀ := s2.heap) rl s2.heap s2.toks (fun _ => false) 0 Q ((setObjOf_fresh (knd := PySem.intKind X.prog X.w) led).setOf gD2 (by decide)) (fun b o _ e => e) (by omega) fun h' k' S' hS hk => ?_
    · exact fill
    · have J : ∀ h2 k2, (∀ b o, b ≠ D → s2.heap.get? b = some o → h2.get? b = some o) → Inv X pins σ H2 { s2 with heap := h2, toks := k2 } := fun h2 k2 kk => I3.turned (it := D) (t' := k2) kk pin.2.1 f1 f3 f4 f5
      cases hu : (displayRoad 0 es == DisplayRoad.unsure) with
      | false => exact PySem.W.kds_fill_nil rfl (q { s2 with heap := h', toks := k' } D S' (J h' k' hk) hS)
      | true => exact PySem.W.kds_fill_unled rfl (unledI (s := { s2 with heap := h', toks := k' }) hS fun h2 hS2 sb => q { s2 with heap := h2, toks := k' } D S' (J h2 k' fun b o hb e => sb b o hb (hk b o hb e)) hS2)
theorem s_lens (m : Match X c G gl k J ex) {kk : Nat} (hk : kk = 0) (hg : Gl X "len") (hm : X.mg "len" = none) (he : PEa X es (tA X.K J wl)) (ml : MonA wl) (hs : es.all PySem.W.kdsPlain = true) (hl : es.length ≤ 30)
    (len : ∀ {ρ h Q}, wl ρ h Q → wl ρ h fun xs h1 => xs.length = es.length ∧ Q xs h1) : PE X (.Call (.Name "len" p2) [.Set es kk p1] [] pos) (tE X.K J (wLens wl)) := by
  subst hk
  refine ⟨fun pins s σ H Q I ⟨A, ρ, h, j, rs, r, hw⟩ => ?_⟩
  refine wpAny_Call_Name_kw (ld_blt I hg hm PySem.boot_len ?_ (by decide) (by decide))
  refine PyProof.Rows.callWith_builtin1 (wpAny_items_cons ?_ rfl) rfl rfl
  refine display_ints (t := tA X.K J wl) I hs hl m.kds he ?_
  refine tA_of m.jj j rs r ml (len hw) fun xs h1 vs H1 ⟨hlen, ns, e, q⟩ j1 rs1 m1 r1 rl => ?_
  subst e
  refine ⟨ns, rl.map_int, by simp only [List.length_map] at hlen; omega, fun s2 D S' I2 hS => ?_⟩
  refine wpAny_items_nil ?_
  obtain ⟨o, es', ep, t, ho, hex, hd, hel, hmem, hb, hf, hn⟩ := hS
  refine PySem.call_len_set ho hex hd hf (by unfold scanBound at hb; omega) ⟨.int (setCard ns), H1, I2.tok _, ⟨s2.toks + 1, by rw [hn]⟩, ?_⟩
  exact q (.int _) H1 m1 r1 (.int _)
end
end Ev

set_option Elab.async false
set_option linter.all false
set_option maxRecDepth 100000
set_option maxHeartbeats 4000000
/-! EvF: places in lists, instances made of plain arguments, stores to tuples of targets, tuples of ranges, list.pop(i). -/
namespace Ev
open PySem PySem.Spec PyProof.Rows L2
section
variable {X : Cx} {c : Cfg} {G : Ctx} {gl : Str → PV} {k : Nat} {J : Jw} {ex : Env → XV} {a b d e : Expr} {es : List Expr} {wa wb wd : WE} {wl : WA} {pos : Pos}
/-! ### l.index(x) -/
def isLstP (h : MH) (x : PV) : Prop := ∃ xs, asLst h x = some xs
theorem isLstP_ty {K : Frag} {A : Addr → Prop} {H : Hp} {h : MH} {x : PV} {v : V} (r : Rel K A H h) (rv : RepV K H x v) (e : isLstP h x) : tyV K "list" v H := by
  obtain ⟨xs, e⟩ := e
  obtain ⟨p, vs, rfl, q, l⟩ := asLst_rd r rv e
  exact .inl ⟨rfl, vs, .inl q⟩
def opLix : O2 := fun x y h Q => ∃ xs d ds j z, asLst h x = some xs ∧ datL (deref h 5) xs = some ds ∧ dat h y = some d ∧ SeqAt.shaped (.list ds) = true ∧ SeqAt.shaped d = true ∧
  ds[j]? = some z ∧ PyData.eqv z d = true ∧ (∀ (m : Nat) (z' : PyData), m < j → ds[m]? = some z' → PyData.eqv z' d = false) ∧ Q (.int (j : Nat)) h
theorem mono_opLix : Mon2 opLix := fun x y h P Q k ⟨xs, d, ds, j, z, e1, e2, e3, e4, e5, e6, e7, e8, q⟩ => ⟨xs, d, ds, j, z, e1, e2, e3, e4, e5, e6, e7, e8, k _ _ q⟩
def wLix (wa wb : WE) : WE := fun ρ h Q => wa ρ h fun x h1 => isLstP h1 x ∧ wb ρ h1 fun y h2 => opLix x y h2 Q
theorem mono_lix (ma : MonE wa) (mb : MonE wb) : MonE (wLix wa wb) := fun ρ h P Q k hw => ma _ _ _ _ (fun x h1 ⟨e, z⟩ => ⟨e, mb _ _ _ _ (fun y h2 z => mono_opLix _ _ _ _ _ k z) z⟩) hw
def lLix (K : Frag) : V → List V → Hp → VK → Prop := fun x vs H Q => ∃ A a b h v, vs = [v] ∧ Rel K A H h ∧ RepV K H a x ∧ RepV K H b v ∧ opLix a b h (up K A H Q)
theorem ok_lix (hu : X.A.units + 65 < cLine) : MtR X "list.index" (lLix X.K) := by
  rintro pins s σ H x vs v us Q I rx rvs ⟨A, a, b, h, w, rfl, r, ra, rb, xs, d, ds, j, z, e1, e2, e3, e4, e5, e6, e7, e8, q⟩
  obtain ⟨p, ws, rfl, rd, l⟩ := asLst_rd r ra e1
  exact mt_indexD hu pins s σ H _ _ v us Q I rx rvs ⟨p, w, d, ds, j, z, rfl, rfl, .lst (.inl rd) (datL_dp (deref_dp r 5) l e2), dat_dp r rb e3, e4, e5, e6, e7, e8, q.now r (.int _)⟩
theorem s_lix {apos : Pos} (m : Match X c G gl k J ex) (ha : PE X a (tE X.K J wa)) (hb : PE X b (tE X.K J wb)) (ma : MonE wa) (mb : MonE wb) (hbase : attributeBase a "index" X.env (eval a X.env) = eval a X.env)
    (hfew : ((backTo pos (starEach [b] X.env)).all (fun x => !x.1) && (backToKw pos (keywordEach [] X.env)).all (fun x => x.1.isSome) && decide ([b].length + ([] : List Keyword).length + (if ([] : List Keyword).isEmpty then 0 else 1) < 30)) = true)
    (hline : (apos.endLine == pos.line) = true) (hs : starEach [b] X.env = (false, eval b X.env) :: starEach [] X.env) : PE X (.Call (.Attribute a "index" apos) [b] [] pos) (tE X.K J (wLix wa wb)) := by
  refine ⟨fun pins s σ H Q I ⟨A, ρ, h, j, rs, r, hw⟩ => (pe_bm PySem.F.plainAttrs_list PySem.F.slot_list_index PySem.F.type_list_index (ok_lix (room65 m.room)) ha (pa_cons hb pa_nil hs) hbase hfew hline hs rfl).run pins s σ H Q I ?_⟩
  refine tE_of m.jj j rs r ma hw fun x h1 v H1 ⟨e, p⟩ j1 rs1 m1 r1 rv => ⟨isLstP_ty r1 rv e, ?_⟩
  refine tE_of m.jj j1 rs1 r1 mb p fun y h2 w H2 q j2 rs2 m2 r2 rw' => ?_
  exact ⟨A, x, y, h2, w, rfl, r2, rv.mon m2, rw', mono_opLix _ _ _ _ _ (fun z h3 u => up.trans (m1.trans m2) u) q⟩

/-! ### l.pop(i) -/
def opPopi : O2 := fun x y h Q => ∃ (p : Addr) (xs : List PV) (i j : Nat) (z : PV), x = .ref p ∧ h p = some (.lst xs) ∧ y = .int i ∧ i = j ∧ xs.length ≤ 1000 ∧ xs[j]? = some z ∧ Q z (mupd h p (.lst (xs.eraseIdx j)))
theorem mono_opPopi : Mon2 opPopi := fun x y h P Q k ⟨p, xs, i, j, z, e1, e2, e3, e4, e5, e6, q⟩ => ⟨p, xs, i, j, z, e1, e2, e3, e4, e5, e6, k _ _ q⟩
def wPopi (wa wb : WE) : WE := fun ρ h Q => wa ρ h fun x h1 => isRefL h1 x ∧ wb ρ h1 fun y h2 => opPopi x y h2 Q
theorem mono_popi (ma : MonE wa) (mb : MonE wb) : MonE (wPopi wa wb) := fun ρ h P Q k hw => ma _ _ _ _ (fun x h1 ⟨e, z⟩ => ⟨e, mb _ _ _ _ (fun y h2 z => mono_opPopi _ _ _ _ _ k z) z⟩) hw
def lPopi (K : Frag) : V → List V → Hp → VK → Prop := fun x vs H Q => ∃ A a b h v, vs = [v] ∧ Rel K A H h ∧ RepV K H a x ∧ RepV K H b v ∧ opPopi a b h (up K A H Q)
theorem RepL.erase {K : Frag} {H : Hp} : ∀ {xs : List PV} {vs : List V} (i : Nat), RepL K H xs vs → RepL K H (xs.eraseIdx i) (vs.eraseIdx i)
  | _, _, _, .nil => .nil
  | _, _, 0, .cons _ t => t
  | _, _, i + 1, .cons q t => .cons q (RepL.erase i t)
theorem ok_popi : MtR X "list.pop" (lPopi X.K) := by
  rintro pins s σ H x vs v us Q I rx rvs ⟨A, a, b, h, w, rfl, r, ra, rb, p, xs, i, j, z, rfl, e2, rfl, rfl, e5, e6, q⟩
  cases ra
  cases rb
  obtain ⟨ws, eH, lx⟩ := r.obj _ _ e2
  obtain ⟨u, eu, ru⟩ := lx.get e6
  have hi : i < ws.length := by rw [← lx.length]; exact (List.getElem?_eq_some_iff.mp e6).1
  have mw := r.mon_write (o := .lst (ws.eraseIdx i)) e2
  refine mt_popAt pins s σ H _ _ v us Q I rx rvs ⟨p, ws, (i : Int), i, u, rfl, rfl, eH, by omega, by have := lx.length; omega, ?_, eu, q u _ mw (r.write e2 ⟨_, upd_same, (RepL.erase i (lx.mon mw))⟩) (ru.mon mw)⟩
  unfold seqIndex?
  have e0 : ¬ ((i : Int) < 0) := by omega
  simp [e0, hi]
theorem s_popi {apos : Pos} (m : Match X c G gl k J ex) (ha : PE X a (tE X.K J wa)) (hb : PE X b (tE X.K J wb)) (ma : MonE wa) (mb : MonE wb) (hbase : attributeBase a "pop" X.env (eval a X.env) = eval a X.env)
    (hfew : ((backTo pos (starEach [b] X.env)).all (fun x => !x.1) && (backToKw pos (keywordEach [] X.env)).all (fun x => x.1.isSome) && decide ([b].length + ([] : List Keyword).length + (if ([] : List Keyword).isEmpty then 0 else 1) < 30)) = true)
    (hline : (apos.endLine == pos.line) = true) (hs : starEach [b] X.env = (false, eval b X.env) :: starEach [] X.env) : PE X (.Call (.Attribute a "pop" apos) [b] [] pos) (tE X.K J (wPopi wa wb)) := by
  refine ⟨fun pins s σ H Q I ⟨A, ρ, h, j, rs, r, hw⟩ => (pe_bm PySem.F.plainAttrs_list PySem.F.slot_list_pop PySem.F.type_list_pop ok_popi ha (pa_cons hb pa_nil hs) hbase hfew hline hs rfl).run pins s σ H Q I ?_⟩
  refine tE_of m.jj j rs r ma hw fun x h1 v H1 ⟨e, p⟩ j1 rs1 m1 r1 rv => ⟨isRefL_ty r1 rv e, ?_⟩
  refine tE_of m.jj j1 rs1 r1 mb p fun y h2 w H2 q j2 rs2 m2 r2 rw' => ?_
  exact ⟨A, x, y, h2, w, rfl, r2, rv.mon m2, rw', mono_opPopi _ _ _ _ _ (fun z h3 u => up.trans (m1.trans m2) u) q⟩

/-! ### tuple(range(..)) -/
def wTr1 (wa : WE) : WE := fun ρ h Q => wa ρ h fun x h1 => ∃ j, x = .int j ∧ RgOk 0 j ∧ Q (.tup (rngL 0 j)) h1
theorem mono_tr1 (ma : MonE wa) : MonE (wTr1 wa) := fun ρ h P Q k hw => ma _ _ _ _ (fun x h1 ⟨j, e, o, z⟩ => ⟨j, e, o, k _ _ z⟩) hw
theorem s_tr1 {p p2 pos2 : Pos} (m : Match X c G gl k J ex) (hg : Gl X "tuple") (hm : X.mg "tuple" = none) (hg2 : Gl X "range") (hm2 : X.mg "range" = none) (ha : PE X a (tE X.K J wa)) (ma : MonE wa) (he : starEach [a] X.env = (false, eval a X.env) :: starEach [] X.env) :
    PE X (.Call (.Name "tuple" p) [.Call (.Name "range" p2) [a] [] pos2] [] pos) (tE X.K J (wTr1 wa)) := by
  have base := pe_tupRg (p := p) (pos := pos) m.calm hg hm (prg_1 (p := p2) (pos := pos2) hg2 hm2 ha he) rfl
  refine ⟨fun pins s σ H Q I ⟨A, ρ, h, j, rs, r, hw⟩ => base.run pins s σ H Q I ?_⟩
  refine tE_of m.jj j rs r ma hw fun x h1 v H1 ⟨n, e, ok, q⟩ j1 rs1 m1 r1 rv => ?_
  subst e
  cases rv
  exact ⟨n, rfl, ok, fun p hp => tup_new r1 rngL_rep hp (up.trans m1 q)⟩

/-! ### C(..): plain arguments -/
def wMk0 (C : Str) (n : Nat) (sp : Spec) (wl : WA) : WE := fun ρ h Q => wl ρ h fun xs h1 => xs.length = n ∧ ∀ p, h1 p = none → sp (.ref p :: xs) (mupd h1 p (.ins C [])) (fun v h2 => v = .non ∧ Q (.ref p) h2) noX
theorem mono_mk0 {C : Str} {n : Nat} {sp : Spec} (hs : ∀ as h (P Q : PK) (R T : XV), (∀ x h, P x h → Q x h) → (∀ c fs h, R c fs h → T c fs h) → sp as h P R → sp as h Q T) (ml : MonA wl) : MonE (wMk0 C n sp wl) :=
  fun ρ h P Q k hw => ml _ _ _ _ (fun xs h1 ⟨n1, q⟩ => ⟨n1, fun p hp => hs _ _ _ _ _ _ (fun v h2 z => ⟨z.1, k _ _ z.2⟩) (fun _ _ _ z => z) (q p hp)⟩) hw
theorem s_mk0 (m : Match X c G gl k J ex) {C : Str} {ps : List Str} {sp : Spec} (hsm : ∀ as h (P Q : PK) (R T : XV), (∀ x h, P x h → Q x h) → (∀ c fs h, R c fs h → T c fs h) → sp as h P R → sp as h Q T)
    (O : Mk0Ok X.prog X.w X.K X.mg X.base k C ps sp) (hg : Gl X C) (hd : (C == ("__debug__" : Str)) = false) {pos2 : Pos} {n : Nat} (hn : ps.length = n + 1)
    (ha : PA X (e :: es) (tA X.K J wl)) (ml : MonA wl) (he : starEach (e :: es) X.env = (false, eval e X.env) :: starEach es X.env) (hpl : (backTo pos (starEach es X.env)).any (·.1) = false) :
    PE X (.Call (.Name C pos2) (e :: es) [] pos) (tE X.K J (wMk0 C n sp wl)) := by
  obtain ⟨hm, ⟨f, fd, M, B, F⟩, hz⟩ := O
  refine ⟨fun pins s σ H Q I ⟨A, ρ, h, j, rs, r, hw⟩ => ?_⟩
  refine wpAny_Call_Name_kw (ld_glob I hg hm ?_ hd)
  have key : tA X.K J wl σ H fun vs H1 => ∃ (h1 : MH) (as : List PV), Rel X.K A H1 h1 ∧ RepL X.K H1 as vs ∧ as.length = n ∧ ∀ p, h1 p = none → sp (.ref p :: as) (mupd h1 p (.ins C [])) (fun v h2 => v = .non ∧ up X.K A H1 Q (.ref p) h2) noX :=
    tA_of m.jj j rs r ml hw fun xs h1 vs H1 ⟨n1, q⟩ j1 rs1 m1 r1 rl => ⟨h1, xs, r1, rl, n1, fun p hp => hsm _ _ _ _ _ _ (fun v h2 z => ⟨z.1, up.trans m1 z.2⟩) (fun _ _ _ z => z) (q p hp)⟩
  refine PySem.W.callWith_K (h₀ := X.base) I.ok.mod.kin M.kp (thn (ha.run pos pins s σ H _ I key) fun us s1 ⟨vs, H1, I1, rv, h1, as, r1, rl, n1, q⟩ => ⟨I1.kIn, ?_⟩) he hpl
  have I2 := Inv.made (C := He.ga X.K C) I1
  have nx : H1 (s1.heap.objs.size + 1) = none := I1.hok.fresh (Nat.le_succ _)
  have nd : H1 s1.heap.objs.size = none := I1.hok.fresh (Nat.le_refl _)
  obtain ⟨r2, m2, fx⟩ := r1.made (C := C) nx nd (Nat.ne_of_lt (Nat.lt_succ_self _))
  cases k with
  | zero => exact (hz rfl _ _ _ _ (q _ fx)).elim
  | succ k =>
  have F := F k rfl
  have hr : Room (k + 1) X.A := m.room
  have rv2 : Vals (V.ref (s1.heap.objs.size + 1) :: vs) (Value.ref (s1.heap.objs.size + 1) :: us) := .cons rfl rv
  have hl : (V.ref (s1.heap.objs.size + 1) :: vs).length = ps.length := by rw [List.length_cons, ← rl.length, n1, hn]
  have bd := B _ (Value.ref (s1.heap.objs.size + 1) :: us) I2.kIn (by rw [List.append_nil, ← rv2.length]; exact hl)
  rw [List.append_nil] at bd
  refine wpAny_call (make_map (f := f) I1.kIn M.makes M.init (beq_iff_eq.mp M.fn) (codeAny_mono (F.run _ X.stack _ _ ⟨Value.ref (s1.heap.objs.size + 1) :: us, []⟩ (Value.ref (s1.heap.objs.size + 1) :: us) _ (fun v H2 => v = .non ∧ Q (.ref (s1.heap.objs.size + 1)) H2) (fun _ _ _ => False) m.gd (hr.make (He.ga X.K C) us []) (I2.env0.make (He.ga X.K C) us []) bd rv2
    hl ⟨A, .ref (s1.heap.objs.size + 1) :: as, _, r2, .cons (.ref _) (rl.mon m2), ?_⟩) fun r s' hq' => ?_))
  · have z := q _ fx
    exact hsm _ _ _ _ _ _ (fun v h2 ⟨z1, z2⟩ u H' mo re rv => by
      subst z1
      cases rv
      exact ⟨rfl, z2 (.ref _) H' (m2.trans mo) re (.ref _)⟩) (fun _ _ _ z => z.elim) z
  · cases r with
    | error e =>
      obtain ⟨_, _, _, _, _, _, _, _, _, _, _, _, z⟩ := hq'
      exact z.elim
    | ok fl =>
      cases fl with
      | ret u =>
        obtain ⟨v, H', I3, rv, ev, q3⟩ := I2.after hq'
        subst ev
        exact ⟨rv, ⟨V.ref (s1.heap.objs.size + 1), H', I3, rfl, q3⟩⟩
      | next => exact False.elim hq'
      | brk => exact False.elim hq'
      | cont => exact False.elim hq'

/-! ### (t, o[i], o.f) = v -/
inductive WTg where
  | st (t : ST) | sub (wo wi : WE) | fld (C f : Str) (wo : WE)
def WTg.run : WTg → PV → Env → MH → (Env → MH → Prop) → Prop
  | .st t, x, ρ, h, R => ∃ ρ2, t.set x ρ = some ρ2 ∧ R ρ2 h
  | .sub wo wi, x, ρ, h, R => wo ρ h fun o h2 => wi ρ h2 fun i h3 => setOp o i x h3 fun h4 => R ρ h4
  | .fld C f wo, x, ρ, h, R => wo ρ h fun o h2 => ∃ p fs, o = .ref p ∧ h2 p = some (.ins C fs) ∧ fs.length < 1000 ∧ R ρ (mupd h2 p (.ins C (putA f x fs)))
def WTg.mon : WTg → Prop
  | .st _ => True
  | .sub wo wi => MonE wo ∧ MonE wi
  | .fld _ _ wo => MonE wo
theorem WTg.run_mono {t : WTg} (hm : t.mon) {x : PV} {ρ : Env} {h : MH} {P Q : Env → MH → Prop} (k : ∀ ρ h, P ρ h → Q ρ h) (hw : t.run x ρ h P) : t.run x ρ h Q := by
  cases t with
  | st t => obtain ⟨ρ2, e, p⟩ := hw; exact ⟨ρ2, e, k _ _ p⟩
  | sub wo wi => exact hm.1 _ _ _ _ (fun o h2 z => hm.2 _ _ _ _ (fun i h3 z => mono_setOp (fun h4 z => k _ _ z) z) z) hw
  | fld C f wo => exact (show MonE wo from hm) _ _ _ _ (fun o h2 ⟨p, fs, e1, e2, e3, z⟩ => ⟨p, fs, e1, e2, e3, k _ _ z⟩) hw
def wTgs : List WTg → List PV → Env → MH → (Env → MH → Prop) → Prop
  | [], [], ρ, h, R => R ρ h
  | t :: ts, x :: xs, ρ, h, R => t.run x ρ h fun ρ2 h2 => wTgs ts xs ρ2 h2 R
  | _, _, _, _, _ => False
theorem wTgs_mono : ∀ {ts : List WTg} {xs : List PV} {ρ : Env} {h : MH} {P Q : Env → MH → Prop}, (∀ t ∈ ts, t.mon) → (∀ ρ h, P ρ h → Q ρ h) → wTgs ts xs ρ h P → wTgs ts xs ρ h Q
  | [], [], _, _, _, _, _, k, hw => k _ _ hw
  | [], _ :: _, _, _, _, _, _, _, hw => hw.elim
  | _ :: _, [], _, _, _, _, _, _, hw => hw.elim
  | t :: ts, x :: xs, _, _, _, _, hm, k, hw => WTg.run_mono (hm t List.mem_cons_self) (fun _ _ z => wTgs_mono (fun t ht => hm t (List.mem_cons_of_mem _ ht)) k z) hw
def wAsg (ts : List WTg) (wv : WE) : WS := fun ρ h D => wv ρ h fun v h1 => ∃ xs, v = .tup xs ∧ xs.length = ts.length ∧ wTgs ts xs ρ h1 D.nx
theorem mono_asg {ts : List WTg} {wv : WE} (hm : ∀ t ∈ ts, t.mon) (mv : MonE wv) : MonS (wAsg ts wv) := fun ρ h D D' l z => mv _ _ _ _ (fun v h1 ⟨xs, e, e2, z⟩ => ⟨xs, e, e2, wTgs_mono hm l.nx z⟩) z
/-- a target's reading -/
def gTg (K : Frag) (J : Jw) (t : WTg) : TG := fun v σ H R => ∃ A ρ h x, J A H ∧ RepSt K H ρ σ ∧ Rel K A H h ∧ RepV K H x v ∧ t.run x ρ h fun ρ2 h2 => ∀ σ2 H2, J A H2 → Mon A H H2 → RepSt K H2 ρ2 σ2 → Rel K A H2 h2 → R σ2 H2
theorem g_st (jj : JOk J) {t : ST} {tg : Expr} (hg : PG X tg (t.g X.K)) : PG X tg (gTg X.K J (.st t)) := by
  refine ⟨fun pins s σ H v u Q I rv ⟨A, ρ, h, x, j, rs, r, rx, ρ2, es, q⟩ => hg.run pins s σ H v u Q I rv ?_⟩
  exact ST.set_ok t rx rs es fun σ' rs' _ => q σ' H j .refl rs' r
theorem g_sub (jj : JOk J) {wo wi : WE} {p2 : Pos} (ho : PE X a (tE X.K J wo)) (hi : PE X b (tE X.K J wi)) (mo : MonE wo) (mi : MonE wi)
    (hset : ∀ v, assign (.Subscript a b p2) X.env v = (do
      let ov ← holding [v] (eval a X.env)
      let iv ← holding [v, ov] (eval b X.env)
      standAt p2
      holding [v, ov, iv] (setItem ov iv v)
      release [v, ov, iv] [])) : PG X (.Subscript a b p2) (gTg X.K J (.sub wo wi)) := by
  refine ⟨fun pins s σ H v u Q I rv ⟨A, ρ, h, x, j, rs, r, rx, hw⟩ => (pg_sub ho hi ok_set hset).run pins s σ H v u Q I rv ?_⟩
  refine tE_of jj j rs r mo hw fun o h2 ov H2 p2 j2 rs2 m2 r2 ro => ?_
  refine tE_of jj j2 rs2 r2 mi p2 fun i h3 iv H3 p3 j3 rs3 m3 r3 ri => ?_
  refine ⟨A, o, i, x, h3, r3, ro.mon m3, ri, rx.mon (m2.trans m3), mono_setOp (fun h4 z H4 m4 r4 => ?_) p3⟩
  exact z σ H4 (jj.mon j3 m4) (m2.trans (m3.trans m4)) (rs3.mon m4) r4
theorem g_fld (jj : JOk J) {wo : WE} {p2 : Pos} {C f : Str} (ho : PE X a (tE X.K J wo)) (mo : MonE wo) (cl : Cls X.K (He.ga X.K C)) (na : NoAttr X.K (He.ga X.K C) f) : PG X (.Attribute a f p2) (gTg X.K J (.fld C f wo)) := by
  refine ⟨fun pins s σ H v u Q I rv ⟨A, ρ, h, x, j, rs, r, rx, hw⟩ => ?_⟩
  rw [assign_Attribute]
  have key : tE X.K J wo σ H fun o H2 => ∃ (p : Addr) (h2 : MH) (fs : List (Str × PV)), o = .ref p ∧ h2 p = some (.ins C fs) ∧ fs.length < 1000 ∧ Rel X.K A H2 h2 ∧ Mon A H H2 ∧ J A H2 ∧ RepSt X.K H2 ρ σ ∧ ∀ σ2 H3, J A H3 → Mon A H H3 → RepSt X.K H3 ρ σ2 → Rel X.K A H3 (mupd h2 p (.ins C (putA f x fs))) → Q σ2 H3 :=
    tE_of jj j rs r mo hw fun o h2 ov H2 ⟨p, fs, e1, e2, e3, z⟩ j2 rs2 m2 r2 ro => by
      subst e1
      cases ro
      exact ⟨p, h2, fs, rfl, e2, e3, r2, m2, j2, rs2, z⟩
  refine wpAny_bind (wpAny_holding (thn (ho.run pins s σ H _ I key) fun ov s1 ⟨o, H1, I1, r1, p, h2, fs, e1, e2, e3, r2, m2, j2, rs2, z⟩ => ?_))
  subst e1
  obtain rfl : ov = Value.ref p := r1
  obtain ⟨dx, ws, e4, kr⟩ := r2.obj p _ e2
  have rx2 := rx.mon m2
  have mw : Mon A H1 (upd H1 p (.ins (He.ga X.K C) dx (putF f v ws))) := r2.mon_write e2
  refine wpAny_bind (wpAny_standAt (wpAny_bind (wpAny_holding (setattr_ok I1 e4 cl na (by rw [← kr.len]; exact e3) rv fun s3 I3 => ?_))))
  exact wpAny_release ⟨σ, _, I3, z σ _ (jj.mon j2 mw) (m2.trans mw) (rs2.mon mw) (r2.write e2 ⟨dx, _, upd_same, (KR.put rx2 kr).mon mw⟩)⟩
/-- targets one by one -/
inductive GTs (X : Cx) (J : Jw) : List Expr → List WTg → Prop
  | nil : GTs X J [] []
  | cons {e : Expr} {es : List Expr} {t : WTg} {ts : List WTg} : PG X e (gTg X.K J t) → t.mon → (assignEach (e :: es) X.env = (false, assign e X.env) :: assignEach es X.env) → GTs X J es ts → GTs X J (e :: es) (t :: ts)
def gTgs (K : Frag) (J : Jw) (ts : List WTg) : TGs := fun vs σ H R => ∃ A ρ h xs, J A H ∧ RepSt K H ρ σ ∧ Rel K A H h ∧ RepL K H xs vs ∧ wTgs ts xs ρ h fun ρ2 h2 => ∀ σ2 H2, J A H2 → Mon A H H2 → RepSt K H2 ρ2 σ2 → Rel K A H2 h2 → R σ2 H2
theorem GTs.len : ∀ {es : List Expr} {ts : List WTg}, GTs X J es ts → ts.length = es.length
  | _, _, .nil => rfl
  | _, _, .cons _ _ _ r => by rw [List.length_cons, List.length_cons, GTs.len r]
theorem GTs.ok (jj : JOk J) : ∀ {es : List Expr} {ts : List WTg}, GTs X J es ts → PGs X es (gTgs X.K J ts) ∧ (assignEach es X.env).length = es.length ∧ (assignEach es X.env).findIdx? (·.1) = none ∧ ∀ t ∈ ts, t.mon
  | _, _, .nil => by
    refine ⟨⟨fun pins s σ H vs us Q I rv ⟨A, ρ, h, xs, j, rs, r, rl, hw⟩ => ?_⟩, rfl, rfl, fun _ z => nomatch z⟩
    cases rl with
    | nil => exact pgs_nil.run pins s σ H [] us Q I rv ⟨rfl, hw σ H j .refl rs r⟩
    | cons => exact hw.elim
  | _, _, .cons (e := e) (es := es) (t := t) (ts := ts) hg hm he rest => by
    obtain ⟨h1, h2, h3, h4⟩ := GTs.ok jj rest
    refine ⟨⟨fun pins s σ H vs us Q I rv ⟨A, ρ, h, xs, j, rs, r, rl, hw⟩ => ?_⟩, by rw [he, List.length_cons, h2, List.length_cons], by rw [he, List.findIdx?_cons]; simp [h3], fun t' ht' => ?_⟩
    · cases rl with
      | nil => exact hw.elim
      | cons rx rl =>
        refine (pgs_cons hg h1 (by rw [he]; rfl)).run pins s σ H _ us Q I rv ⟨_, _, rfl, A, ρ, h, _, j, rs, r, rx, WTg.run_mono hm (fun ρ2 h2 z σ2 H2 j2 m2 rs2 r2 => ?_) hw⟩
        exact ⟨A, ρ2, h2, _, j2, rs2, r2, rl.mon m2, wTgs_mono h4 (fun ρ3 h3 z σ3 H3 j3 m3 rs3 r3 => z σ3 H3 j3 (m2.trans m3) rs3 r3) z⟩
    · rcases List.mem_cons.mp ht' with rfl | ht'
      · exact hm
      · exact h4 t' ht'
theorem s_asg {tgs : List Expr} {ts : List WTg} {wv : WE} {kt : Nat} {pt : Pos} (m : Match X c G gl k J ex) (hg : GTs X J tgs ts) (hv : PE X d (tE X.K J wv)) (mv : MonE wv)
    (hs : swapsWithSole [.Tuple tgs kt pt] d pos.line X.env = pure false) (hw : swappedStores [.Tuple tgs kt pt] d X.env = pure none) : PS X (.Assign [.Tuple tgs kt pt] d pos) (tS X.K J (wAsg ts wv)) := by
  obtain ⟨h1, h2, h3, h4⟩ := hg.ok m.jj
  refine ⟨fun pins s σ H D I ⟨A, ρ, h, j, rs, r, hw'⟩ => (ps_asg hv (pg_tup m.calm h1 h2 h3) hs hw rfl).run pins s σ H D I ?_⟩
  refine tE_of m.jj j rs r mv hw' fun v h1 vv H1 ⟨xs, e, el, p⟩ j1 rs1 m1 r1 rv => ?_
  subst e
  cases rv with
  | tup sq l =>
    refine ⟨_, _, rfl, sq, by rw [← l.length, el, hg.len], A, ρ, h1, xs, j1, rs1, r1, l, wTgs_mono h4 (fun ρ2 h2 z σ2 H2 j2 m2 rs2 r2 => z _ _ (m1.trans m2) rs2 r2) p⟩
end
end Ev

set_option Elab.async false
set_option linter.all false
set_option maxRecDepth 100000
set_option maxHeartbeats 4000000
/-! Ev10: the syntax of our own; what it asks (wp); that a text is so spelt (chk). -/
namespace Ev
open PySem PySem.Spec PyProof.Rows L2
mutual
inductive E where
  | var (i : Nat) | int (i : Int) | bl (b : Bool) | non | str (x : Str) | glob (x : Str)
  | tup (es : Es) | lst (m : Bool) (es : Es)
  | neg (a : E) | not (a : E) | and (a b : E) | or (a b : E) | ite (t : B) (a b : E)
  | bin (m : Bool) (op : BOp) (a b : E) | cmp (op : COp) (a b : E) | chain (op op' : COp) (a b d : E)
  | ix (a b : E) | sl (m : Bool) (a : E) (lo hi : O)
  | bi (m : Bool) (b : Bi) (es : Es) | fn (f : Str) (es : Es)
  | app (a b : E) | ext (a b : E) | pop (a : E)
  | comp (m : Bool) (own : List (Str × Nat)) (t : ST) (it : W) (cond : B) (elt : E)
  | frz (a : E)
  | fnk (f : Str) (ks : List Str) (perm : List Nat) (es : Es)
  | dix (a b : E) | dnew | disp (ps : Ps) | lr1 (m : Bool) (a : E) | lr2 (m : Bool) (a b : E) | isi (a : E) (t : Ty) | tix (lo : Nat) (a b : E)
  | fld (C f : Str) (a : E) | prp (C f key : Str) (a : E) | mk (C : Str) (n : Nat) (key : Str) (es : Es) | mt (C mn key : Str) (a : E) (es : Es)
  | lix (a b : E) | popi (a b : E) | tr1 (a : E) | mk0 (C : Str) (n : Nat) (key : Str) (es : Es)
  | lens (es : Es) | compN (m : Bool) (own : List (Str × Nat)) (t : ST) (it : W) (cond : B) (cs : Cs) (elt : E)
inductive Cs where
  | nil | cons (vs : List Nat) (t : ST) (it : W) (cond : B) (cs : Cs)
inductive Ps where
  | nil | cons (a b : E) (ps : Ps)
inductive Es where
  | nil | cons (e : E) (es : Es)
inductive B where
  | val (a : E) | and (a b : B) | or (a b : B) | not (a : B) | tt
inductive O where
  | omit | part (a : E)
inductive W where
  | seq (a : E) | rng1 (a : E) | rng2 (a b : E) | rng3 (a b d : E) | enum (a : E) | zip (a b : E)
end
inductive Tg where
  | st (t : ST) | sub (o i : E) | fld (C f : Str) (o : E)
mutual
inductive S where
  | expr (a : E) | set (i : Nat) (a : E) | unp (t : ST) (a : E) | par (i j : Nat) (a b : E) | sub (o i v : E) | ret (a : E)
  | ifs (t : B) (x y : Ss) | for_ (t : ST) (it : W) (b : Ss) | while_ (t : B) (b : Ss) | brk | cont | pass
  | par3 (i j l : Nat) (a b d : E) | subp (o i : E) (t : ST) (v : E) | dput (o i v : E) | fst (C f : Str) (o v : E) | nev | asg (ts : List Tg) (v : E)
inductive Ss where
  | nil | cons (s : S) (ss : Ss)
end
def Es.len : Es → Nat
  | .nil => 0
  | .cons _ es => es.len + 1

section
variable (G : Ctx) (gl : Str → PV)
mutual
def wpE : (ex : Env → XV) → E → WE
  | _, .var i => wVar i
  | _, .int i => wCst (.int i)
  | _, .bl b => wCst (.bl b)
  | _, .non => wCst .non
  | _, .str x => wCst (.str x)
  | _, .glob x => wCst (gl x)
  | ex, .tup es => wTup (wpEs ex es)
  | ex, .lst m es => wLst m (wpEs ex es)
  | ex, .neg a => w1 opNeg (wpE ex a)
  | ex, .not a => w1 opNot (wpE ex a)
  | ex, .and a b => wAnd (wpE ex a) (wpE ex b)
  | ex, .or a b => wOr (wpE ex a) (wpE ex b)
  | ex, .ite t a b => wIte (wpB ex t) (wpE ex a) (wpE ex b)
  | ex, .bin m op a b => w2 (binOp m op) (wpE ex a) (wpE ex b)
  | ex, .cmp op a b => w2 (cmpOp op) (wpE ex a) (wpE ex b)
  | ex, .chain op op' a b d => wChain (cmpOp op) (cmpOp op') (wpE ex a) (wpE ex b) (wpE ex d)
  | ex, .ix a b => w2 opIx (wpE ex a) (wpE ex b)
  | ex, .sl m a lo hi => wSl m (wpE ex a) (wpO ex lo) (wpO ex hi)
  | ex, .bi m b es => wL (biOp m b) (wpEs ex es)
  | ex, .fn f es => wFn (G.fn f) ex (wpEs ex es)
  | ex, .app a b => wMe .append (wpE ex a) (wCons (wpE ex b) wNil)
  | ex, .ext a b => wMe .extend (wpE ex a) (wCons (wpE ex b) wNil)
  | ex, .pop a => wMe0 .pop (wpE ex a)
  | ex, .comp m own t it cond elt => wComp m (own.map (·.2)) (wpW ex it) t (wpB (fun _ => noX) cond) (wpE (fun _ => noX) elt)
  | ex, .frz a => wFrz (wpE ex a)
  | ex, .fnk f _ perm es => wFnK (G.fn f) ex perm (wpEs ex es)
  | ex, .dix a b => w2 opDix (wpE ex a) (wpE ex b)
  | _, .dnew => wDnew
  | ex, .disp ps => wDisp (wpPs ex ps)
  | ex, .lr1 m a => wLr1 m (wpE ex a)
  | ex, .lr2 m a b => wLr2 m (wpE ex a) (wpE ex b)
  | ex, .isi a t => w1 (opIsi t) (wpE ex a)
  | ex, .tix lo a b => wTix lo (wpE ex a) (wpE ex b)
  | ex, .fld C f a => wFld C f (wpE ex a)
  | ex, .prp C _ key a => wPrp C (G.fn1 key) (wpE ex a)
  | ex, .mk C n key es => wMk C n (G.fn1 key) (wpEs ex es)
  | ex, .mt C mn key a es => wMt C mn (G.fn key) ex (wpE ex a) (wpEs ex es)
  | ex, .lens es => wLens (wpEs ex es)
  | ex, .lix a b => wLix (wpE ex a) (wpE ex b)
  | ex, .popi a b => wPopi (wpE ex a) (wpE ex b)
  | ex, .tr1 a => wTr1 (wpE ex a)
  | ex, .mk0 C n key es => wMk0 C n (G.fn1 key) (wpEs ex es)
  | ex, .compN m own t it cond cs elt => wCompN m (⟨wpW ex it, t, wpB (fun _ => noX) cond, own.map (·.2)⟩ :: wpCs cs) (wpE (fun _ => noX) elt)
def wpCs : Cs → List ClW
  | .nil => []
  | .cons vs t it cond cs => ⟨wpW (fun _ => noX) it, t, wpB (fun _ => noX) cond, vs⟩ :: wpCs cs
def wpPs : (ex : Env → XV) → Ps → WP
  | _, .nil => wPnil
  | ex, .cons a b ps => wPcons (wpE ex a) (wpE ex b) (wpPs ex ps)
def wpEs : (ex : Env → XV) → Es → WA
  | _, .nil => wNil
  | ex, .cons e es => wCons (wpE ex e) (wpEs ex es)
def wpB : (ex : Env → XV) → B → WT
  | ex, .val a => wVal (wpE ex a)
  | ex, .and a b => wAndT (wpB ex a) (wpB ex b)
  | ex, .or a b => wOrT (wpB ex a) (wpB ex b)
  | ex, .not a => wNotT (wpB ex a)
  | _, .tt => fun _ h Q => Q true h
def wpO : (ex : Env → XV) → O → WO
  | _, .omit => wOmit
  | ex, .part a => wPart (wpE ex a)
def wpW : (ex : Env → XV) → W → WI
  | ex, .seq a => wSeq (wpE ex a)
  | ex, .rng1 a => wRng1 (wCons (wpE ex a) wNil)
  | ex, .rng2 a b => wRng2 (wCons (wpE ex a) (wCons (wpE ex b) wNil))
  | ex, .rng3 a b d => wRng3 (wCons (wpE ex a) (wCons (wpE ex b) (wCons (wpE ex d) wNil)))
  | ex, .enum a => wEnum (wpE ex a)
  | ex, .zip a b => wZip (wpE ex a) (wpE ex b)
end
def wpTg (ex : Env → XV) : Tg → WTg
  | .st t => .st t
  | .sub o i => .sub (wpE G gl ex o) (wpE G gl ex i)
  | .fld C f o => .fld C f (wpE G gl ex o)
mutual
def wpS : (ex : Env → XV) → S → WS
  | ex, .expr a => wExpr (wpE G gl ex a)
  | ex, .set i a => wSet i (wpE G gl ex a)
  | ex, .unp t a => wUnp t (wpE G gl ex a)
  | ex, .par i j a b => wPar i j (wCons (wpE G gl ex a) (wCons (wpE G gl ex b) wNil))
  | ex, .sub o i v => wSub (wpE G gl ex o) (wpE G gl ex i) (wpE G gl ex v)
  | ex, .ret a => wRet (wpE G gl ex a)
  | ex, .ifs t x y => wIf (wpB G gl ex t) (wpSs ex x) (wpSs ex y)
  | ex, .for_ t it b => wFor (wpW G gl ex it) t (wpSs ex b)
  | ex, .while_ t b => wWhile (wpB G gl ex t) (wpSs ex b)
  | _, .brk => wBk
  | _, .cont => wCt
  | _, .pass => wNx
  | ex, .par3 i j l a b d => wPar3 i j l (wCons (wpE G gl ex a) (wCons (wpE G gl ex b) (wCons (wpE G gl ex d) wNil)))
  | ex, .subp o i t v => wSubp (wpE G gl ex o) (wpE G gl ex i) t (wpE G gl ex v)
  | ex, .dput o i v => wDput (wpE G gl ex o) (wpE G gl ex i) (wpE G gl ex v)
  | ex, .fst C f o v => wFst C f (wpE G gl ex o) (wpE G gl ex v)
  | _, .nev => fun _ _ _ => False
  | ex, .asg ts v => wAsg (ts.map (wpTg G gl ex)) (wpE G gl ex v)
def wpSs : (ex : Env → XV) → Ss → WS
  | _, .nil => wNx
  | ex, .cons s ss => wSq (wpS ex s) (wpSs ex ss)
end
end

theorem mono_var (i : Nat) : MonE (wVar i) := fun _ _ _ _ k ⟨x, e, q⟩ => ⟨x, e, k _ _ q⟩
theorem mono_cst (v : PV) : MonE (wCst v) := fun _ _ _ _ k q => k _ _ q
section
variable {G : Ctx} {gl : Str → PV}
mutual
theorem monE : ∀ (ex : Env → XV) (e : E), MonE (wpE G gl ex e)
  | _, .var i => mono_var i
  | _, .int i => mono_cst _
  | _, .bl b => mono_cst _
  | _, .non => mono_cst _
  | _, .str x => mono_cst _
  | _, .glob x => mono_cst _
  | ex, .tup es => mono_tup (monEs ex es)
  | ex, .lst m es => mono_lst m (monEs ex es)
  | ex, .neg a => mono_w1 mono_opNeg (monE ex a)
  | ex, .not a => mono_w1 mono_opNot (monE ex a)
  | ex, .and a b => mono_and (monE ex a) (monE ex b)
  | ex, .or a b => mono_or (monE ex a) (monE ex b)
  | ex, .ite t a b => mono_ite (monB ex t) (monE ex a) (monE ex b)
  | ex, .bin m op a b => mono_w2 (mono_bin m op) (monE ex a) (monE ex b)
  | ex, .cmp op a b => mono_w2 (mono_cmp op) (monE ex a) (monE ex b)
  | ex, .chain op op' a b d => mono_chain (mono_cmp op) (mono_cmp op') (monE ex a) (monE ex b) (monE ex d)
  | ex, .ix a b => mono_w2 mono_opIx (monE ex a) (monE ex b)
  | ex, .sl m a lo hi => mono_sl m (monE ex a) (monO ex lo) (monO ex hi)
  | ex, .bi m b es => mono_wL (mono_bi m b) (monEs ex es)
  | ex, .fn f es => mono_fn (G.mono f) (monEs ex es)
  | ex, .app a b => mono_wMe (monE ex a) (mono_cons (monE ex b) mono_nil)
  | ex, .ext a b => mono_wMe (monE ex a) (mono_cons (monE ex b) mono_nil)
  | ex, .pop a => mono_wMe0 (monE ex a)
  | ex, .comp m own t it cond elt => mono_comp (monW ex it)
  | ex, .frz a => mono_frz (monE ex a)
  | ex, .fnk f _ perm es => mono_fnK (G.mono f) (monEs ex es)
  | ex, .dix a b => mono_w2 mono_opDix (monE ex a) (monE ex b)
  | _, .dnew => mono_dnew
  | ex, .disp ps => mono_disp (monPs ex ps)
  | ex, .lr1 m a => mono_lr1 (monE ex a)
  | ex, .lr2 m a b => mono_lr2 (monE ex a) (monE ex b)
  | ex, .isi a t => mono_w1 (mono_isi t) (monE ex a)
  | ex, .tix lo a b => mono_tix (monE ex a) (monE ex b)
  | ex, .fld C f a => mono_fld (monE ex a)
  | ex, .prp C _ key a => mono_prp (G.mono1 key) (monE ex a)
  | ex, .mk C n key es => mono_mk (G.mono1 key) (monEs ex es)
  | ex, .mt C mn key a es => mono_mt (G.mono key) (monE ex a) (monEs ex es)
  | ex, .lens es => mono_lens (monEs ex es)
  | ex, .lix a b => mono_lix (monE ex a) (monE ex b)
  | ex, .popi a b => mono_popi (monE ex a) (monE ex b)
  | ex, .tr1 a => mono_tr1 (monE ex a)
  | ex, .mk0 C n key es => mono_mk0 (G.mono1 key) (monEs ex es)
  | ex, .compN m own t it cond cs elt => mono_compN (monE _ elt) fun c hc => by
    rcases List.mem_cons.mp hc with rfl | hc
    · exact monW ex it
    · exact monCs cs c hc
theorem monCs : ∀ (cs : Cs), ∀ c ∈ wpCs G gl cs, MonI c.wi
  | .nil, _, h => nomatch h
  | .cons vs t it cond cs, c, h => by
    rcases List.mem_cons.mp h with rfl | h
    · exact monW _ it
    · exact monCs cs c h
theorem monPs : ∀ (ex : Env → XV) (ps : Ps), MonP (wpPs G gl ex ps)
  | _, .nil => mono_pnil
  | ex, .cons a b ps => mono_pcons (monE ex a) (monE ex b) (monPs ex ps)
theorem monEs : ∀ (ex : Env → XV) (es : Es), MonA (wpEs G gl ex es)
  | _, .nil => mono_nil
  | ex, .cons e es => mono_cons (monE ex e) (monEs ex es)
theorem monB : ∀ (ex : Env → XV) (b : B), MonT (wpB G gl ex b)
  | ex, .val a => mono_val (monE ex a)
  | ex, .and a b => mono_andT (monB ex a) (monB ex b)
  | ex, .or a b => mono_orT (monB ex a) (monB ex b)
  | ex, .not a => mono_notT (monB ex a)
  | _, .tt => fun _ _ _ _ k q => k _ _ q
theorem monO : ∀ (ex : Env → XV) (o : O), MonO (wpO G gl ex o)
  | _, .omit => mono_omit
  | ex, .part a => mono_part (monE ex a)
theorem monW : ∀ (ex : Env → XV) (w : W), MonI (wpW G gl ex w)
  | ex, .seq a => mono_seq (monE ex a)
  | ex, .rng1 a => mono_rng1 (mono_cons (monE ex a) mono_nil)
  | ex, .rng2 a b => mono_rng2 (mono_cons (monE ex a) (mono_cons (monE ex b) mono_nil))
  | ex, .rng3 a b d => mono_rng3 (mono_cons (monE ex a) (mono_cons (monE ex b) (mono_cons (monE ex d) mono_nil)))
  | ex, .enum a => mono_enum (monE ex a)
  | ex, .zip a b => mono_zip (monE ex a) (monE ex b)
end
theorem monTg (ex : Env → XV) : ∀ t : Tg, (wpTg G gl ex t).mon
  | .st _ => trivial
  | .sub o i => ⟨monE ex o, monE ex i⟩
  | .fld _ _ o => monE ex o
theorem monTgs (ex : Env → XV) (ts : List Tg) : ∀ t ∈ ts.map (wpTg G gl ex), t.mon := fun t ht => by
  obtain ⟨u, _, rfl⟩ := List.mem_map.mp ht
  exact monTg ex u
mutual
theorem monS : ∀ (ex : Env → XV) (s : S), MonS (wpS G gl ex s)
  | ex, .expr a => mono_expr (monE ex a)
  | ex, .set i a => mono_set (monE ex a)
  | ex, .unp t a => mono_unp (monE ex a)
  | ex, .par i j a b => mono_par (mono_cons (monE ex a) (mono_cons (monE ex b) mono_nil))
  | ex, .sub o i v => mono_wSub (monE ex o) (monE ex i) (monE ex v)
  | ex, .ret a => mono_ret (monE ex a)
  | ex, .ifs t x y => mono_if (monB ex t) (monSs ex x) (monSs ex y)
  | ex, .for_ t it b => mono_for (monW ex it) (monSs ex b)
  | ex, .while_ t b => mono_while (monB ex t) (monSs ex b)
  | _, .brk => mono_bk
  | _, .cont => mono_ct
  | _, .pass => mono_nx
  | ex, .par3 i j l a b d => mono_par3 (mono_cons (monE ex a) (mono_cons (monE ex b) (mono_cons (monE ex d) mono_nil)))
  | ex, .subp o i t v => mono_subp (monE ex o) (monE ex i) (monE ex v)
  | ex, .dput o i v => mono_wDput (monE ex o) (monE ex i) (monE ex v)
  | ex, .fst C f o v => mono_fst (monE ex o) (monE ex v)
  | _, .nev => fun _ _ _ _ _ z => z
  | ex, .asg ts v => mono_asg (monTgs ex ts) (monE ex v)
theorem monSs : ∀ (ex : Env → XV) (ss : Ss), MonS (wpSs G gl ex ss)
  | _, .nil => mono_nx
  | ex, .cons s ss => mono_sq (monS ex s) (monSs ex ss)
end
theorem lenEs : ∀ (ex : Env → XV) (es : Es) {ρ : Env} {h : MH} {Q : LK}, wpEs G gl ex es ρ h Q → wpEs G gl ex es ρ h fun xs h1 => xs.length = es.len ∧ Q xs h1
  | _, .nil, _, _, _, q => ⟨rfl, q⟩
  | ex, .cons e es, ρ, h, Q, q => monE ex e _ _ _ _ (fun x h1 z => monEs ex es _ _ _ _ (fun xs h2 ⟨l, z⟩ => ⟨by simp [Es.len, l], z⟩) (lenEs ex es z)) q
end

/-! ### that a text is so spelt -/
def isLoc : Option NameKind → Bool
  | some .local => true
  | _ => false
def visC (c : Cfg) (x : Str) : Bool := (match c.sc.names.lookup x with
  | some .local => true
  | some .cell => true
  | some .free => true
  | _ => false) && !(x == ("__debug__" : Str)) && !(x == ("__classdict__" : Str))
def glbC (c : Cfg) (x : Str) : Bool := (match c.sc.names.lookup x with
  | some .globalImplicit => true
  | _ => false) && !(x == ("__debug__" : Str))
def locC (c : Cfg) (x : Str) : Bool := match c.sc.names.lookup x with
  | some .local => true
  | some .cell => c.fnb x
  | _ => false
def noSl : Expr → Bool
  | .Slice .. => false
  | _ => true
def noComp : Expr → Bool
  | .ListComp .. => false
  | .SetComp .. => false
  | .DictComp .. => false
  | _ => true
/-- its truth is asked plainly -/
def plainT : Expr → Bool
  | .UnaryOp .Not _ _ => false
  | .BoolOp .. => false
  | .IfExp .. => false
  | .Compare .. => false
  | _ => true
def plainO : Expr → Bool
  | .Call (.Name _ _) [] [] _ => false
  | _ => true
mutual
def chkT (c : Cfg) : ST → Expr → Bool
  | .name i, a => match a with
    | .Name x _ => decide (c.N[i]? = some x) && locC c x
    | _ => false
  | .tup ts, a => match a with
    | .Tuple es _ _ => chkTs c ts es
    | _ => false
def chkTs (c : Cfg) : STs → List Expr → Bool
  | .nil, es => es.isEmpty
  | .cons t ts, es => match es with
    | e :: es => chkT c t e && chkTs c ts es
    | [] => false
end
/-- what is walked wants a tuple as its target -/
def tupW : W → Expr → Bool
  | .enum _, .Tuple .. => true
  | .zip .., .Tuple .. => true
  | .enum _, _ => false
  | .zip .., _ => false
  | _, _ => true
/-- a clause's tests -/
def ifsC (cond : B) (ifs : List Expr) (f : Expr → Bool) : Bool := match ifs with
  | [] => (match cond with
    | .tt => true
    | _ => false)
  | [y] => f y
  | _ => false
/-- the slots of the first of some clauses, of those behind it too -/
def vsC : Cs → List Nat
  | .nil => []
  | .cons vs _ _ _ _ => vs
def kwEs : List Keyword → List Expr
  | [] => []
  | ⟨_, e, _⟩ :: r => e :: kwEs r
def kwNs : List Keyword → List Str
  | [] => []
  | ⟨some n, _, _⟩ :: r => n :: kwNs r
  | ⟨none, _, _⟩ :: r => kwNs r
mutual
def chkE : Cfg → E → Expr → Bool
  | c, .var i, a => match a with
    | .Name x _ => decide (c.N[i]? = some x) && visC c x
    | _ => false
  | _, .int i, a => match a with
    | .Constant (.int j) _ _ => decide (i = j)
    | _ => false
  | _, .bl b, a => match a with
    | .Constant (.bool j) _ _ => b == j
    | _ => false
  | _, .non, a => match a with
    | .Constant .none _ _ => true
    | _ => false
  | _, .str x, a => match a with
    | .Constant (.str y) _ _ => decide (x = y)
    | _ => false
  | c, .glob x, a => match a with
    | .Name y _ => decide (x = y) && glbC c x && c.cst.contains x
    | _ => false
  | c, .tup es, a => match a with
    | .Tuple as _ _ => chkEs c es as
    | _ => false
  | c, .lst _ es, a => match a with
    | .List as _ => chkEs c es as
    | _ => false
  | c, .neg e, a => match a with
    | .UnaryOp .USub x _ => chkE c e x
    | _ => false
  | c, .not e, a => match a with
    | .UnaryOp .Not x _ => chkE c e x
    | _ => false
  | c, .and e f, a => match a with
    | .BoolOp .And (x :: y :: r) pos => chkE c e x && (match r with
      | [] => chkE c f y
      | _ :: _ => chkE c f (.BoolOp .And (y :: r) pos))
    | _ => false
  | c, .or e f, a => match a with
    | .BoolOp .Or (x :: y :: r) pos => chkE c e x && (match r with
      | [] => chkE c f y
      | _ :: _ => chkE c f (.BoolOp .Or (y :: r) pos))
    | _ => false
  | c, .ite t e f, a => match a with
    | .IfExp x y z _ => chkB c t x && chkE c e y && chkE c f z
    | _ => false
  | c, .bin _ op e f, a => match a with
    | .BinOp x o y _ => decide (op.op = o) && chkE c e x && chkE c f y
    | _ => false
  | c, .cmp op e f, a => match a with
    | .Compare x [o] [y] _ => decide (op.op = o) && chkE c e x && chkE c f y
    | _ => false
  | c, .chain op op' e f g, a => match a with
    | .Compare x [o, o'] [y, z] _ => decide (op.op = o) && decide (op'.op = o') && chkE c e x && chkE c f y && chkE c g z
    | _ => false
  | c, .ix e f, a => match a with
    | .Subscript x y _ => noSl y && chkE c e x && chkE c f y
    | _ => false
  | c, .sl _ e lo hi, a => match a with
    | .Subscript x (.Slice l u none _) _ => chkE c e x && chkO c lo l && chkO c hi u
    | _ => false
  | c, .bi _ b es, a => match a with
    | .Call (.Name x _) (y :: ys) [] _ => decide (x = b.name) && glbC c x && c.free.contains x && chkEs c es (y :: ys)
    | _ => false
  | c, .fn f es, a => match a with
    | .Call (.Name x _) (y :: ys) [] _ => decide (x = f) && glbC c x && c.fns.any (fun p => decide (p.1 = f) && decide (p.2.length = es.len)) && chkEs c es (y :: ys)
    | _ => false
  | c, .app e f, a => match a with
    | .Call (.Attribute o n p1) [y] [] p2 => decide (n = "append") && plainO o && (p1.endLine == p2.line) && chkE c e o && chkE c f y
    | _ => false
  | c, .ext e f, a => match a with
    | .Call (.Attribute o n p1) [y] [] p2 => decide (n = "extend") && plainO o && (p1.endLine == p2.line) && chkE c e o && chkE c f y
    | _ => false
  | c, .tix lo e f, a => match a with
    | .Call (.Attribute o n p1) [y, .Constant (.int k) _ _] [] p2 => decide (k = (lo : Int)) && (decide (n = "index") && plainO o && (p1.endLine == p2.line) && chkE c e o && chkE c f y)
    | _ => false
  | c, .pop e, a => match a with
    | .Call (.Attribute o n p1) [] [] p2 => decide (n = "pop") && plainO o && (p1.endLine == p2.line) && chkE c e o
    | _ => false
  | c, .comp _ own t it cond elt, a => match a with
    | .ListComp x [⟨tg, iter, ifs, as⟩] scope _ => decide (as = 0) && (chkW c it iter && tupW it tg) && blkC c.N c.sc scope own && t.slots.all (fun i => (own.map (·.2)).contains i) && chkT (c.blk scope) t tg &&
        (match ifs with
          | [] => (match cond with
            | .tt => true
            | _ => false)
          | [y] => chkB (c.blk scope) cond y
          | _ => false) && chkE (c.blk scope) elt x
    | _ => false
  | c, .frz e, a => chkE c e a
  | c, .fnk f ks perm es, a => match a with
    | .Call (.Name x _) [] (kw :: kws) _ => decide (x = f) && glbC c x && c.kws.any (fun p => decide (p.1 = f) && decide (p.2.1 = ks) && decide (p.2.2 = perm)) && decide (kwNs (kw :: kws) = ks) && decide ((kw :: kws).length = ks.length) && (kw :: kws).all (fun z => z.arg.isSome) && chkEs c es (kwEs (kw :: kws))
    | _ => false
  | c, .dix e f, a => match a with
    | .Subscript x y _ => noSl y && chkE c e x && chkE c f y
    | _ => false
  | _, .dnew, a => match a with
    | .Dict [] [] _ => true
    | _ => false
  | c, .disp ps, a => match a with
    | .Dict ks vs _ => !ks.isEmpty && decide (ks.length ≤ 15) && decide (ks.length = vs.length) && ks.all (·.isSome) && chkPs c ps ks vs
    | _ => false
  | c, .lr1 _ e, a => match a with
    | .Call (.Name x _) [.Call (.Name z _) [y] [] _] [] _ => decide (x = "list") && decide (z = "range") && glbC c x && glbC c z && c.free.contains x && c.free.contains z && chkE c e y
    | _ => false
  | c, .lr2 _ e f, a => match a with
    | .Call (.Name x _) [.Call (.Name z _) [y, u] [] _] [] _ => decide (x = "list") && decide (z = "range") && glbC c x && glbC c z && c.free.contains x && c.free.contains z && chkE c e y && chkE c f u
    | _ => false
  | c, .isi e t, a => match a with
    | .Call (.Name x _) [y, .Name z _] [] _ => decide (x = "isinstance") && decide (z = (t.name : Str)) && glbC c x && glbC c z && c.free.contains x && c.free.contains z && chkE c e y
    | _ => false
  | c, .fld C f e, a => match a with
    | .Attribute o g _ => decide (g = f) && plainO o && c.flds.contains (C, f) && chkE c e o
    | _ => false
  | c, .prp C f key e, a => match a with
    | .Attribute o g _ => decide (g = f) && plainO o && c.prps.contains (C, f, key) && chkE c e o
    | _ => false
  | c, .mk C n key es, a => match a with
    | .Call (.Name x _) (y :: ys) [] _ => decide (x = C) && glbC c x && c.mks.contains (C, n, key) && chkEs c es (y :: ys)
    | _ => false
  | c, .mt C mn key e es, a => match a with
    | .Call (.Attribute o g p1) as [] p2 => decide (g = mn) && plainO o && (p1.endLine == p2.line) && c.mts.any (fun q => decide (q.1 = C) && decide (q.2.1 = mn) && decide (q.2.2.1 = key) && decide (q.2.2.2.length = es.len + 1)) && decide (as.length < 29) && chkE c e o && chkEs c es as
    | _ => false
  | c, .lix e f, a => match a with
    | .Call (.Attribute o n p1) [y] [] p2 => decide (n = "index") && plainO o && (p1.endLine == p2.line) && chkE c e o && chkE c f y
    | _ => false
  | c, .popi e f, a => match a with
    | .Call (.Attribute o n p1) [y] [] p2 => decide (n = "pop") && plainO o && (p1.endLine == p2.line) && chkE c e o && chkE c f y
    | _ => false
  | c, .tr1 e, a => match a with
    | .Call (.Name x _) [.Call (.Name z _) [y] [] _] [] _ => decide (x = "tuple") && decide (z = "range") && glbC c x && glbC c z && c.free.contains x && c.free.contains z && chkE c e y
    | _ => false
  | c, .mk0 C n key es, a => match a with
    | .Call (.Name x _) (y :: ys) [] _ => decide (x = C) && glbC c x && c.mk0s.any (fun q => decide (q.1 = C) && decide (q.2.1 = key) && decide (q.2.2.length = n + 1)) && chkEs c es (y :: ys)
    | _ => false
  | c, .lens es, a => match a with
    | .Call (.Name x _) [.Set ys kk _] [] _ => decide (x = "len") && glbC c x && c.free.contains x && decide (kk = 0) && decide (ys.length ≤ 30) && chkEs c es ys
    | _ => false
  | c, .compN _ own t it cond cs elt, a => match a with
    | .ListComp x (⟨tg, iter, ifs, as⟩ :: gs) scope _ => decide (as = 0) && (chkW c it iter && tupW it tg) && blkC c.N c.sc scope own && t.slots.all (fun i => (own.map (·.2)).contains i) && chkT (c.blk scope) t tg &&
        ifsC cond ifs (fun y => chkB (c.blk scope) cond y) && chkCs (c.blk scope) cs gs && (vsC cs).all (fun i => (own.map (·.2)).contains i) && chkE (c.blk scope) elt x
    | _ => false
def chkCs : Cfg → Cs → List Comprehension → Bool
  | _, .nil, gs => gs.isEmpty
  | c, .cons vs t it cond cs, gs => match gs with
    | ⟨tg, iter, ifs, as⟩ :: gs => decide (as = 0) && (chkW c it iter && tupW it tg) && t.slots.all (fun i => vs.contains i) && chkT c t tg && ifsC cond ifs (fun y => chkB c cond y) && (vsC cs).all (fun i => vs.contains i) && chkCs c cs gs
    | [] => false
def chkPs : Cfg → Ps → List (Option Expr) → List Expr → Bool
  | _, .nil, ks, vs => ks.isEmpty && vs.isEmpty
  | c, .cons e f ps, ks, vs => match ks, vs with
    | some k :: ks, v :: vs => chkE c e k && chkE c f v && chkPs c ps ks vs
    | _, _ => false
def chkEs : Cfg → Es → List Expr → Bool
  | _, .nil, as => as.isEmpty
  | c, .cons e es, as => match as with
    | a :: as => chkE c e a && chkEs c es as
    | [] => false
def chkB : Cfg → B → Expr → Bool
  | c, .val e, a => chkE c e a && (plainT a || (match e with
    | .cmp .. => true
    | .chain .. => true
    | _ => false))
  | c, .and e f, a => match a with
    | .BoolOp .And (x :: y :: r) pos => chkB c e x && (match r with
      | [] => chkB c f y
      | _ :: _ => chkB c f (.BoolOp .And (y :: r) pos))
    | _ => false
  | c, .or e f, a => match a with
    | .BoolOp .Or (x :: y :: r) pos => chkB c e x && (match r with
      | [] => chkB c f y
      | _ :: _ => chkB c f (.BoolOp .Or (y :: r) pos))
    | _ => false
  | c, .not e, a => match a with
    | .UnaryOp .Not x _ => chkB c e x
    | _ => false
  | _, .tt, _ => false
def chkO : Cfg → O → Option Expr → Bool
  | _, .omit, a => a.isNone
  | c, .part e, a => match a with
    | some x => chkE c e x
    | none => false
def chkW : Cfg → W → Expr → Bool
  | c, .seq e, a => chkE c e a
  | c, .rng1 e, a => match a with
    | .Call (.Name x _) [y] [] _ => decide (x = "range") && glbC c x && c.free.contains x && chkE c e y
    | _ => false
  | c, .rng2 e f, a => match a with
    | .Call (.Name x _) [y, z] [] _ => decide (x = "range") && glbC c x && c.free.contains x && chkE c e y && chkE c f z
    | _ => false
  | c, .rng3 e f g, a => match a with
    | .Call (.Name x _) [y, z, u] [] _ => decide (x = "range") && glbC c x && c.free.contains x && chkE c e y && chkE c f z && chkE c g u
    | _ => false
  | c, .enum e, a => match a with
    | .Call (.Name x _) [y] [] _ => decide (x = "enumerate") && glbC c x && c.free.contains x && chkE c e y
    | _ => false
  | c, .zip e f, a => match a with
    | .Call (.Name x _) [y, z] [] _ => decide (x = "zip") && glbC c x && c.free.contains x && chkE c e y && chkE c f z
    | _ => false
end
end Ev

set_option Elab.async false
set_option linter.all false
set_option maxRecDepth 100000
set_option maxHeartbeats 4000000
/-! Ev11: a text that is so spelt does what wp asks. -/
namespace Ev
open PySem PySem.Spec PyProof.Rows L2
theorem band {a b : Bool} (h : (a && b) = true) : a = true ∧ b = true := Bool.and_eq_true_iff.mp h
theorem visC_ok {c : Cfg} {x : Str} (h : visC c x = true) : Vis c.sc x ∧ (x == ("__debug__" : Str)) = false ∧ (x == ("__classdict__" : Str)) = false := by
  unfold visC at h
  obtain ⟨h12, h3⟩ := band h
  obtain ⟨h1, h2⟩ := band h12
  refine ⟨?_, by simpa using h2, by simpa using h3⟩
  split at h1
  · exact .inl (by assumption)
  · exact .inr (.inl (by assumption))
  · exact .inr (.inr (by assumption))
  · cases h1
theorem glbC_ok {c : Cfg} {x : Str} (h : glbC c x = true) : c.sc.names.lookup x = some .globalImplicit ∧ (x == ("__debug__" : Str)) = false := by
  unfold glbC at h
  obtain ⟨h1, h2⟩ := band h
  refine ⟨?_, by simpa using h2⟩
  split at h1
  · assumption
  · cases h1
theorem locC_ok {c : Cfg} {x : Str} (h : locC c x = true) : Loc c.sc x ∧ (c.fnb x = true ∨ c.sc.names.lookup x = some .local) := by
  unfold locC at h
  split at h
  · rename_i e; exact ⟨.inl e, .inr e⟩
  · rename_i e; exact ⟨.inr e, .inl h⟩
  · cases h
theorem noSl_ok {b : Expr} (h : noSl b = true) : PlainIx b := by
  intro o i
  cases b <;> first | rfl | cases h
theorem noSl_nosl {b : Expr} (h : noSl b = true) : NoSl b := by
  intro o i
  cases b <;> first | rfl | cases h
theorem noComp_ok {a : Expr} {t : Option Expr} {l : Nat} {env : PySem.Env} (h : noComp a = true) : swapsWith a t l env = pure false := by
  cases a <;> first | rfl | cases h
theorem plainT_ok {a : Expr} {env : PySem.Env} (h : plainT a = true) (whole : Sem Value) : isTrue a env whole = (do let v ← whole; standAt a.pos; holding [v] (truthy v)) := by
  cases a with
  | UnaryOp op x p => cases op <;> first | rfl | cases h
  | BoolOp => cases h
  | IfExp => cases h
  | Compare => cases h
  | _ => rfl
theorem plainO_ok {o : Expr} {n : Str} {env : PySem.Env} (h : plainO o = true) : attributeBase o n env (eval o env) = eval o env := by
  cases o with
  | Call f as kws p =>
    cases f <;> first
      | rfl
      | (cases as <;> first
          | rfl
          | (cases kws <;> first
              | rfl
              | cases h))
  | _ => rfl
/-- a spelt expression is no star, no set display -/
def plainA : Expr → Bool
  | .Starred .. => false
  | .Set .. => false
  | _ => true
theorem plainA_star {a : Expr} {as : List Expr} {env : PySem.Env} (h : plainA a = true) : starEach (a :: as) env = (false, eval a env) :: starEach as env := by
  cases a <;> first | rfl | cases h
theorem plainA_set {a : Expr} {env : PySem.Env} (h : plainA a = true) (x : Value) : foldedSetIterable a env x = pure x := by
  cases a <;> first | rfl | cases h
theorem plainA_mark {a : Expr} {op : CmpOp} (h : plainA a = true) : behindInMarks op a = false := by
  cases a <;> first | rfl | cases h
theorem chk_plainA (c : Cfg) : ∀ (e : E) (a : Expr), chkE c e a = true → plainA a = true
  | .frz e, a, h => chk_plainA c e a (by simpa [chkE] using h)
  | .var i, a, h => by cases a <;> first | rfl | simp [chkE] at h
  | .int i, a, h => by cases a <;> first | rfl | simp [chkE] at h
  | .bl i, a, h => by cases a <;> first | rfl | simp [chkE] at h
  | .non, a, h => by cases a <;> first | rfl | simp [chkE] at h
  | .str i, a, h => by cases a <;> first | rfl | simp [chkE] at h
  | .glob i, a, h => by cases a <;> first | rfl | simp [chkE] at h
  | .tup es, a, h => by cases a <;> first | rfl | simp [chkE] at h
  | .lst m es, a, h => by cases a <;> first | rfl | simp [chkE] at h
  | .neg es, a, h => by cases a <;> first | rfl | simp [chkE] at h
  | .not es, a, h => by cases a <;> first | rfl | simp [chkE] at h
  | .and e f, a, h => by cases a <;> first | rfl | simp [chkE] at h
  | .or e f, a, h => by cases a <;> first | rfl | simp [chkE] at h
  | .ite t e f, a, h => by cases a <;> first | rfl | simp [chkE] at h
  | .bin m op e f, a, h => by cases a <;> first | rfl | simp [chkE] at h
  | .cmp op e f, a, h => by cases a <;> first | rfl | simp [chkE] at h
  | .chain op op' e f g, a, h => by cases a <;> first | rfl | simp [chkE] at h
  | .ix e f, a, h => by cases a <;> first | rfl | simp [chkE] at h
  | .sl m e lo hi, a, h => by cases a <;> first | rfl | simp [chkE] at h
  | .bi m b es, a, h => by cases a <;> first | rfl | simp [chkE] at h
  | .fn f es, a, h => by cases a <;> first | rfl | simp [chkE] at h
  | .app e f, a, h => by cases a <;> first | rfl | simp [chkE] at h
  | .ext e f, a, h => by cases a <;> first | rfl | simp [chkE] at h
  | .pop e, a, h => by cases a <;> first | rfl | simp [chkE] at h
  | .tix lo e f, a, h => by cases a <;> first | rfl | simp [chkE] at h
  | .comp m own t it cond elt, a, h => by cases a <;> first | rfl | simp [chkE] at h
  | .fnk f ks p es, a, h => by cases a <;> first | rfl | simp [chkE] at h
  | .dix e f, a, h => by cases a <;> first | rfl | simp [chkE] at h
  | .dnew, a, h => by cases a <;> first | rfl | simp [chkE] at h
  | .disp ps, a, h => by cases a <;> first | rfl | simp [chkE] at h
  | .lr1 m e, a, h => by cases a <;> first | rfl | simp [chkE] at h
  | .lr2 m e f, a, h => by cases a <;> first | rfl | simp [chkE] at h
  | .isi e t, a, h => by cases a <;> first | rfl | simp [chkE] at h
  | .fld C f e, a, h => by cases a <;> first | rfl | simp [chkE] at h
  | .prp C f key e, a, h => by cases a <;> first | rfl | simp [chkE] at h
  | .mk C n key es, a, h => by cases a <;> first | rfl | simp [chkE] at h
  | .mt C mn key e es, a, h => by cases a <;> first | rfl | simp [chkE] at h
  | .lix e f, a, h => by cases a <;> first | rfl | simp [chkE] at h
  | .popi e f, a, h => by cases a <;> first | rfl | simp [chkE] at h
  | .tr1 e, a, h => by cases a <;> first | rfl | simp [chkE] at h
  | .mk0 C n key es, a, h => by cases a <;> first | rfl | simp [chkE] at h
  | .lens es, a, h => by cases a <;> first | rfl | simp [chkE] at h
  | .compN m own t it cond cs elt, a, h => by cases a <;> first | rfl | simp [chkE] at h
theorem chk_plainAs (c : Cfg) : ∀ (es : Es) (as : List Expr), chkEs c es as = true → as.all plainA = true
  | .nil, as, h => by cases as <;> first | rfl | simp [chkEs] at h
  | .cons e es, as, h => by
    cases as with
    | nil => rfl
    | cons a as =>
      simp only [chkEs] at h
      obtain ⟨h1, h2⟩ := band h
      simp only [List.all_cons, chk_plainA c e a h1, chk_plainAs c es as h2, Bool.and_self]
theorem plainAs_any {env : PySem.Env} {pos : Pos} : ∀ {as : List Expr}, as.all plainA = true → (backTo pos (starEach as env)).any (·.1) = false := by
  intro as h
  have e : (backTo pos (starEach as env)).any (·.1) = (starEach as env).any (·.1) := by
    unfold backTo
    simp [List.any_map, Function.comp_def]
  rw [e]
  induction as with
  | nil => rfl
  | cons a as ih =>
    simp only [List.all_cons] at h
    obtain ⟨h1, h2⟩ := band h
    rw [plainA_star h1, List.any_cons, ih h2 (by unfold backTo; simp [List.any_map, Function.comp_def])]
    rfl
theorem plainA_few {b : Expr} {env : PySem.Env} {pos : Pos} (h : plainA b = true) :
    ((backTo pos (starEach [b] env)).all (fun x => !x.1) && (backToKw pos (keywordEach [] env)).all (fun x => x.1.isSome) && decide ([b].length + ([] : List Keyword).length + (if ([] : List Keyword).isEmpty then 0 else 1) < 30)) = true := by
  rw [plainA_star h]
  rfl

theorem chk_len (c : Cfg) : ∀ (es : Es) (as : List Expr), chkEs c es as = true → as.length = es.len
  | .nil, as, h => by
    cases as with
    | nil => rfl
    | cons => simp [chkEs] at h
  | .cons e es, as, h => by
    cases as with
    | nil => simp [chkEs] at h
    | cons a as =>
      simp only [chkEs] at h
      rw [List.length_cons, chk_len c es as (band h).2]
      rfl
theorem kwEs_len : ∀ kws : List Keyword, (kwEs kws).length = kws.length
  | [] => rfl
  | ⟨_, _, _⟩ :: r => by simp [kwEs, kwEs_len r]
theorem kw_all {env : PySem.Env} {pos : Pos} : ∀ {kws : List Keyword}, kws.all (fun z => z.arg.isSome) = true → (backToKw pos (keywordEach kws env)).all (·.1.isSome) = true ∧ (backToKw pos (keywordEach kws env)).any (·.1.isNone) = false ∧ (backToKw pos (keywordEach kws env)).filterMap (·.1) = kwNs kws
  | [], _ => ⟨rfl, rfl, rfl⟩
  | ⟨none, e, p⟩ :: r, h => by cases (show false = true from h)
  | ⟨some n, e, p⟩ :: r, h => by
    obtain ⟨h1, h2, h3⟩ := kw_all (env := env) (pos := pos) (kws := r) (by simpa using h)
    have e1 : backToKw pos (keywordEach (⟨some n, e, p⟩ :: r) env) = (some n, do let v ← eval e env; standAt pos; pure v) :: backToKw pos (keywordEach r env) := rfl
    rw [e1]
    exact ⟨by simp only [List.all_cons, h1]; rfl, by simp only [List.any_cons, h2]; rfl, by simp only [List.filterMap_cons, h3]; rfl⟩
section
variable {X : Cx} {c : Cfg} {G : Ctx} {gl : Str → PV} {k : Nat} {J : Jw} {ex : Env → XV}
mutual
theorem okT (m : Match X c G gl k J ex) : ∀ (t : ST) (a : Expr), chkT c t a = true → PG X a (t.g X.K)
  | .name i, a, h => by
    cases a with
    | Name x p =>
      simp only [chkT] at h
      obtain ⟨h1, h2⟩ := band h
      obtain ⟨l1, l2⟩ := locC_ok h2
      simp only [ST.g]
      exact pg_name (m.N ▸ m.nd) (m.N ▸ of_decide_eq_true h1) (m.sc ▸ l1) (by rw [m.fnb, m.sc]; exact l2)
    | _ => simp [chkT] at h
  | .tup ts, a, h => by
    cases a with
    | Tuple es n p =>
      simp only [chkT] at h
      simp only [ST.g]
      obtain ⟨g, hl, hst, _⟩ := okTs m ts es h
      exact pg_sq m.calm g hl hst
    | _ => simp [chkT] at h
theorem okTs (m : Match X c G gl k J ex) : ∀ (ts : STs) (as : List Expr), chkTs c ts as = true → PGs X as (ts.g X.K) ∧ (assignEach as X.env).length = ts.len ∧ (assignEach as X.env).findIdx? (·.1) = none ∧ (assignEach as X.env).map (·.2) = as.map fun a => assign a X.env
  | .nil, as, h => by
    cases as with
    | nil => exact ⟨pgs_nil, rfl, rfl, rfl⟩
    | cons => simp [chkTs] at h
  | .cons t ts, as, h => by
    cases as with
    | nil => simp [chkTs] at h
    | cons a as =>
      simp only [chkTs] at h
      obtain ⟨h1, h2⟩ := band h
      obtain ⟨g2, l2, s2, e2⟩ := okTs m ts as h2
      have g1 := okT m t a h1
      have ea : assignEach (a :: as) X.env = (false, assign a X.env) :: assignEach as X.env := by
        cases a <;> first | rfl | (cases t <;> simp [chkT] at h1)
      refine ⟨?_, ?_, ?_, ?_⟩
      · simp only [STs.g]
        exact pgs_cons g1 g2 (by rw [ea]; rfl)
      · rw [ea, List.length_cons, l2]; rfl
      · rw [ea, List.findIdx?_cons]
        simp [s2]
      · rw [ea, List.map_cons, List.map_cons, e2]
end
theorem fns_of {c : Cfg} {f : Str} {n : Nat} (h : c.fns.any (fun p => decide (p.1 = f) && decide (p.2.length = n)) = true) : ∃ ps, (f, ps) ∈ c.fns ∧ ps.length = n := by
  obtain ⟨p, hp, e⟩ := List.any_eq_true.mp h
  obtain ⟨e1, e2⟩ := band e
  have e1 := of_decide_eq_true e1
  subst e1
  exact ⟨p.2, hp, of_decide_eq_true e2⟩
theorem yes_tests : PTs X [] (tT X.K J (wpB G gl ex .tt)) :=
  ⟨fun pins s σ H Q I ⟨A, ρ, h, j, rs, r, q⟩ => pts_nil.run pins s σ H Q I (q H .refl r)⟩
end
theorem okComp {G : Ctx} {gl : Str → PV} {k : Nat} (f : Bool) (own : List (Str × Nat)) (t : ST) (it : W) (cond : B) (elt : E) {X : Cx} {c : Cfg} {J : Jw} {ex : Env → XV} (m : Match X c G gl k J ex) (x tg iter : Expr) (ifs : List Expr) (as : Int) (scope : Scope) (p : Pos)
    (okE' : ∀ {X : Cx} {c : Cfg} {J : Jw} {ex : Env → XV} (m : Match X c G gl k J ex) (a : Expr), chkE c elt a = true → PE X a (tE X.K J (wpE G gl ex elt)))
    (okB' : ∀ {X : Cx} {c : Cfg} {J : Jw} {ex : Env → XV} (m : Match X c G gl k J ex) (a : Expr), chkB c cond a = true → PT X a (tT X.K J (wpB G gl ex cond)))
    (okW' : ∀ {X : Cx} {c : Cfg} {J : Jw} {ex : Env → XV} (m : Match X c G gl k J ex) (tg a : Expr), chkW c it a = true → tupW it tg = true → PI X tg a (tI X.K J (wpW G gl ex it)) ∧ ∀ x, foldedSetIterable a X.env x = pure x)
    (h : chkE c (.comp f own t it cond elt) (.ListComp x [⟨tg, iter, ifs, as⟩] scope p) = true) : as = 0 ∧ PI X tg iter (tI X.K J (wpW G gl ex it)) ∧ BlkOk X.N X.env.scope scope own ∧ (∀ i ∈ t.slots, i ∈ own.map (·.2)) ∧
      (∀ (s : Shared) (H : Hp) (C : Addr) (cl : List (Str × Addr)) (fp : List Addr), PG (X.blk s H scope (compEnvC scope cl C X.env) fp) tg (t.g X.K)) ∧
      (∀ (s : Shared) (H : Hp) (C : Addr) (cl : List (Str × Addr)) (fp : List Addr), PTs (X.blk s H scope (compEnvC scope cl C X.env) fp) ifs (tT X.K J0 (wpB G gl (fun _ => noX) cond))) ∧
      (∀ (s : Shared) (H : Hp) (C : Addr) (cl : List (Str × Addr)) (fp : List Addr), PE (X.blk s H scope (compEnvC scope cl C X.env) fp) x (tE X.K J0 (wpE G gl (fun _ => noX) elt))) ∧
      (∀ x, foldedSetIterable iter X.env x = pure x) ∧ scope.kind = .function := by
  simp only [chkE] at h
  obtain ⟨h123456, h7⟩ := band h
  obtain ⟨h12345, h6⟩ := band h123456
  obtain ⟨h1234, h5⟩ := band h12345
  obtain ⟨h123, h4⟩ := band h1234
  obtain ⟨h12, h3⟩ := band h123
  obtain ⟨h1, h2⟩ := band h12
  have ok := blkOk_by h3
  have mb := fun (s : Shared) (H : Hp) (C : Addr) (cl : List (Str × Addr)) (fp : List Addr) => m.blk scope ok.kind s H C cl fp
  refine ⟨of_decide_eq_true h1, (okW' m tg iter (band h2).1 (band h2).2).1, by rw [m.N, m.sc]; exact ok, fun i hi => ?_, fun s H C cl fp => okT (mb s H C cl fp) t tg h5, fun s H C cl fp => ?_, fun s H C cl fp => okE' (mb s H C cl fp) x h7, (okW' m tg iter (band h2).1 (band h2).2).2, ok.kind⟩
  · have := List.all_eq_true.mp h4 i hi
    exact List.contains_iff_mem.mp this
  · match ifs, cond, h6 with
    | [], .tt, _ => exact yes_tests
    | [], .val _, h6 => simp at h6
    | [], .and _ _, h6 => simp at h6
    | [], .or _ _, h6 => simp at h6
    | [], .not _, h6 => simp at h6
    | [y], cond, h6 => exact pts_one (okB' (mb s H C cl fp) y h6)
    | _ :: _ :: _, cond, h6 => simp at h6
theorem plainA_kds : ∀ {as : List Expr}, as.all plainA = true → as.all PySem.W.kdsPlain = true
  | [], _ => rfl
  | a :: as, h => by
    simp only [List.all_cons] at h
    obtain ⟨h1, h2⟩ := band h
    simp only [List.all_cons, plainA_kds h2, Bool.and_true]
    cases a <;> first | rfl | cases h1
theorem plainAs_form {env : PySem.Env} {pos : Pos} {n : Nat} (hn : n < 30) : ∀ {as : List Expr}, as.all plainA = true → methodCallForm n (backTo pos (starEach as env)) (backToKw pos (keywordEach [] env)) = true := by
  intro as h
  have e : ∀ as : List Expr, as.all plainA = true → (backTo pos (starEach as env)).all (fun x => !x.1) = true := by
    intro as
    induction as with
    | nil => intro _; rfl
    | cons a as ih =>
      intro h
      simp only [List.all_cons] at h
      obtain ⟨h1, h2⟩ := band h
      have q : ∀ l : List (Bool × Sem Value), (backTo pos l).all (fun x => !x.1) = l.all (fun x => !x.1) := fun l => by
        unfold backTo
        simp [List.all_map, Function.comp_def]
      rw [q, plainA_star h1, List.all_cons, ← q, ih h2]
      rfl
  unfold methodCallForm
  rw [e as h]
  have e3 : (backToKw pos (keywordEach [] env)) = [] := rfl
  rw [e3]
  simp [hn]
theorem chk_lenS (c : Cfg) (es : Es) (as : List Expr) (h : chkEs c es as = true) {G : Ctx} {gl : Str → PV} (ex : Env → XV) {ρ : Env} {h1 : MH} {Q : LK} (hw : wpEs G gl ex es ρ h1 Q) : wpEs G gl ex es ρ h1 fun xs h2 => xs.length = as.length ∧ Q xs h2 := by
  rw [chk_len c es as h]
  exact lenEs ex es hw
theorem okIfs {X : Cx} {c : Cfg} {G : Ctx} {gl : Str → PV} (cond : B) (ifs : List Expr) (f : Expr → Bool) (h : ifsC cond ifs f = true) (ok : ∀ y, f y = true → PT X y (tT X.K J0 (wpB G gl (fun _ => noX) cond))) : PTs X ifs (tT X.K J0 (wpB G gl (fun _ => noX) cond)) := by
  unfold ifsC at h
  split at h
  · split at h
    · exact yes_tests
    · cases h
  · exact pts_one (ok _ h)
  · cases h
/-- the clauses of a text, as they are read -/
def toCl (K : Frag) (G : Ctx) (gl : Str → PV) : Cs → List Comprehension → List ClI
  | .cons vs t it cond cs, ⟨tg, iter, ifs, _⟩ :: gs => ⟨tg, iter, ifs, tI K J0 (wpW G gl (fun _ => noX) it), t.g K, tT K J0 (wpB G gl (fun _ => noX) cond), vs⟩ :: toCl K G gl cs gs
  | _, _ => []
theorem toCl_ok {K : Frag} {G : Ctx} {gl : Str → PV} {c : Cfg} : ∀ (cs : Cs) (gs : List Comprehension), chkCs c cs gs = true → ClRels K J0 (wpCs G gl cs) (toCl K G gl cs gs) ∧ (toCl K G gl cs gs).map clG = gs ∧ vsOf (toCl K G gl cs gs) = vsC cs
  | .nil, gs, h => by
    cases gs with
    | nil => exact ⟨.nil, rfl, rfl⟩
    | cons => simp [chkCs] at h
  | .cons vs t it cond cs, gs, h => by
    cases gs with
    | nil => simp [chkCs] at h
    | cons g gs =>
      obtain ⟨tg, iter, ifs, as⟩ := g
      simp only [chkCs] at h
      obtain ⟨h, h7⟩ := band h
      obtain ⟨h, h6⟩ := band h
      obtain ⟨h, h5⟩ := band h
      obtain ⟨h, h4⟩ := band h
      obtain ⟨h, h3⟩ := band h
      obtain ⟨h1, h2⟩ := band h
      obtain rfl : as = 0 := of_decide_eq_true h1
      obtain ⟨r1, r2, r3⟩ := toCl_ok (K := K) (G := G) (gl := gl) cs gs h7
      refine ⟨.cons ⟨rfl, rfl, rfl, rfl, fun i hi => List.contains_iff_mem.mp (List.all_eq_true.mp h3 i hi), monW _ it, monB _ cond⟩ r1, ?_, rfl⟩
      show (⟨tg, iter, ifs, 0⟩ : Comprehension) :: (toCl K G gl cs gs).map clG = _
      rw [r2]
theorem okCompN {G : Ctx} {gl : Str → PV} {k : Nat} (own : List (Str × Nat)) (t : ST) (it : W) (cond : B) (cs : Cs) (elt : E) (f : Bool) {X : Cx} {c : Cfg} {J : Jw} {ex : Env → XV} (m : Match X c G gl k J ex) (x tg iter : Expr) (ifs : List Expr) (as : Int) (gs : List Comprehension) (scope : Scope) (p : Pos)
    (okE' : ∀ {X : Cx} {c : Cfg} {J : Jw} {ex : Env → XV} (m : Match X c G gl k J ex) (a : Expr), chkE c elt a = true → PE X a (tE X.K J (wpE G gl ex elt)))
    (okB' : ∀ {X : Cx} {c : Cfg} {J : Jw} {ex : Env → XV} (m : Match X c G gl k J ex) (a : Expr), chkB c cond a = true → PT X a (tT X.K J (wpB G gl ex cond)))
    (okW' : ∀ {X : Cx} {c : Cfg} {J : Jw} {ex : Env → XV} (m : Match X c G gl k J ex) (tg a : Expr), chkW c it a = true → tupW it tg = true → PI X tg a (tI X.K J (wpW G gl ex it)) ∧ ∀ x, foldedSetIterable a X.env x = pure x)
    (okC' : ∀ {X : Cx} {c : Cfg} (m : Match X c G gl k J0 (fun _ => noX)) (gs pre : List Comprehension), chkCs c cs gs = true → GoodCl X (pre ++ gs) pre.length (toCl X.K G gl cs gs))
    (h : chkE c (.compN f own t it cond cs elt) (.ListComp x (⟨tg, iter, ifs, as⟩ :: gs) scope p) = true) : ∃ ci : ClI, (⟨tg, iter, ifs, as⟩ :: gs) = clG ci :: (toCl X.K G gl cs gs).map clG ∧ PI X ci.tg ci.iter ci.wi ∧ BlkOk X.N X.env.scope scope own ∧ ci.vs = own.map (·.2) ∧
      BlkGood X x (tE X.K J0 (wpE G gl (fun _ => noX) elt)) scope ci (toCl X.K G gl cs gs) ∧ (∀ x, foldedSetIterable ci.iter X.env x = pure x) ∧
      ClRel X.K J ⟨wpW G gl ex it, t, wpB G gl (fun _ => noX) cond, own.map (·.2)⟩ ci ∧ ClRels X.K J0 (wpCs G gl cs) (toCl X.K G gl cs gs) ∧ scope.kind = .function := by
  simp only [chkE] at h
  obtain ⟨h, h9⟩ := band h
  obtain ⟨h, h8⟩ := band h
  obtain ⟨h, h7⟩ := band h
  obtain ⟨h, h6⟩ := band h
  obtain ⟨h, h5⟩ := band h
  obtain ⟨h, h4⟩ := band h
  obtain ⟨h, h3⟩ := band h
  obtain ⟨h1, h2⟩ := band h
  obtain rfl : as = 0 := of_decide_eq_true h1
  have ok := blkOk_by h3
  have mb := fun (s : Shared) (H : Hp) (C : Addr) (cl : List (Str × Addr)) (fp : List Addr) => m.blk scope ok.kind s H C cl fp
  obtain ⟨r1, r2, r3⟩ := toCl_ok (K := X.K) (G := G) (gl := gl) cs gs h7
  have sub : ∀ i ∈ t.slots, i ∈ own.map (·.2) := fun i hi => List.contains_iff_mem.mp (List.all_eq_true.mp h4 i hi)
  have w := okW' m tg iter (band h2).1 (band h2).2
  refine ⟨⟨tg, iter, ifs, tI X.K J (wpW G gl ex it), t.g X.K, tT X.K J0 (wpB G gl (fun _ => noX) cond), own.map (·.2)⟩, ?_, w.1, by rw [m.N, m.sc]; exact ok, rfl, ⟨fun s H C cl fp => ⟨⟨?_, ?_⟩, ?_, ?_⟩, ?_⟩, w.2, ⟨rfl, rfl, rfl, rfl, sub, monW _ it, monB _ cond⟩, r1, ok.kind⟩
  · rw [r2]; rfl
  · exact okT (mb s H C cl fp) t tg h5
  · exact okIfs (c := c.blk scope) cond ifs _ h6 fun y hy => okB' (mb s H C cl fp) y hy
  · rw [r2]
    exact okC' (mb s H C cl fp) gs [_] h7
  · exact okE' (mb s H C cl fp) x h9
  · rw [r3]
    exact fun i hi => List.contains_iff_mem.mp (List.all_eq_true.mp h8 i hi)
mutual
theorem okE {G : Ctx} {gl : Str → PV} {k : Nat} : ∀ (e : E) {X : Cx} {c : Cfg} {J : Jw} {ex : Env → XV} (m : Match X c G gl k J ex) (a : Expr), chkE c e a = true → PE X a (tE X.K J (wpE G gl ex e))
  | .var i, X, c, J, ex, m, a, h => by
    cases a with
    | Name x p =>
      simp only [chkE] at h
      obtain ⟨h1, h2⟩ := band h
      obtain ⟨v1, v2, v3⟩ := visC_ok h2
      exact s_var (m.N ▸ of_decide_eq_true h1) (m.sc ▸ v1) v2 v3
    | _ => simp [chkE] at h
  | .int i, X, c, J, ex, m, a, h => by
    cases a with
    | Constant v _ _ =>
      cases v with
      | int j => simp only [chkE] at h; cases of_decide_eq_true h; exact s_cst pe_int fun _ => .int _
      | _ => simp [chkE] at h
    | _ => simp [chkE] at h
  | .bl b, X, c, J, ex, m, a, h => by
    cases a with
    | Constant v _ _ =>
      cases v with
      | bool j => simp only [chkE] at h; cases (beq_iff_eq.mp h); exact s_cst pe_bl fun _ => .bl _
      | _ => simp [chkE] at h
    | _ => simp [chkE] at h
  | .non, X, c, J, ex, m, a, h => by
    cases a with
    | Constant v _ _ =>
      cases v with
      | none => exact s_cst pe_non fun _ => .non
      | _ => simp [chkE] at h
    | _ => simp [chkE] at h
  | .str x, X, c, J, ex, m, a, h => by
    cases a with
    | Constant v _ _ =>
      cases v with
      | str j => simp only [chkE] at h; cases of_decide_eq_true h; exact s_cst pe_str fun _ => .str _
      | _ => simp [chkE] at h
    | _ => simp [chkE] at h
  | .glob x, X, c, J, ex, m, a, h => by
    cases a with
    | Name y p =>
      simp only [chkE] at h
      obtain ⟨h12, h3⟩ := band h
      obtain ⟨h1, h2⟩ := band h12
      cases of_decide_eq_true h1
      obtain ⟨g1, g2⟩ := glbC_ok h2
      obtain ⟨u, w, e1, e2, e3⟩ := m.cst x (List.contains_iff_mem.mp h3)
      exact s_cst (pe_glob (show X.env.scope.names.lookup x = _ by rw [m.sc]; exact g1) e1 e2 g2) e3
    | _ => simp [chkE] at h
  | .tup es, X, c, J, ex, m, a, h => by
    cases a with
    | Tuple as n p => simp only [chkE] at h; exact s_tup m.jj (okEs es m as h) (monEs ex es)
    | _ => simp [chkE] at h
  | .lst f es, X, c, J, ex, m, a, h => by
    cases a with
    | List as p => simp only [chkE] at h; exact s_lst m.jj f (okEs es m as h) (monEs ex es)
    | _ => simp [chkE] at h
  | .neg e, X, c, J, ex, m, a, h => by
    cases a with
    | UnaryOp op x p =>
      cases op with
      | USub => simp only [chkE] at h; exact s_neg m.jj (okE e m x h) (monE ex e)
      | _ => simp [chkE] at h
    | _ => simp [chkE] at h
  | .not e, X, c, J, ex, m, a, h => by
    cases a with
    | UnaryOp op x p =>
      cases op with
      | Not => simp only [chkE] at h; exact s_not m.jj (okE e m x h) (monE ex e)
      | _ => simp [chkE] at h
    | _ => simp [chkE] at h
  | .and e f, X, c, J, ex, m, a, h => by
    cases a with
    | BoolOp op vs p =>
      cases op with
      | Or => simp [chkE] at h
      | And =>
        match vs, h with
        | x :: y :: [], h =>
          simp only [chkE] at h
          obtain ⟨h1, h2⟩ := band h
          exact s_and m.jj (okE e m x h1) (pe_one (okE f m y h2)) (monE ex e) (monE ex f)
        | x :: y :: z :: r, h =>
          simp only [chkE] at h
          obtain ⟨h1, h2⟩ := band h
          exact s_and m.jj (okE e m x h1) (okE f m _ h2) (monE ex e) (monE ex f)
        | [], h => simp [chkE] at h
        | [_], h => simp [chkE] at h
    | _ => simp [chkE] at h
  | .or e f, X, c, J, ex, m, a, h => by
    cases a with
    | BoolOp op vs p =>
      cases op with
      | And => simp [chkE] at h
      | Or =>
        match vs, h with
        | x :: y :: [], h =>
          simp only [chkE] at h
          obtain ⟨h1, h2⟩ := band h
          exact s_or m.jj (okE e m x h1) (pe_one (okE f m y h2)) (monE ex e) (monE ex f)
        | x :: y :: z :: r, h =>
          simp only [chkE] at h
          obtain ⟨h1, h2⟩ := band h
          exact s_or m.jj (okE e m x h1) (okE f m _ h2) (monE ex e) (monE ex f)
        | [], h => simp [chkE] at h
        | [_], h => simp [chkE] at h
    | _ => simp [chkE] at h
  | .ite t e f, X, c, J, ex, m, a, h => by
    cases a with
    | IfExp x y z p =>
      simp only [chkE] at h
      obtain ⟨h12, h3⟩ := band h
      obtain ⟨h1, h2⟩ := band h12
      exact s_ite m.jj (okB t m x h1).1 (okE e m y h2) (okE f m z h3) (monB ex t) (monE ex e) (monE ex f)
    | _ => simp [chkE] at h
  | .bin f op e e', X, c, J, ex, m, a, h => by
    cases a with
    | BinOp x o y p =>
      simp only [chkE] at h
      obtain ⟨h12, h3⟩ := band h
      obtain ⟨h1, h2⟩ := band h12
      cases of_decide_eq_true h1
      exact s_bin m f op (okE e m x h2) (okE e' m y h3) (monE ex e) (monE ex e')
    | _ => simp [chkE] at h
  | .cmp op e f, X, c, J, ex, m, a, h => by
    cases a with
    | Compare x os ys p =>
      match os, ys, h with
      | [o], [y], h =>
        simp only [chkE] at h
        obtain ⟨h12, h3⟩ := band h
        obtain ⟨h1, h2⟩ := band h12
        cases of_decide_eq_true h1
        exact s_cmp m op (okE e m x h2) (okE f m y h3) (monE ex e) (monE ex f) (plainA_mark (chk_plainA c f y h3))
      | [], _, h => simp [chkE] at h
      | [_], [], h => simp [chkE] at h
      | [_], _ :: _ :: _, h => simp [chkE] at h
      | _ :: _ :: _, _, h => simp [chkE] at h
    | _ => simp [chkE] at h
  | .chain op op' e f g, X, c, J, ex, m, a, h => by
    cases a with
    | Compare x os ys p =>
      match os, ys, h with
      | [o, o'], [y, z], h =>
        simp only [chkE] at h
        obtain ⟨h1234, h5⟩ := band h
        obtain ⟨h123, h4⟩ := band h1234
        obtain ⟨h12, h3⟩ := band h123
        obtain ⟨h1, h2⟩ := band h12
        cases of_decide_eq_true h1
        cases of_decide_eq_true h2
        exact s_chain m op op' (okE e m x h3) (okE f m y h4) (okE g m z h5) (monE ex e) (monE ex f) (monE ex g) (plainA_mark (chk_plainA c g z h5))
      | [], _, h => simp [chkE] at h
      | [_], _, h => simp [chkE] at h
      | [_, _], [], h => simp [chkE] at h
      | [_, _], [_], h => simp [chkE] at h
      | [_, _], _ :: _ :: _ :: _, h => simp [chkE] at h
      | _ :: _ :: _ :: _, _, h => simp [chkE] at h
    | _ => simp [chkE] at h
  | .ix e f, X, c, J, ex, m, a, h => by
    cases a with
    | Subscript x y p =>
      simp only [chkE] at h
      obtain ⟨h12, h3⟩ := band h
      obtain ⟨h1, h2⟩ := band h12
      exact s_ix m.jj (okE e m x h2) (okE f m y h3) (monE ex e) (monE ex f) (noSl_ok h1)
    | _ => simp [chkE] at h
  | .sl f e lo hi, X, c, J, ex, m, a, h => by
    cases a with
    | Subscript x y p =>
      cases y with
      | Slice l u st p2 =>
        cases st with
        | some _ => simp [chkE] at h
        | none =>
          simp only [chkE] at h
          obtain ⟨h12, h3⟩ := band h
          obtain ⟨h1, h2⟩ := band h12
          exact s_sl m.jj f (okE e m x h1) (okO lo m l h2) (okO hi m u h3) (monE ex e) (monO ex lo) (monO ex hi)
      | _ => simp [chkE] at h
    | _ => simp [chkE] at h
  | .bi f b es, X, c, J, ex, m, a, h => by
    cases a with
    | Call fe as kws p =>
      match fe, as, kws, h with
      | .Name x _, y :: ys, [], h =>
        simp only [chkE] at h
        obtain ⟨h123, h4⟩ := band h
        obtain ⟨h12, h3⟩ := band h123
        obtain ⟨h1, h2⟩ := band h12
        obtain ⟨g1, g2⟩ := glbC_ok h2
        have pl := chk_plainAs c es _ h4
        simp only [List.all_cons] at pl
        obtain ⟨p1, p2⟩ := band pl
        exact s_bi m f b (of_decide_eq_true h1) (show X.env.scope.names.lookup x = _ by rw [m.sc]; exact g1) (m.free x (List.contains_iff_mem.mp h3)) (okEs es m _ h4) (monEs ex es) (plainA_star p1) (plainAs_any p2)
      | .Name _ _, [], _, h => simp [chkE] at h
      | .Name _ _, _ :: _, _ :: _, h => simp [chkE] at h
      | .Attribute .., _, _, h => simp [chkE] at h
      | .BoolOp .., _, _, h => simp [chkE] at h
      | .NamedExpr .., _, _, h => simp [chkE] at h
      | .BinOp .., _, _, h => simp [chkE] at h
      | .UnaryOp .., _, _, h => simp [chkE] at h
      | .Lambda .., _, _, h => simp [chkE] at h
      | .IfExp .., _, _, h => simp [chkE] at h
      | .Dict .., _, _, h => simp [chkE] at h
      | .Set .., _, _, h => simp [chkE] at h
      | .ListComp .., _, _, h => simp [chkE] at h
      | .SetComp .., _, _, h => simp [chkE] at h
      | .DictComp .., _, _, h => simp [chkE] at h
      | .GeneratorExp .., _, _, h => simp [chkE] at h
      | .Await .., _, _, h => simp [chkE] at h
      | .Yield .., _, _, h => simp [chkE] at h
      | .YieldFrom .., _, _, h => simp [chkE] at h
      | .Compare .., _, _, h => simp [chkE] at h
      | .Call .., _, _, h => simp [chkE] at h
      | .FormattedValue .., _, _, h => simp [chkE] at h
      | .JoinedStr .., _, _, h => simp [chkE] at h
      | .Constant .., _, _, h => simp [chkE] at h
      | .Subscript .., _, _, h => simp [chkE] at h
      | .Starred .., _, _, h => simp [chkE] at h
      | .List .., _, _, h => simp [chkE] at h
      | .Tuple .., _, _, h => simp [chkE] at h
      | .Slice .., _, _, h => simp [chkE] at h
    | _ => simp [chkE] at h
  | .fn f es, X, c, J, ex, m, a, h => by
    cases a with
    | Call fe as kws p =>
      cases fe with
      | Name x px =>
        cases kws with
        | cons => cases as <;> simp [chkE] at h
        | nil =>
          cases as with
          | nil => simp [chkE] at h
          | cons y ys =>
            simp only [chkE] at h
            obtain ⟨h123, h4⟩ := band h
            obtain ⟨h12, h3⟩ := band h123
            obtain ⟨h1, h2⟩ := band h12
            cases of_decide_eq_true h1
            obtain ⟨g1, g2⟩ := glbC_ok h2
            obtain ⟨ps, hps, hl⟩ := fns_of h3
            have pl := chk_plainAs c es _ h4
            simp only [List.all_cons] at pl
            obtain ⟨p1, p2⟩ := band pl
            have hn : ys.length + 1 = es.len := chk_len c es _ h4
            exact s_fn m hps (show X.env.scope.names.lookup f = _ by rw [m.sc]; exact g1) g2 (okEs es m _ h4) (monEs ex es) (hn.trans hl.symm) (fun q => by rw [hn]; exact lenEs ex es q) (plainA_star p1) (plainAs_any p2)
      | _ => simp [chkE] at h
    | _ => simp [chkE] at h
  | .app e f, X, c, J, ex, m, a, h => by
    cases a with
    | Call fe as kws p =>
      cases fe with
      | Attribute o n p1 =>
        match as, kws, h with
        | [y], [], h =>
          simp only [chkE] at h
          obtain ⟨h1234, h5⟩ := band h
          obtain ⟨h123, h4⟩ := band h1234
          obtain ⟨h12, h3⟩ := band h123
          obtain ⟨h1, h2⟩ := band h12
          cases of_decide_eq_true h1
          have py := chk_plainA c f y h5
          exact s_append m.jj (okE e m o h4) (a_cons m.jj (okE f m y h5) a_nil (monE ex f) mono_nil (plainA_star py)) (monE ex e) (mono_cons (monE ex f) mono_nil) (plainO_ok h2) (plainA_few py) h3 (plainA_star py)
        | [], _, h => simp [chkE] at h
        | [_], _ :: _, h => simp [chkE] at h
        | _ :: _ :: _, _, h => simp [chkE] at h
      | _ => simp [chkE] at h
    | _ => simp [chkE] at h
  | .ext e f, X, c, J, ex, m, a, h => by
    cases a with
    | Call fe as kws p =>
      cases fe with
      | Attribute o n p1 =>
        match as, kws, h with
        | [y], [], h =>
          simp only [chkE] at h
          obtain ⟨h1234, h5⟩ := band h
          obtain ⟨h123, h4⟩ := band h1234
          obtain ⟨h12, h3⟩ := band h123
          obtain ⟨h1, h2⟩ := band h12
          cases of_decide_eq_true h1
          have py := chk_plainA c f y h5
          exact s_extend m.jj (okE e m o h4) (a_cons m.jj (okE f m y h5) a_nil (monE ex f) mono_nil (plainA_star py)) (monE ex e) (mono_cons (monE ex f) mono_nil) (plainO_ok h2) (plainA_few py) h3 (plainA_star py)
        | [], _, h => simp [chkE] at h
        | [_], _ :: _, h => simp [chkE] at h
        | _ :: _ :: _, _, h => simp [chkE] at h
      | _ => simp [chkE] at h
    | _ => simp [chkE] at h
  | .tix lo e f, X, c, J, ex, m, a, h => by
    simp only [chkE] at h
    split at h
    · rename_i o n p1 y kk ck cp p2
      obtain ⟨h0, h12345⟩ := band h
      obtain ⟨h1234, h5⟩ := band h12345
      obtain ⟨h123, h4⟩ := band h1234
      obtain ⟨h12, h3⟩ := band h123
      obtain ⟨h1, h2⟩ := band h12
      cases of_decide_eq_true h1
      cases of_decide_eq_true h0
      have py := chk_plainA c f y h5
      exact s_tix m lo (okE e m o h4) (okE f m y h5) (monE ex e) (monE ex f) (plainO_ok h2) (plainA_star py) h3
    · cases h
  | .pop e, X, c, J, ex, m, a, h => by
    cases a with
    | Call fe as kws p =>
      cases fe with
      | Attribute o n p1 =>
        match as, kws, h with
        | [], [], h =>
          simp only [chkE] at h
          obtain ⟨h123, h4⟩ := band h
          obtain ⟨h12, h3⟩ := band h123
          obtain ⟨h1, h2⟩ := band h12
          cases of_decide_eq_true h1
          exact s_pop m.jj (okE e m o h4) (monE ex e) (plainO_ok h2) h3
        | [], _ :: _, h => simp [chkE] at h
        | _ :: _, _, h => simp [chkE] at h
      | _ => simp [chkE] at h
    | _ => simp [chkE] at h
  | .comp f own t it cond elt, X, c, J, ex, m, a, h => by
    cases a with
    | ListComp x gs scope p =>
      refine ⟨fun pins s σ H Q I hw => ?_⟩
      match gs, h with
      | [⟨tg, iter, ifs, as⟩], h =>
        have hh := okComp f own t it cond elt m x tg iter ifs as scope p (fun m a h => okE elt m a h) (fun m a h => (okB cond m a h).1) (fun m tg a h h2 => okW it m tg a h h2) h
        obtain ⟨e0, hi, ok, sub, hg, ht, he, hs, hkind⟩ := hh
        subst e0
        exact (pe_fzm (pe_lc m.calm (m.N ▸ m.nd) hi ok hg ht he hs) f).run pins s σ H Q I (s_comp m f hi (monW ex it) ok sub hg ht he (monB _ cond) (monE _ elt) hs hw)
      | [], h => simp [chkE] at h
      | _ :: _ :: _, h => simp [chkE] at h
    | _ => simp [chkE] at h
  | .frz e, X, c, J, ex, m, a, h => s_frz m.jj (okE e m a (by simpa [chkE] using h)) (monE ex e)
  | .fnk f ks perm es, X, c, J, ex, m, a, h => by
    simp only [chkE] at h
    split at h
    · rename_i x px kw kws p
      obtain ⟨h', h7⟩ := band h
      obtain ⟨h', h6⟩ := band h'
      obtain ⟨h', h5⟩ := band h'
      obtain ⟨h', h4⟩ := band h'
      obtain ⟨h', h3⟩ := band h'
      obtain ⟨h1, h2⟩ := band h'
      cases of_decide_eq_true h1
      obtain ⟨g1, g2⟩ := glbC_ok h2
      obtain ⟨q, hq, e⟩ := List.any_eq_true.mp h3
      obtain ⟨e12, e3⟩ := band e
      obtain ⟨e1, e2⟩ := band e12
      have hq : (f, ks, perm) ∈ c.kws := by
        have : q = (f, ks, perm) := Prod.ext (of_decide_eq_true e1) (Prod.ext (of_decide_eq_true e2) (of_decide_eq_true e3))
        rw [← this]; exact hq
      have hn : (kwEs (kw :: kws)).length = es.len := chk_len c es _ h7
      obtain ⟨k1, k2, k3⟩ := kw_all (env := X.env) (pos := p) h6
      exact s_fnK m hq (show X.env.scope.names.lookup f = _ by rw [m.sc]; exact g1) g2 (okKs es m _ h7) (monEs ex es) (of_decide_eq_true h5) (fun z => by rw [← kwEs_len (kw :: kws), hn]; exact lenEs ex es z) k1 (k3.trans (of_decide_eq_true h4)) k2
    · cases h
  | .dix e f, X, c, J, ex, m, a, h => by
    simp only [chkE] at h
    split at h
    · obtain ⟨h12, h3⟩ := band h
      obtain ⟨h1, h2⟩ := band h12
      exact s_dix m (okE e m _ h2) (okE f m _ h3) (monE ex e) (monE ex f) (noSl_nosl h1)
    · cases h
  | .dnew, X, c, J, ex, m, a, h => by
    simp only [chkE] at h
    split at h
    · exact s_dnew
    · cases h
  | .disp ps, X, c, J, ex, m, a, h => by
    simp only [chkE] at h
    split at h
    · obtain ⟨h', h5⟩ := band h
      obtain ⟨h', h4⟩ := band h'
      obtain ⟨h', h3⟩ := band h'
      obtain ⟨h1, h2⟩ := band h'
      exact s_disp m.jj (okPs ps m _ _ h5) (monPs ex ps) h4 (of_decide_eq_true h3) (fun z => by rw [z] at h1; cases h1) (of_decide_eq_true h2)
    · cases h
  | .lix e f, X, c, J, ex, m, a, h => by
    cases a with
    | Call fe as kws p =>
      cases fe with
      | Attribute o n p1 =>
        match as, kws, h with
        | [y], [], h =>
          simp only [chkE] at h
          obtain ⟨h1234, h5⟩ := band h
          obtain ⟨h123, h4⟩ := band h1234
          obtain ⟨h12, h3⟩ := band h123
          obtain ⟨h1, h2⟩ := band h12
          cases of_decide_eq_true h1
          have py := chk_plainA c f y h5
          exact s_lix m (okE e m o h4) (okE f m y h5) (monE ex e) (monE ex f) (plainO_ok h2) (plainA_few py) h3 (plainA_star py)
        | [], _, h => simp [chkE] at h
        | [_], _ :: _, h => simp [chkE] at h
        | _ :: _ :: _, _, h => simp [chkE] at h
      | _ => simp [chkE] at h
    | _ => simp [chkE] at h
  | .popi e f, X, c, J, ex, m, a, h => by
    cases a with
    | Call fe as kws p =>
      cases fe with
      | Attribute o n p1 =>
        match as, kws, h with
        | [y], [], h =>
          simp only [chkE] at h
          obtain ⟨h1234, h5⟩ := band h
          obtain ⟨h123, h4⟩ := band h1234
          obtain ⟨h12, h3⟩ := band h123
          obtain ⟨h1, h2⟩ := band h12
          cases of_decide_eq_true h1
          have py := chk_plainA c f y h5
          exact s_popi m (okE e m o h4) (okE f m y h5) (monE ex e) (monE ex f) (plainO_ok h2) (plainA_few py) h3 (plainA_star py)
        | [], _, h => simp [chkE] at h
        | [_], _ :: _, h => simp [chkE] at h
        | _ :: _ :: _, _, h => simp [chkE] at h
      | _ => simp [chkE] at h
    | _ => simp [chkE] at h
  | .tr1 e, X, c, J, ex, m, a, h => by
    simp only [chkE] at h
    split at h
    · obtain ⟨h', h7⟩ := band h
      obtain ⟨h', h6⟩ := band h'
      obtain ⟨h', h5⟩ := band h'
      obtain ⟨h', h4⟩ := band h'
      obtain ⟨h', h3⟩ := band h'
      obtain ⟨h1, h2⟩ := band h'
      cases of_decide_eq_true h1
      cases of_decide_eq_true h2
      exact s_tr1 m (show X.env.scope.names.lookup ("tuple" : Str) = _ by rw [m.sc]; exact (glbC_ok h3).1) (m.free _ (List.contains_iff_mem.mp h5)) (show X.env.scope.names.lookup ("range" : Str) = _ by rw [m.sc]; exact (glbC_ok h4).1) (m.free _ (List.contains_iff_mem.mp h6)) (okE e m _ h7) (monE ex e) (plainA_star (chk_plainA c e _ h7))
    · cases h
  | .mk0 C n key es, X, c, J, ex, m, a, h => by
    simp only [chkE] at h
    split at h
    · obtain ⟨h, h4⟩ := band h
      obtain ⟨h, h3⟩ := band h
      obtain ⟨h1, h2⟩ := band h
      cases of_decide_eq_true h1
      obtain ⟨g1, g2⟩ := glbC_ok h2
      obtain ⟨q, hq, z⟩ := List.any_eq_true.mp h3
      obtain ⟨q1, q2, q3⟩ := q
      obtain ⟨z, z3⟩ := band z
      obtain ⟨z1, z2⟩ := band z
      cases of_decide_eq_true z1
      cases of_decide_eq_true z2
      have pl := chk_plainAs c es _ h4
      simp only [List.all_cons] at pl
      obtain ⟨p1, p2⟩ := band pl
      exact s_mk0 m (G.mono1 _) (m.mk0s _ _ _ hq) (show X.env.scope.names.lookup _ = _ by rw [m.sc]; exact g1) g2 (of_decide_eq_true z3) (okEs es m _ h4) (monEs ex es) (plainA_star p1) (plainAs_any p2)
    · cases h
  | .lr1 f e, X, c, J, ex, m, a, h => by
    simp only [chkE] at h
    split at h
    · obtain ⟨h', h7⟩ := band h
      obtain ⟨h', h6⟩ := band h'
      obtain ⟨h', h5⟩ := band h'
      obtain ⟨h', h4⟩ := band h'
      obtain ⟨h', h3⟩ := band h'
      obtain ⟨h1, h2⟩ := band h'
      cases of_decide_eq_true h1
      cases of_decide_eq_true h2
      exact s_lr1 m f (show X.env.scope.names.lookup ("list" : Str) = _ by rw [m.sc]; exact (glbC_ok h3).1) (m.free _ (List.contains_iff_mem.mp h5)) (show X.env.scope.names.lookup ("range" : Str) = _ by rw [m.sc]; exact (glbC_ok h4).1) (m.free _ (List.contains_iff_mem.mp h6)) (okE e m _ h7) (monE ex e) (plainA_star (chk_plainA c e _ h7))
    · cases h
  | .lr2 f e e', X, c, J, ex, m, a, h => by
    simp only [chkE] at h
    split at h
    · obtain ⟨h', h8⟩ := band h
      obtain ⟨h', h7⟩ := band h'
      obtain ⟨h', h6⟩ := band h'
      obtain ⟨h', h5⟩ := band h'
      obtain ⟨h', h4⟩ := band h'
      obtain ⟨h', h3⟩ := band h'
      obtain ⟨h1, h2⟩ := band h'
      cases of_decide_eq_true h1
      cases of_decide_eq_true h2
      have p8 := plainA_star (env := X.env) (as := []) (chk_plainA c e' _ h8)
      exact s_lr2 m f (show X.env.scope.names.lookup ("list" : Str) = _ by rw [m.sc]; exact (glbC_ok h3).1) (m.free _ (List.contains_iff_mem.mp h5)) (show X.env.scope.names.lookup ("range" : Str) = _ by rw [m.sc]; exact (glbC_ok h4).1) (m.free _ (List.contains_iff_mem.mp h6)) (okE e m _ h7) (okE e' m _ h8) (monE ex e) (monE ex e') (plainA_star (chk_plainA c e _ h7)) p8 (by rw [p8]; rfl)
    · cases h
  | .isi e t, X, c, J, ex, m, a, h => by
    simp only [chkE] at h
    split at h
    · obtain ⟨h', h7⟩ := band h
      obtain ⟨h', h6⟩ := band h'
      obtain ⟨h', h5⟩ := band h'
      obtain ⟨h', h4⟩ := band h'
      obtain ⟨h', h3⟩ := band h'
      obtain ⟨h1, h2⟩ := band h'
      cases of_decide_eq_true h1
      cases of_decide_eq_true h2
      exact s_isi m t (show X.env.scope.names.lookup ("isinstance" : Str) = _ by rw [m.sc]; exact (glbC_ok h3).1) (m.free _ (List.contains_iff_mem.mp h5)) (show X.env.scope.names.lookup (t.name : Str) = _ by rw [m.sc]; exact (glbC_ok h4).1) (m.free _ (List.contains_iff_mem.mp h6)) (okE e m _ h7) (monE ex e) (plainA_star (chk_plainA c e _ h7))
    · cases h
  | .fld C f e, X, c, J, ex, m, a, h => by
    simp only [chkE] at h
    split at h
    · obtain ⟨h, h4⟩ := band h
      obtain ⟨h, h3⟩ := band h
      obtain ⟨h1, h2⟩ := band h
      cases of_decide_eq_true h1
      obtain ⟨cl, na⟩ := m.flds C f (List.contains_iff_mem.mp h3)
      exact s_fld m (okE e m _ h4) (monE ex e) cl na (plainO_ok h2)
    · cases h
  | .prp C f key e, X, c, J, ex, m, a, h => by
    simp only [chkE] at h
    split at h
    · obtain ⟨h, h4⟩ := band h
      obtain ⟨h, h3⟩ := band h
      obtain ⟨h1, h2⟩ := band h
      cases of_decide_eq_true h1
      exact s_prp m (G.mono1 key) (okE e m _ h4) (monE ex e) (m.prps C f key (List.contains_iff_mem.mp h3)) (plainO_ok h2)
    · cases h
  | .mk C n key es, X, c, J, ex, m, a, h => by
    simp only [chkE] at h
    split at h
    · obtain ⟨h, h4⟩ := band h
      obtain ⟨h, h3⟩ := band h
      obtain ⟨h1, h2⟩ := band h
      cases of_decide_eq_true h1
      obtain ⟨g1, g2⟩ := glbC_ok h2
      have pl := chk_plainAs c es _ h4
      simp only [List.all_cons] at pl
      obtain ⟨p1, p2⟩ := band pl
      exact s_mk m (G.mono1 key) (m.mks C n key (List.contains_iff_mem.mp h3)) (show X.env.scope.names.lookup C = _ by rw [m.sc]; exact g1) g2 (okEs es m _ h4) (monEs ex es) (plainA_star p1) (plainAs_any p2)
    · cases h
  | .mt C mn key e es, X, c, J, ex, m, a, h => by
    simp only [chkE] at h
    split at h
    · rename_i o g p1 as p2
      obtain ⟨h, h7⟩ := band h
      obtain ⟨h, h6⟩ := band h
      obtain ⟨h, h5⟩ := band h
      obtain ⟨h, h4⟩ := band h
      obtain ⟨h, h3⟩ := band h
      obtain ⟨h1, h2⟩ := band h
      cases of_decide_eq_true h1
      obtain ⟨q, hq, z⟩ := List.any_eq_true.mp h4
      obtain ⟨z, z4⟩ := band z
      obtain ⟨z, z3⟩ := band z
      obtain ⟨z1, z2⟩ := band z
      obtain ⟨q1, q2, q3, q4⟩ := q
      cases of_decide_eq_true z1
      cases of_decide_eq_true z2
      cases of_decide_eq_true z3
      have z4 := of_decide_eq_true z4
      have O := m.mts _ _ _ _ hq
      have pl := chk_plainAs c es _ h7
      have ln := chk_len c es _ h7
      cases as with
      | nil =>
        cases es with
        | nil => exact s_mt0 m (okE e m _ h6) (monE ex e) O (by simpa [Es.len] using z4) (plainO_ok h2) h3
        | cons => simp [chkEs] at h7
      | cons y ys =>
        have form := plainAs_form (env := X.env) (pos := p2) (n := (y :: ys).length + 0) (by have := of_decide_eq_true h5; omega) pl
        simp only [List.all_cons] at pl
        obtain ⟨pl1, pl2⟩ := band pl
        exact s_mt m (okE e m _ h6) (monE ex e) (okEs es m _ h7) (monEs ex es) O (by rw [z4, ← ln]; rfl) (fun hw => by have := chk_lenS c es _ h7 ex hw; simpa using this) (plainA_star pl1) (plainAs_any pl2) (plainO_ok h2) form h3
    · cases h
  | .lens es, X, c, J, ex, m, a, h => by
    simp only [chkE] at h
    split at h
    · obtain ⟨h, h6⟩ := band h
      obtain ⟨h, h5⟩ := band h
      obtain ⟨h, h4⟩ := band h
      obtain ⟨h, h3⟩ := band h
      obtain ⟨h1, h2⟩ := band h
      cases of_decide_eq_true h1
      obtain ⟨g1, g2⟩ := glbC_ok h2
      exact s_lens m (of_decide_eq_true h4) (show X.env.scope.names.lookup ("len" : Str) = _ by rw [m.sc]; exact g1) (m.free _ (List.contains_iff_mem.mp h3)) (okEa es m _ h6) (monEs ex es) (plainA_kds (chk_plainAs c es _ h6)) (of_decide_eq_true h5) (fun hw => chk_lenS c es _ h6 ex hw)
    · cases h
  | .compN f own t it cond cs elt, X, c, J, ex, m, a, h => by
    cases a with
    | ListComp x gs scope p =>
      refine ⟨fun pins s σ H Q I hw => ?_⟩
      match gs, h with
      | ⟨tg, iter, ifs, as⟩ :: gs, h =>
        obtain ⟨ci, eg, hi, ok, hv, B, hs, cr, crs, hkind⟩ := okCompN own t it cond cs elt f m x tg iter ifs as gs scope p (fun m a h => okE elt m a h) (fun m a h => (okB cond m a h).1) (fun m tg a h h2 => okW it m tg a h h2) (fun m gs pre h => okCs cs m gs pre h) h
        rw [eg]
        exact (pe_fzm (pe_lcN m.calm (m.N ▸ m.nd) hi ok hv B hs) f).run pins s σ H Q I (s_compN f (monE _ elt) cr crs hw)
      | [], h => simp [chkE] at h
    | _ => simp [chkE] at h
theorem okCs {G : Ctx} {gl : Str → PV} {k : Nat} : ∀ (cs : Cs) {X : Cx} {c : Cfg} (m : Match X c G gl k J0 (fun _ => noX)) (gs pre : List Comprehension), chkCs c cs gs = true → GoodCl X (pre ++ gs) pre.length (toCl X.K G gl cs gs)
  | .nil, X, c, m, gs, pre, h => by
    cases gs with
    | nil => show (pre ++ [])[pre.length]? = none; simp
    | cons => simp [chkCs] at h
  | .cons vs t it cond cs, X, c, m, gs, pre, h => by
    cases gs with
    | nil => simp [chkCs] at h
    | cons g gs =>
      obtain ⟨tg, iter, ifs, as⟩ := g
      have h0 := h
      simp only [chkCs] at h
      obtain ⟨h, h7⟩ := band h
      obtain ⟨h, h6⟩ := band h
      obtain ⟨h, h5⟩ := band h
      obtain ⟨h, h4⟩ := band h
      obtain ⟨h, h3⟩ := band h
      obtain ⟨h1, h2⟩ := band h
      obtain rfl : as = 0 := of_decide_eq_true h1
      have w := okW it m tg iter (band h2).1 (band h2).2
      obtain ⟨_, _, r3⟩ := toCl_ok (K := X.K) (G := G) (gl := gl) cs gs h7
      refine ⟨by simp, w.1, ⟨okT m t tg h4, okIfs (c := c) cond ifs _ h5 fun y hy => (okB cond m y hy).1⟩, w.2, ?_, ?_⟩
      · rw [r3]
        exact fun i hi => List.contains_iff_mem.mp (List.all_eq_true.mp h6 i hi)
      · have z := okCs cs m gs (pre ++ [⟨tg, iter, ifs, 0⟩]) h7
        rw [List.append_assoc, List.length_append] at z
        exact z
theorem okEa {G : Ctx} {gl : Str → PV} {k : Nat} : ∀ (es : Es) {X : Cx} {c : Cfg} {J : Jw} {ex : Env → XV} (m : Match X c G gl k J ex) (as : List Expr), chkEs c es as = true → PEa X as (tA X.K J (wpEs G gl ex es))
  | .nil, X, c, J, ex, m, as, h => by
    cases as with
    | nil => exact ea_nil
    | cons => simp [chkEs] at h
  | .cons e es, X, c, J, ex, m, as, h => by
    cases as with
    | nil => simp [chkEs] at h
    | cons a as =>
      simp only [chkEs] at h
      obtain ⟨h1, h2⟩ := band h
      exact ea_cons m.jj (okE e m a h1) (okEa es m as h2) (monE ex e) (monEs ex es)
theorem okKs {G : Ctx} {gl : Str → PV} {k : Nat} : ∀ (es : Es) {X : Cx} {c : Cfg} {J : Jw} {ex : Env → XV} (m : Match X c G gl k J ex) (kws : List Keyword), chkEs c es (kwEs kws) = true → L2.PK X kws (tA X.K J (wpEs G gl ex es))
  | .nil, X, c, J, ex, m, kws, h => by
    cases kws with
    | nil => exact k_nil
    | cons kw kws => obtain ⟨_, _, _⟩ := kw; simp [kwEs, chkEs] at h
  | .cons e es, X, c, J, ex, m, kws, h => by
    cases kws with
    | nil => simp [kwEs, chkEs] at h
    | cons kw kws =>
      obtain ⟨nm, a, kp⟩ := kw
      simp only [kwEs, chkEs] at h
      obtain ⟨h1, h2⟩ := band h
      exact k_cons m.jj (okE e m a h1) (okKs es m kws h2) (monE ex e) (monEs ex es)
theorem okPs {G : Ctx} {gl : Str → PV} {k : Nat} : ∀ (ps : Ps) {X : Cx} {c : Cfg} {J : Jw} {ex : Env → XV} {pos : Pos} (m : Match X c G gl k J ex) (ks : List (Option Expr)) (vs : List Expr), chkPs c ps ks vs = true → PPt X J pos ks vs (wpPs G gl ex ps)
  | .nil, X, c, J, ex, pos, m, ks, vs, h => by
    simp only [chkPs] at h
    obtain ⟨h1, h2⟩ := band h
    cases List.isEmpty_iff.mp h1
    cases List.isEmpty_iff.mp h2
    exact .nil
  | .cons e f ps, X, c, J, ex, pos, m, ks, vs, h => by
    match ks, vs, h with
    | some a :: ks, b :: vs, h =>
      simp only [chkPs] at h
      obtain ⟨h12, h3⟩ := band h
      obtain ⟨h1, h2⟩ := band h12
      exact .cons (okE e m a h1) (okE f m b h2) (monE ex e) (monE ex f) (monPs ex ps) (okPs ps m ks vs h3)
    | some a :: ks, [], h => simp [chkPs] at h
    | none :: ks, _, h => simp [chkPs] at h
    | [], _, h => simp [chkPs] at h
theorem okEs {G : Ctx} {gl : Str → PV} {k : Nat} : ∀ (es : Es) {X : Cx} {c : Cfg} {J : Jw} {ex : Env → XV} (m : Match X c G gl k J ex) (as : List Expr), chkEs c es as = true → PA X as (tA X.K J (wpEs G gl ex es))
  | .nil, X, c, J, ex, m, as, h => by
    cases as with
    | nil => exact a_nil
    | cons => simp [chkEs] at h
  | .cons e es, X, c, J, ex, m, as, h => by
    cases as with
    | nil => simp [chkEs] at h
    | cons a as =>
      simp only [chkEs] at h
      obtain ⟨h1, h2⟩ := band h
      exact a_cons m.jj (okE e m a h1) (okEs es m as h2) (monE ex e) (monEs ex es) (plainA_star (chk_plainA c e a h1))
theorem okB {G : Ctx} {gl : Str → PV} {k : Nat} : ∀ (b : B) {X : Cx} {c : Cfg} {J : Jw} {ex : Env → XV} (m : Match X c G gl k J ex) (a : Expr), chkB c b a = true → PT X a (tT X.K J (wpB G gl ex b)) ∧ ∀ op vs p, a = .BoolOp op vs p → PW X a (tT X.K J (wpB G gl ex b))
  | .val e, X, c, J, ex, m, a, h => by
    simp only [chkB] at h
    obtain ⟨h1, h2⟩ := band h
    cases hp : plainT a with
    | true =>
      refine ⟨s_val m.jj (okE e m a h1) (monE ex e) (plainT_ok hp), fun op vs p ea => ?_⟩
      subst ea
      cases hp
    | false =>
      rw [hp, Bool.false_or] at h2
      cases e with
      | cmp op e f =>
        cases a with
        | Compare x os ys p =>
          refine ⟨?_, fun op vs p ea => nomatch ea⟩
          match os, ys, h1 with
          | [o], [y], h =>
            simp only [chkE] at h
            obtain ⟨h12, h3⟩ := band h
            obtain ⟨h1, h2⟩ := band h12
            cases of_decide_eq_true h1
            exact s_cmpT m op (okE e m x h2) (okE f m y h3) (monE ex e) (monE ex f) (plainA_mark (chk_plainA c f y h3)) (cmp_bool op)
          | [], _, h => simp [chkE] at h
          | [_], [], h => simp [chkE] at h
          | [_], _ :: _ :: _, h => simp [chkE] at h
          | _ :: _ :: _, _, h => simp [chkE] at h
        | _ => simp [chkE] at h1
      | chain op op' e f g =>
        cases a with
        | Compare x os ys p =>
          refine ⟨?_, fun op vs p ea => nomatch ea⟩
          match os, ys, h1 with
          | [o, o'], [y, z], h =>
            simp only [chkE] at h
            obtain ⟨h1234, h5⟩ := band h
            obtain ⟨h123, h4⟩ := band h1234
            obtain ⟨h12, h3⟩ := band h123
            obtain ⟨h1, h2⟩ := band h12
            cases of_decide_eq_true h1
            cases of_decide_eq_true h2
            exact s_chainT m op op' (okE e m x h3) (okE f m y h4) (okE g m z h5) (monE ex e) (monE ex f) (monE ex g) (plainA_mark (chk_plainA c g z h5))
          | [], _, h => simp [chkE] at h
          | [_], _, h => simp [chkE] at h
          | [_, _], [], h => simp [chkE] at h
          | [_, _], [_], h => simp [chkE] at h
          | [_, _], _ :: _ :: _ :: _, h => simp [chkE] at h
          | _ :: _ :: _ :: _, _, h => simp [chkE] at h
        | _ => simp [chkE] at h1
      | _ => cases h2
  | .and e f, X, c, J, ex, m, a, h => by
    cases a with
    | BoolOp op vs p =>
      have key : PW X (.BoolOp op vs p) (tT X.K J (wpB G gl ex (.and e f))) := by
        cases op with
        | Or => simp [chkB] at h
        | And =>
          match vs, h with
          | x :: y :: [], h =>
            simp only [chkB] at h
            obtain ⟨h1, h2⟩ := band h
            exact s_andT m.jj (okB e m x h1).1 (pw_and1 (okB f m y h2).1) (monB ex e) (monB ex f)
          | x :: y :: z :: r, h =>
            simp only [chkB] at h
            obtain ⟨h1, h2⟩ := band h
            exact s_andT m.jj (okB e m x h1).1 ((okB f m _ h2).2 _ _ _ rfl) (monB ex e) (monB ex f)
          | [], h => simp [chkB] at h
          | [_], h => simp [chkB] at h
      exact ⟨key.pt, fun _ _ _ _ => key⟩
    | _ => simp [chkB] at h
  | .or e f, X, c, J, ex, m, a, h => by
    cases a with
    | BoolOp op vs p =>
      have key : PW X (.BoolOp op vs p) (tT X.K J (wpB G gl ex (.or e f))) := by
        cases op with
        | And => simp [chkB] at h
        | Or =>
          match vs, h with
          | x :: y :: [], h =>
            simp only [chkB] at h
            obtain ⟨h1, h2⟩ := band h
            exact s_orT m.jj (okB e m x h1).1 (pw_or1 (okB f m y h2).1) (monB ex e) (monB ex f)
          | x :: y :: z :: r, h =>
            simp only [chkB] at h
            obtain ⟨h1, h2⟩ := band h
            exact s_orT m.jj (okB e m x h1).1 ((okB f m _ h2).2 _ _ _ rfl) (monB ex e) (monB ex f)
          | [], h => simp [chkB] at h
          | [_], h => simp [chkB] at h
      exact ⟨key.pt, fun _ _ _ _ => key⟩
    | _ => simp [chkB] at h
  | .not e, X, c, J, ex, m, a, h => by
    cases a with
    | UnaryOp op x p =>
      cases op with
      | Not =>
        simp only [chkB] at h
        exact ⟨s_notT m.jj (okB e m x h).1 (monB ex e), fun _ _ _ ea => nomatch ea⟩
      | _ => simp [chkB] at h
    | _ => simp [chkB] at h
  | .tt, X, c, J, ex, m, a, h => by simp [chkB] at h
theorem okO {G : Ctx} {gl : Str → PV} {k : Nat} : ∀ (o : O) {X : Cx} {c : Cfg} {J : Jw} {ex : Env → XV} (m : Match X c G gl k J ex) (a : Option Expr), chkO c o a = true → PO X a (tO X.K J (wpO G gl ex o))
  | .omit, X, c, J, ex, m, a, h => by
    cases a with
    | none => exact s_omit
    | some => simp [chkO] at h
  | .part e, X, c, J, ex, m, a, h => by
    cases a with
    | none => simp [chkO] at h
    | some x => simp only [chkO] at h; exact s_part m.jj (okE e m x h) (monE ex e)
theorem okW {G : Ctx} {gl : Str → PV} {k : Nat} : ∀ (w : W) {X : Cx} {c : Cfg} {J : Jw} {ex : Env → XV} (m : Match X c G gl k J ex) (tg a : Expr), chkW c w a = true → tupW w tg = true → PI X tg a (tI X.K J (wpW G gl ex w)) ∧ ∀ x, foldedSetIterable a X.env x = pure x
  | .seq e, X, c, J, ex, m, tg, a, h, _ => by
    simp only [chkW] at h
    exact ⟨s_seq m.jj (okE e m a h) (monE ex e), plainA_set (chk_plainA c e a h)⟩
  | .rng1 e, X, c, J, ex, m, tg, a, h, _ => by
    cases a with
    | Call fe as kws p =>
      cases fe with
      | Name x px =>
        match as, kws, h with
        | [y], [], h =>
          simp only [chkW] at h
          obtain ⟨h123, h4⟩ := band h
          obtain ⟨h12, h3⟩ := band h123
          obtain ⟨h1, h2⟩ := band h12
          cases of_decide_eq_true h1
          obtain ⟨g1, g2⟩ := glbC_ok h2
          have p4 := chk_plainA c e y h4
          refine ⟨s_rng1 m.jj (show X.env.scope.names.lookup ("range" : Str) = _ by rw [m.sc]; exact g1) (m.free _ (List.contains_iff_mem.mp h3)) (a_cons m.jj (okE e m y h4) a_nil (monE ex e) mono_nil (plainA_star p4)) (mono_cons (monE ex e) mono_nil) (plainA_star p4), fun _ => rfl⟩
        | [], _, h => simp [chkW] at h
        | [_], _ :: _, h => simp [chkW] at h
        | _ :: _ :: _, _, h => simp [chkW] at h
      | _ => simp [chkW] at h
    | _ => simp [chkW] at h
  | .rng2 e f, X, c, J, ex, m, tg, a, h, _ => by
    cases a with
    | Call fe as kws p =>
      cases fe with
      | Name x px =>
        match as, kws, h with
        | [y, z], [], h =>
          simp only [chkW] at h
          obtain ⟨h1234, h5⟩ := band h
          obtain ⟨h123, h4⟩ := band h1234
          obtain ⟨h12, h3⟩ := band h123
          obtain ⟨h1, h2⟩ := band h12
          cases of_decide_eq_true h1
          obtain ⟨g1, g2⟩ := glbC_ok h2
          have p4 := chk_plainA c e y h4
          have p5 := chk_plainA c f z h5
          refine ⟨s_rng2 m.jj (show X.env.scope.names.lookup ("range" : Str) = _ by rw [m.sc]; exact g1) (m.free _ (List.contains_iff_mem.mp h3)) (a_cons m.jj (okE e m y h4) (a_cons m.jj (okE f m z h5) a_nil (monE ex f) mono_nil (plainA_star p5)) (monE ex e) (mono_cons (monE ex f) mono_nil) (plainA_star p4))
            (mono_cons (monE ex e) (mono_cons (monE ex f) mono_nil)) (by rw [plainA_star p4, plainA_star p5]; rfl) (plainA_star p5), fun _ => rfl⟩
        | [], _, h => simp [chkW] at h
        | [_], _, h => simp [chkW] at h
        | [_, _], _ :: _, h => simp [chkW] at h
        | _ :: _ :: _ :: _, _, h => simp [chkW] at h
      | _ => simp [chkW] at h
    | _ => simp [chkW] at h
  | .rng3 e f g, X, c, J, ex, m, tg, a, h, _ => by
    cases a with
    | Call fe as kws p =>
      cases fe with
      | Name x px =>
        match as, kws, h with
        | [y, z, u], [], h =>
          simp only [chkW] at h
          obtain ⟨h12345, h6⟩ := band h
          obtain ⟨h1234, h5⟩ := band h12345
          obtain ⟨h123, h4⟩ := band h1234
          obtain ⟨h12, h3⟩ := band h123
          obtain ⟨h1, h2⟩ := band h12
          cases of_decide_eq_true h1
          obtain ⟨g1, g2⟩ := glbC_ok h2
          have p4 := chk_plainA c e y h4
          have p5 := chk_plainA c f z h5
          have p6 := chk_plainA c g u h6
          refine ⟨s_rng3 m.jj (show X.env.scope.names.lookup ("range" : Str) = _ by rw [m.sc]; exact g1) (m.free _ (List.contains_iff_mem.mp h3)) (a_cons m.jj (okE e m y h4) (a_cons m.jj (okE f m z h5) (a_cons m.jj (okE g m u h6) a_nil (monE ex g) mono_nil (plainA_star p6)) (monE ex f) (mono_cons (monE ex g) mono_nil) (plainA_star p5)) (monE ex e) (mono_cons (monE ex f) (mono_cons (monE ex g) mono_nil)) (plainA_star p4))
            (mono_cons (monE ex e) (mono_cons (monE ex f) (mono_cons (monE ex g) mono_nil))) (plainA_star p4) (plainAs_any (by simp [p5, p6])), fun _ => rfl⟩
        | [], _, h => simp [chkW] at h
        | [_], _, h => simp [chkW] at h
        | [_, _], _, h => simp [chkW] at h
        | [_, _, _], _ :: _, h => simp [chkW] at h
        | _ :: _ :: _ :: _ :: _, _, h => simp [chkW] at h
      | _ => simp [chkW] at h
    | _ => simp [chkW] at h
  | .enum e, X, c, J, ex, m, tg, a, h, ht => by
    simp only [chkW] at h
    split at h
    · rename_i x px y p
      obtain ⟨h123, h4⟩ := band h
      obtain ⟨h12, h3⟩ := band h123
      obtain ⟨h1, h2⟩ := band h12
      cases of_decide_eq_true h1
      obtain ⟨g1, g2⟩ := glbC_ok h2
      have p4 := plainA_star (env := X.env) (as := []) (chk_plainA c e y h4)
      refine ⟨?_, fun _ => rfl⟩
      cases tg with
      | Tuple elts kk tp => exact s_enum m.jj (show X.env.scope.names.lookup ("enumerate" : Str) = _ by rw [m.sc]; exact g1) (m.free _ (List.contains_iff_mem.mp h3)) (okE e m y h4) (monE ex e) (p4.trans rfl)
      | _ => cases (show false = true from ht)
    · cases h
  | .zip e f, X, c, J, ex, m, tg, a, h, ht => by
    simp only [chkW] at h
    split at h
    · rename_i x px y z p
      obtain ⟨h1234, h5⟩ := band h
      obtain ⟨h123, h4⟩ := band h1234
      obtain ⟨h12, h3⟩ := band h123
      obtain ⟨h1, h2⟩ := band h12
      cases of_decide_eq_true h1
      obtain ⟨g1, g2⟩ := glbC_ok h2
      have p5 := plainA_star (env := X.env) (as := []) (chk_plainA c f z h5)
      have p4 := plainA_star (env := X.env) (as := [z]) (chk_plainA c e y h4)
      refine ⟨?_, fun _ => rfl⟩
      cases tg with
      | Tuple elts kk tp => exact s_zip m.jj (show X.env.scope.names.lookup ("zip" : Str) = _ by rw [m.sc]; exact g1) (m.free _ (List.contains_iff_mem.mp h3)) (okE e m y h4) (okE f m z h5) (monE ex e) (monE ex f) p4 p5 (by rw [p5]; rfl)
      | _ => cases (show false = true from ht)
    · cases h
end
end Ev
set_option Elab.async false
set_option linter.all false
set_option maxRecDepth 100000
set_option maxHeartbeats 4000000
/-! Ev12: statements so spelt; a def so spelt keeps its promise. -/
namespace Ev
open PySem PySem.Spec PyProof.Rows L2
/-! ### a list of a comprehension, to a local on its line -/
def frzEnds (D : Ends) : Ends := { D with nx := fun σ' H' => ∃ a xs, H' a = some (.lst xs) ∧ ∀ o, D.nx σ' (upd H' a (.frz o (.lst xs))) }
section
variable {X : Cx} {c : Cfg} {G : Ctx} {gl : Str → PV} {k : Nat} {J : Jw} {ex : Env → XV}
theorem ps_frz {st : Stmt} {t : TS} (h : PS X st t) : PS X st (fun D σ H => t (frzEnds D) σ H) := by
  refine ⟨fun pins s σ H D I hw => thn (h.run pins s σ H _ I hw) fun fl s1 z => ?_⟩
  cases fl with
  | next =>
    obtain ⟨σ', H', I', a, xs, ha, q⟩ := z
    obtain ⟨od, J'⟩ := I'.lock ha trivial
    exact ⟨σ', _, J', q od⟩
  | brk => exact z
  | cont => exact z
  | ret u => exact z
theorem tI_mono {wi : WI} (mi : MonI wi) {σ : L2.St} {H : Hp} {Q Q' : L2.It → Hp → Prop} (k : ∀ x H, Q x H → Q' x H) (hw : tI X.K J wi σ H Q) : tI X.K J wi σ H Q' := by
  obtain ⟨A, ρ, h, j, rs, r, hw⟩ := hw
  exact ⟨A, ρ, h, j, rs, r, mi _ _ _ _ (fun it h1 z It1 H1 m1 r1 io => k _ _ (z It1 H1 m1 r1 io)) hw⟩
theorem tLc_mono {wi : WI} (mi : MonI wi) {g : TG} {tt : TT} {te : TE} {vs : List Nat} {σ : L2.St} {H : Hp} {Q Q' : VK} (k : ∀ x H, Q x H → Q' x H) (hw : tLc (tI X.K J wi) g tt te vs σ H Q) : tLc (tI X.K J wi) g tt te vs σ H Q' := by
  refine tI_mono mi (fun It H1 z D hD => ?_) hw
  obtain ⟨W, w0, step⟩ := z D hD
  refine ⟨W, w0, fun i m H' w => ?_⟩
  rcases step i m H' w with ⟨st, q⟩ | z
  · exact .inl ⟨st, k _ _ q⟩
  · exact .inr z
theorem s_setLc {i : Nat} {y : Str} {py : Pos} {elt tg iter : Expr} {ifs : List Expr} {scope : Scope} {own : List (Str × Nat)} {pos spos : Pos} {wi : WI} {t : ST} {wt : WT} {we : WE} (m : Match X c G gl k J ex) (f : Bool) (hy : X.N[i]? = some y) (hyl : X.env.scope.names.lookup y = some .local)
    (hsw : swapsWith (.ListComp elt [⟨tg, iter, ifs, 0⟩] scope pos) (some (.Name y py)) spos.line X.env = pure true) (hi : PI X tg iter (tI X.K J wi)) (mi : MonI wi) (ok : BlkOk X.N X.env.scope scope own) (sub : ∀ i ∈ t.slots, i ∈ own.map (·.2))
    (hg : ∀ (s : Shared) (H : Hp) (C : Addr) (cl : List (Str × Addr)) (fp : List Addr), PG (X.blk s H scope (compEnvC scope cl C X.env) fp) tg (t.g X.K))
    (ht : ∀ (s : Shared) (H : Hp) (C : Addr) (cl : List (Str × Addr)) (fp : List Addr), PTs (X.blk s H scope (compEnvC scope cl C X.env) fp) ifs (tT X.K J0 wt))
    (he : ∀ (s : Shared) (H : Hp) (C : Addr) (cl : List (Str × Addr)) (fp : List Addr), PE (X.blk s H scope (compEnvC scope cl C X.env) fp) elt (tE X.K J0 we)) (mt : MonT wt) (me : MonE we)
    (hs : ∀ x, foldedSetIterable iter X.env x = pure x) : PS X (.Assign [.Name y py] (.ListComp elt [⟨tg, iter, ifs, 0⟩] scope pos) spos) (tS X.K J (wSet i (wComp f (own.map (·.2)) wi t wt we))) := by
  have base := ps_setLc (spos := spos) m.calm (m.N ▸ m.nd) hy hyl hsw hi ok hg ht he hs
  have mc : MonE (wComp f (own.map (·.2)) wi t wt we) := mono_comp mi
  refine ⟨fun pins s σ H D I hw => ?_⟩
  have key : tLc (tI X.K J wi) (t.g X.K) (tT X.K J0 wt) (tE X.K J0 we) (own.map (·.2)) σ H (fzm f fun x H1 => D.nx (σ.set i (some x)) H1) := by
    refine s_comp m f hi mi ok sub hg ht he mt me hs ?_
    obtain ⟨A, ρ, h, j, rs, r, hw⟩ := hw
    refine ⟨A, ρ, h, j, rs, r, mc _ _ _ _ (fun x h1 z v H1 m1 r1 rv => z _ _ m1 ((rs.mon m1).set i rv) r1) hw⟩
  cases f with
  | true => exact base.run pins s σ H D I key
  | false =>
    refine (ps_frz base).run pins s σ H D I (tLc_mono mi (fun x H1 ⟨a, xs, _, ha, q⟩ => ⟨a, xs, ha, q⟩) key)
theorem tLp_mono {body : L2.St → Hp → (Hp → Prop) → Prop} {c : ClI} {σ : L2.St} {It1 : It} {H : Hp} {P Q : Hp → Prop} (k : ∀ H, P H → Q H) (h : tLp body c σ It1 H P) : tLp body c σ It1 H Q := by
  obtain ⟨W, w0, step⟩ := h
  refine ⟨W, w0, fun i m H' w => ?_⟩
  rcases step i m H' w with ⟨st, q⟩ | z
  · exact .inl ⟨st, k _ q⟩
  · exact .inr z
theorem s_setLcN {i : Nat} {y : Str} {py : Pos} {elt : Expr} {scope : Scope} {own : List (Str × Nat)} {pos spos : Pos} {we : WE} {cw : ClW} {cws : List ClW} {ci : ClI} {cis : List ClI} (m : Match X c G gl k J ex) (f : Bool) (hy : X.N[i]? = some y) (hyl : X.env.scope.names.lookup y = some .local)
    (hsw : swapsWith (.ListComp elt (clG ci :: cis.map clG) scope pos) (some (.Name y py)) spos.line X.env = pure true) (hi : PI X ci.tg ci.iter ci.wi) (ok : BlkOk X.N X.env.scope scope own) (hv : ci.vs = own.map (·.2)) (B : BlkGood X elt (tE X.K J0 we) scope ci cis) (hs : ∀ x, foldedSetIterable ci.iter X.env x = pure x)
    (me : MonE we) (cr : ClRel X.K J cw ci) (crs : ClRels X.K J0 cws cis) (mc : MonE (wCompN f (cw :: cws) we)) : PS X (.Assign [.Name y py] (.ListComp elt (clG ci :: cis.map clG) scope pos) spos) (tS X.K J (wSet i (wCompN f (cw :: cws) we))) := by
  have base := ps_setLcN (spos := spos) m.calm (m.N ▸ m.nd) hy hyl hsw hi ok hv B hs
  refine ⟨fun pins s σ H D I hw => ?_⟩
  have key : tLcN (tE X.K J0 we) ci cis σ H (fzm f fun x H1 => D.nx (σ.set i (some x)) H1) := by
    refine s_compN f me cr crs ?_
    obtain ⟨A, ρ, h, j, rs, r, hw⟩ := hw
    refine ⟨A, ρ, h, j, rs, r, mc _ _ _ _ (fun x h1 z v H1 m1 r1 rv => z _ _ m1 ((rs.mon m1).set i rv) r1) hw⟩
  cases f with
  | true => exact base.run pins s σ H D I key
  | false =>
    refine (ps_frz base).run pins s σ H D I ?_
    have key : ci.wi σ H _ := key
    rw [cr.wi] at key
    show ci.wi σ H _
    rw [cr.wi]
    exact tI_mono cr.mi (fun It H1 z D0 hD => tLp_mono (fun H' ⟨a, xs, e, ha, q⟩ => ⟨D0, xs, by cases e; exact ha, by cases e; exact q⟩) (z D0 hD)) key
end

/-! ### stores in the other order -/
def swT (sc : Scope) (ts vs : List Expr) : Option (Option (List Str)) :=
  if (!(ts.length == 2 || ts.length == 3)) || vs.length != ts.length then some none
  else if !vs.all plainA then none
  else
    let l := (ts.head?.map (·.pos.line)).getD 0
    let ns := ts.filterMap fun t => match t with
      | .Name x p => if sc.names.lookup x == some .local && p.line == l then some x else none
      | _ => none
    if ns.length != ts.length || ns.eraseDups.length != ns.length then some none
    else if vs.all (foldedForSure 8) then some none
    else if vs.all (constantsAlone 8) then none
    else some (some ns)
theorem swT_ok {ts vs : List Expr} {k k2 : Nat} {p p2 : Pos} {env : PySem.Env} {r : Option (List Str)} (hk : env.scope.kind = .function) (h : swT env.scope ts vs = some r) : swappedStores [.Tuple ts k p] (.Tuple vs k2 p2) env = pure r := by
  have hb : env.blockKind = .function := by unfold Env.blockKind; rw [hk]; rfl
  have h3 : (ScopeKind.function != ScopeKind.function) = false := rfl
  unfold swT at h
  unfold swappedStores
  simp only [hb, h3, Bool.or_false]
  split at h
  · cases h
    rename_i e
    rw [if_pos e]
  · rename_i e
    rw [if_neg e]
    split at h
    · cases h
    · rename_i e2
      rw [if_neg]
      · simp only [] at h
        split at h
        · rename_i e3
          cases h
          exact if_pos (c := _) e3
        · rename_i e3
          refine (if_neg (c := _) e3).trans ?_
          split at h
          · rename_i e4
            cases h
            exact if_pos (c := _) e4
          · rename_i e4
            refine (if_neg (c := _) e4).trans ?_
            split at h
            · cases h
            · rename_i e5
              cases h
              exact (if_neg (c := _) e5).trans rfl
      · intro z
        obtain ⟨v, hv, hz⟩ := List.any_eq_true.mp z
        have e2 : vs.all plainA = true := by simpa using e2
        have := List.all_eq_true.mp e2 v hv
        cases v with
        | Starred => exact absurd (show false = true from this) (by decide)
        | _ => exact absurd (show false = true from hz) (by decide)
end Ev

set_option Elab.async false
set_option linter.all false
set_option maxRecDepth 100000
set_option maxHeartbeats 4000000
/-! Ev13: statements so spelt; a def so spelt keeps its promise. -/
namespace Ev
open PySem PySem.Spec PyProof.Rows L2
theorem ns_exp {a : Expr} {l : Nat} {env : PySem.Env} (h : noComp a = true) (t : Option Expr) : swapsWith a t l env = pure false := noComp_ok h
theorem ns_tup {es : List Expr} {k l : Nat} {p : Pos} {env : PySem.Env} (a : Expr) : swapsWithSole [.Tuple es k p] a l env = pure false := by
  show swapsWith a (some (.Tuple es k p)) l env = pure false
  cases a <;> rfl
theorem ns_sub {o i : Expr} {l : Nat} {p : Pos} {env : PySem.Env} (a : Expr) : swapsWithSole [.Subscript o i p] a l env = pure false := by
  show swapsWith a (some (.Subscript o i p)) l env = pure false
  cases a <;> rfl
theorem nsw_sub {o i : Expr} {l : Nat} {p : Pos} {env : PySem.Env} (a : Expr) : swapsWith a (some (.Subscript o i p)) l env = pure false := by
  cases a <;> rfl
theorem nsw_att {o : Expr} {f : Str} {l : Nat} {p : Pos} {env : PySem.Env} (a : Expr) : swapsWith a (some (.Attribute o f p)) l env = pure false := by
  cases a <;> rfl
theorem sn_sub {o i : Expr} {p : Pos} {env : PySem.Env} (a : Expr) : swappedStores [.Subscript o i p] a env = pure none := by
  cases a <;> rfl
theorem noLoc_ok {a : Expr} {x : Str} {px : Pos} {l : Nat} {env : PySem.Env} (h : env.scope.names.lookup x ≠ some .local) : swapsWith a (some (.Name x px)) l env = pure false := by
  have kx : (env.kindOf x == some .local) = false := by
    have e : env.kindOf x = env.scope.names.lookup x := rfl
    rw [e]
    simpa using h
  unfold swapsWith
  simp only [kx, Bool.and_false, Bool.false_and]
  split
  · rfl
  · rfl
def isTup : Expr → Bool
  | .Tuple .. => true
  | _ => false
theorem sn_tup {es : List Expr} {k : Nat} {p : Pos} {env : PySem.Env} {a : Expr} (h : isTup a = false) : swappedStores [.Tuple es k p] a env = pure none := by
  cases a <;> first | rfl | cases h
theorem asg_sub {o i : Expr} {p : Pos} {env : PySem.Env} (h : noSl i = true) (v : Value) : assign (.Subscript o i p) env v = (do
      let ov ← holding [v] (eval o env)
      let iv ← holding [v, ov] (eval i env)
      standAt p
      holding [v, ov, iv] (setItem ov iv v)
      release [v, ov, iv] []) := by
  cases i <;> first | rfl | cases h
/-- the stores of this pair of tuples are not turned round -/
def unT (c : Cfg) (ts : List Expr) (a : Expr) : Bool := match a with
  | .Tuple vs _ _ => (match swT c.sc ts vs with
    | some none => true
    | _ => false)
  | _ => true
theorem unT_ok {c : Cfg} {ts : List Expr} {k : Nat} {p : Pos} {a : Expr} {env : PySem.Env} (e : env.scope = c.sc) (hk : env.scope.kind = .function) (h : unT c ts a = true) : swappedStores [.Tuple ts k p] a env = pure none := by
  cases a with
  | Tuple vs k2 p2 =>
    simp only [unT] at h
    split at h
    · rename_i q
      exact swT_ok hk (by rw [e]; exact q)
    · cases h
  | _ => rfl
def chkTg (c : Cfg) : Tg → Expr → Bool
  | .st t, e => chkT c t e
  | .sub o i, e => match e with
    | .Subscript a b _ => noSl b && chkE c o a && chkE c i b
    | _ => false
  | .fld C f o, e => match e with
    | .Attribute a g _ => decide (g = f) && c.flds.contains (C, f) && chkE c o a
    | _ => false
def chkTgs (c : Cfg) : List Tg → List Expr → Bool
  | [], es => es.isEmpty
  | t :: ts, es => match es with
    | e :: es => chkTg c t e && chkTgs c ts es
    | [] => false
mutual
def chkS (c : Cfg) : S → Stmt → Bool
  | .expr e, st => match st with
    | .Expr a _ => noComp a && chkE c e a
    | _ => false
  | .set i e, st => match st with
    | .Assign [.Name x px] a p => decide (c.N[i]? = some x) && locC c x && ((noComp a && chkE c e a) || (match e, a with
      | .comp m own t it cond elt, .ListComp y [⟨tg, iter, ifs, as⟩] scope p2 => decide (c.sc.names.lookup x = some .local) && (px.line == p2.line) && !(scope.names.any fun (n, k) => n == x && (k == .local || k == .cell)) && chkE c (.comp m own t it cond elt) (.ListComp y [⟨tg, iter, ifs, as⟩] scope p2)
      | .compN m own t it cond cs elt, .ListComp y (⟨tg, iter, ifs, as⟩ :: gs) scope p2 => decide (c.sc.names.lookup x = some .local) && (px.line == p2.line) && !(scope.names.any fun (n, k) => n == x && (k == .local || k == .cell)) && chkE c (.compN m own t it cond cs elt) (.ListComp y (⟨tg, iter, ifs, as⟩ :: gs) scope p2)
      | _, _ => false) || (!decide (c.sc.names.lookup x = some .local) && chkE c e a))
    | _ => false
  | .unp t e, st => match st with
    | .Assign [.Tuple ts k pt] a _ => chkT c t (.Tuple ts k pt) && chkE c e a && unT c ts a
    | _ => false
  | .par i j e f, st => match st with
    | .Assign [.Tuple [.Name x px, .Name y py] kt pt] (.Tuple [a, b] k2 pt2) _ => decide (c.N[i]? = some x) && decide (c.N[j]? = some y) && !decide (i = j) && decide (c.sc.names.lookup x = some .local) && decide (c.sc.names.lookup y = some .local) && chkE c e a && chkE c f b &&
        decide (swT c.sc [.Name x px, .Name y py] [a, b] = some (some [x, y]))
    | _ => false
  | .sub o i v, st => match st with
    | .Assign [.Subscript a b _] d _ => noSl b && chkE c o a && chkE c i b && chkE c v d
    | _ => false
  | .ret e, st => match st with
    | .Return (some a) _ => chkE c e a
    | _ => false
  | .ifs t x y, st => match st with
    | .If a b o _ => chkB c t a && chkSs c x b && chkSs c y o
    | _ => false
  | .for_ t it x, st => match st with
    | .For tg iter b [] _ => chkT c t tg && (chkW c it iter && tupW it tg) && chkSs c x b
    | _ => false
  | .while_ t x, st => match st with
    | .While a b [] _ => chkB c t a && chkSs c x b
    | _ => false
  | .brk, st => match st with
    | .Break _ => true
    | _ => false
  | .cont, st => match st with
    | .Continue _ => true
    | _ => false
  | .pass, st => match st with
    | .Pass _ => true
    | _ => false
  | .par3 i j l e f g, st => match st with
    | .Assign [.Tuple [.Name x px, .Name y py, .Name z pz] kt pt] (.Tuple [a, b, d] k2 pt2) _ => decide (c.N[i]? = some x) && decide (c.N[j]? = some y) && decide (c.N[l]? = some z) && !decide (i = j) && !decide (i = l) && !decide (j = l) &&
        decide (c.sc.names.lookup x = some .local) && decide (c.sc.names.lookup y = some .local) && decide (c.sc.names.lookup z = some .local) && chkE c e a && chkE c f b && chkE c g d &&
        decide (swT c.sc [.Name x px, .Name y py, .Name z pz] [a, b, d] = some (some [x, y, z]))
    | _ => false
  | .subp o i t v, st => match st with
    | .Assign [.Tuple [.Subscript a b p2, tg] kt pt] d _ => noSl b && chkE c o a && chkE c i b && chkT c t tg && chkE c v d && unT c [.Subscript a b p2, tg] d
    | _ => false
  | .dput o i v, st => match st with
    | .Assign [.Subscript a b _] d _ => chkE c o a && chkE c i b && chkE c v d
    | _ => false
  | .fst C f o v, st => match st with
    | .Assign [.Attribute a g _] b _ => decide (g = f) && c.flds.contains (C, f) && chkE c o a && chkE c v b
    | _ => false
  | .nev, _ => true
  | .asg ts v, st => match st with
    | .Assign [.Tuple es k pt] d _ => chkTgs c ts es && chkE c v d && unT c es d
    | _ => false
def chkSs (c : Cfg) : Ss → List Stmt → Bool
  | .nil, sts => sts.isEmpty
  | .cons s ss, sts => match sts with
    | st :: sts => chkS c s st && chkSs c ss sts
    | [] => false
end
section
variable {X : Cx} {c : Cfg} {G : Ctx} {gl : Str → PV} {k : Nat} {J : Jw} {ex : Env → XV}
theorem okSet (m : Match X c G gl k J ex) (i : Nat) (e : E) (st : Stmt) (h : chkS c (.set i e) st = true) : PS X st (tS X.K J (wpS G gl ex (.set i e))) := by
  simp only [chkS] at h
  split at h
  · rename_i x px a p
    obtain ⟨h12, h3⟩ := band h
    obtain ⟨h1, h2⟩ := band h12
    have hi : X.N[i]? = some x := m.N ▸ of_decide_eq_true h1
    obtain ⟨l1, l2⟩ := locC_ok h2
    rcases Bool.or_eq_true_iff.mp h3 with q | q
    rcases Bool.or_eq_true_iff.mp q with q | q
    · obtain ⟨q1, q2⟩ := band q
      exact s_set m hi (m.sc ▸ l1) (okE e m a q2) (monE ex e) (noComp_ok q1) (by rw [m.fnb, m.sc]; exact l2)
    · split at q
      · rename_i f own t it cond elt y tg iter ifs as scope p2 _
        obtain ⟨q123, q4⟩ := band q
        obtain ⟨q12, q3⟩ := band q123
        obtain ⟨q1, q2⟩ := band q12
        obtain ⟨e0, hi', ok, sub, hg, ht, he, hs, hkind⟩ := okComp f own t it cond elt m y tg iter ifs as scope p2 (fun m a h => okE elt m a h) (fun m a h => (okB cond m a h).1) (fun m tg a h h2 => okW it m tg a h h2) q4
        subst e0
        have hyl : X.env.scope.names.lookup x = some .local := m.sc ▸ of_decide_eq_true q1
        exact s_setLc m f hi hyl (sw_true m.kind hyl q2 (by simpa using q3)) hi' (monW ex it) ok sub hg ht he (monB _ cond) (monE _ elt) hs
      · rename_i f own t it cond cs elt y tg iter ifs as gs scope p2 _
        obtain ⟨q123, q4⟩ := band q
        obtain ⟨q12, q3⟩ := band q123
        obtain ⟨q1, q2⟩ := band q12
        obtain ⟨ci, eg, hi', ok, hv, B, hs, cr, crs, hkind⟩ := okCompN own t it cond cs elt f m y tg iter ifs as gs scope p2 (fun m a h => okE elt m a h) (fun m a h => (okB cond m a h).1) (fun m tg a h h2 => okW it m tg a h h2) (fun m gs pre h => okCs cs m gs pre h) q4
        have hyl : X.env.scope.names.lookup x = some .local := m.sc ▸ of_decide_eq_true q1
        rw [eg]
        exact s_setLcN m f hi hyl (sw_true m.kind hyl q2 (by simpa using q3)) hi' ok hv B hs (monE _ elt) cr crs (monE ex (.compN f own t it cond cs elt))
      · cases q
    · obtain ⟨q1, q2⟩ := band q
      exact s_set m hi (m.sc ▸ l1) (okE e m a q2) (monE ex e) (noLoc_ok (by rw [m.sc]; simpa using q1)) (by rw [m.fnb, m.sc]; exact l2)
  · cases h
theorem chkTg_plain {c : Cfg} {t : Tg} {e : Expr} (h : chkTg c t e = true) {es : List Expr} {env : PySem.Env} : assignEach (e :: es) env = (false, assign e env) :: assignEach es env := by
  cases e <;> first | rfl | (cases t with
    | st t => cases t <;> simp [chkTg, chkT] at h
    | sub o i => simp [chkTg] at h
    | fld C f o => simp [chkTg] at h)
theorem okTg (m : Match X c G gl k J ex) : ∀ (t : Tg) (e : Expr), chkTg c t e = true → PG X e (gTg X.K J (wpTg G gl ex t))
  | .st t, e, h => g_st m.jj (okT m t e h)
  | .sub o i, e, h => by
    simp only [chkTg] at h
    split at h
    · obtain ⟨h12, h3⟩ := band h
      obtain ⟨h1, h2⟩ := band h12
      exact g_sub m.jj (okE o m _ h2) (okE i m _ h3) (monE ex o) (monE ex i) (asg_sub h1)
    · cases h
  | .fld C f o, e, h => by
    simp only [chkTg] at h
    split at h
    · obtain ⟨h12, h3⟩ := band h
      obtain ⟨h1, h2⟩ := band h12
      cases of_decide_eq_true h1
      obtain ⟨cl, na⟩ := m.flds C f (List.contains_iff_mem.mp h2)
      exact g_fld m.jj (okE o m _ h3) (monE ex o) cl na
    · cases h
theorem okTgs (m : Match X c G gl k J ex) : ∀ (ts : List Tg) (es : List Expr), chkTgs c ts es = true → GTs X J es (ts.map (wpTg G gl ex))
  | [], es, h => by
    cases es with
    | nil => exact .nil
    | cons => simp [chkTgs] at h
  | t :: ts, es, h => by
    cases es with
    | nil => simp [chkTgs] at h
    | cons e es =>
      simp only [chkTgs] at h
      obtain ⟨h1, h2⟩ := band h
      exact .cons (okTg m t e h1) (monTg ex t) (chkTg_plain h1) (okTgs m ts es h2)
mutual
theorem okS : ∀ (s : S) {X : Cx} {c : Cfg} {J : Jw} {ex : Env → XV} (m : Match X c G gl k J ex) (st : Stmt), chkS c s st = true → PS X st (tS X.K J (wpS G gl ex s))
  | .expr e, X, c, J, ex, m, st, h => by
    simp only [chkS] at h
    split at h
    · obtain ⟨h1, h2⟩ := band h
      exact s_expr m.jj (okE e m _ h2) (monE ex e) (noComp_ok h1)
    · cases h
  | .set i e, X, c, J, ex, m, st, h => okSet m i e st h
  | .unp t e, X, c, J, ex, m, st, h => by
    simp only [chkS] at h
    split at h
    · rename_i ts kt pt a p
      obtain ⟨h12, h3⟩ := band h
      obtain ⟨h1, h2⟩ := band h12
      exact s_unp m.jj (okE e m _ h2) (monE ex e) (okT m t _ h1) (ns_tup a) (unT_ok m.sc m.kind h3) rfl
    · cases h
  | .par i j e f, X, c, J, ex, m, st, h => by
    simp only [chkS] at h
    split at h
    · rename_i x px y py kt pt a b k2 pt2 p
      obtain ⟨h', h8⟩ := band h
      obtain ⟨h', h7⟩ := band h'
      obtain ⟨h', h6⟩ := band h'
      obtain ⟨h', h5⟩ := band h'
      obtain ⟨h', h4⟩ := band h'
      obtain ⟨h', h3⟩ := band h'
      obtain ⟨h1, h2⟩ := band h'
      have pb := plainA_star (env := X.env) (as := []) (chk_plainA c f b h7)
      have pa := plainA_star (env := X.env) (as := [b]) (chk_plainA c e a h6)
      exact s_par m (m.N ▸ of_decide_eq_true h1) (m.N ▸ of_decide_eq_true h2) (by simpa using h3) (m.sc ▸ of_decide_eq_true h4) (m.sc ▸ of_decide_eq_true h5)
        (a_cons m.jj (okE e m a h6) (a_cons m.jj (okE f m b h7) a_nil (monE ex f) mono_nil pb) (monE ex e) (mono_cons (monE ex f) mono_nil) pa) (mono_cons (monE ex e) (mono_cons (monE ex f) mono_nil))
        (swT_ok m.kind (by rw [m.sc]; exact of_decide_eq_true h8)) (ns_tup _)
    · cases h
  | .sub o i v, X, c, J, ex, m, st, h => by
    simp only [chkS] at h
    split at h
    · obtain ⟨h123, h4⟩ := band h
      obtain ⟨h12, h3⟩ := band h123
      obtain ⟨h1, h2⟩ := band h12
      exact s_sub m.jj (okE o m _ h2) (okE i m _ h3) (okE v m _ h4) (monE ex o) (monE ex i) (monE ex v) (ns_sub _) (sn_sub _) rfl (asg_sub h1)
    · cases h
  | .ret e, X, c, J, ex, m, st, h => by
    simp only [chkS] at h
    split at h
    · exact s_ret m.jj (okE e m _ h) (monE ex e)
    · cases h
  | .ifs t x y, X, c, J, ex, m, st, h => by
    simp only [chkS] at h
    split at h
    · obtain ⟨h12, h3⟩ := band h
      obtain ⟨h1, h2⟩ := band h12
      exact s_if m.jj (okB t m _ h1).1 (okSs x m _ h2) (okSs y m _ h3) (monB ex t) (monSs ex x) (monSs ex y)
    · cases h
  | .for_ t it x, X, c, J, ex, m, st, h => by
    simp only [chkS] at h
    split at h
    · obtain ⟨h12, h3⟩ := band h
      obtain ⟨h1, h2⟩ := band h12
      obtain ⟨h2a, h2b⟩ := band h2
      have w := okW it m
      exact s_for m (w _ _ h2a h2b).1 (monW ex it) (okT m t _ h1) (okSs x m _ h3) (monSs ex x) (w _ _ h2a h2b).2
    · cases h
  | .while_ t x, X, c, J, ex, m, st, h => by
    simp only [chkS] at h
    split at h
    · obtain ⟨h1, h2⟩ := band h
      exact s_while m (okB t m _ h1).1 (okSs x m _ h2) (monB ex t) (monSs ex x)
    · cases h
  | .brk, X, c, J, ex, m, st, h => by
    simp only [chkS] at h
    split at h
    · exact s_break
    · cases h
  | .cont, X, c, J, ex, m, st, h => by
    simp only [chkS] at h
    split at h
    · exact s_continue
    · cases h
  | .pass, X, c, J, ex, m, st, h => by
    simp only [chkS] at h
    split at h
    · exact s_pass
    · cases h
  | .par3 i j l e f g, X, c, J, ex, m, st, h => by
    simp only [chkS] at h
    split at h
    · rename_i x px y py z pz kt pt a b d k2 pt2 p
      obtain ⟨h', h13⟩ := band h
      obtain ⟨h', h12⟩ := band h'
      obtain ⟨h', h11⟩ := band h'
      obtain ⟨h', h10⟩ := band h'
      obtain ⟨h', h9⟩ := band h'
      obtain ⟨h', h8⟩ := band h'
      obtain ⟨h', h7⟩ := band h'
      obtain ⟨h', h6⟩ := band h'
      obtain ⟨h', h5⟩ := band h'
      obtain ⟨h', h4⟩ := band h'
      obtain ⟨h', h3⟩ := band h'
      obtain ⟨h1, h2⟩ := band h'
      have pd := plainA_star (env := X.env) (as := []) (chk_plainA c g d h12)
      have pb := plainA_star (env := X.env) (as := [d]) (chk_plainA c f b h11)
      have pa := plainA_star (env := X.env) (as := [b, d]) (chk_plainA c e a h10)
      exact s_par3 m (m.N ▸ of_decide_eq_true h1) (m.N ▸ of_decide_eq_true h2) (m.N ▸ of_decide_eq_true h3) (by simpa using h4) (by simpa using h5) (by simpa using h6) (m.sc ▸ of_decide_eq_true h7) (m.sc ▸ of_decide_eq_true h8) (m.sc ▸ of_decide_eq_true h9)
        (a_cons m.jj (okE e m a h10) (a_cons m.jj (okE f m b h11) (a_cons m.jj (okE g m d h12) a_nil (monE ex g) mono_nil pd) (monE ex f) (mono_cons (monE ex g) mono_nil) pb) (monE ex e) (mono_cons (monE ex f) (mono_cons (monE ex g) mono_nil)) pa) (mono_cons (monE ex e) (mono_cons (monE ex f) (mono_cons (monE ex g) mono_nil)))
        (swT_ok m.kind (by rw [m.sc]; exact of_decide_eq_true h13)) (ns_tup _)
    · cases h
  | .subp o i t v, X, c, J, ex, m, st, h => by
    simp only [chkS] at h
    split at h
    · rename_i a b p2 tg kt pt d p
      obtain ⟨h', h6⟩ := band h
      obtain ⟨h', h5⟩ := band h'
      obtain ⟨h', h4⟩ := band h'
      obtain ⟨h', h3⟩ := band h'
      obtain ⟨h1, h2⟩ := band h'
      have ht : assignEach [tg] X.env = [(false, assign tg X.env)] := by
        cases tg <;> first | rfl | (cases t <;> simp [chkT] at h4)
      exact s_subp m (okE o m _ h2) (okE i m _ h3) (okE v m _ h5) (monE ex o) (monE ex i) (monE ex v) (okT m t _ h4) (ns_tup _) (unT_ok m.sc m.kind h6) ht (asg_sub h1)
    · cases h
  | .dput o i v, X, c, J, ex, m, st, h => by
    simp only [chkS] at h
    split at h
    · obtain ⟨h12, h3⟩ := band h
      obtain ⟨h1, h2⟩ := band h12
      exact s_dput m (okE o m _ h1) (okE i m _ h2) (okE v m _ h3) (monE ex o) (monE ex i) (monE ex v) (nsw_sub _)
    · cases h
  | .fst C f o v, X, c, J, ex, m, st, h => by
    simp only [chkS] at h
    split at h
    · obtain ⟨h, h4⟩ := band h
      obtain ⟨h, h3⟩ := band h
      obtain ⟨h1, h2⟩ := band h
      cases of_decide_eq_true h1
      obtain ⟨cl, na⟩ := m.flds C f (List.contains_iff_mem.mp h2)
      exact s_fst m (okE o m _ h3) (okE v m _ h4) (monE ex o) (monE ex v) cl na (nsw_att _)
    · cases h
  | .asg ts v, X, c, J, ex, m, st, h => by
    simp only [chkS] at h
    split at h
    · obtain ⟨h12, h3⟩ := band h
      obtain ⟨h1, h2⟩ := band h12
      exact s_asg m (okTgs m ts _ h1) (okE v m _ h2) (monE ex v) (ns_tup _) (unT_ok m.sc m.kind h3)
    · cases h
  | .nev, X, c, J, ex, m, st, h => ⟨fun pins s σ H D I ⟨_, _, _, _, _, _, z⟩ => z.elim⟩
theorem okSs : ∀ (ss : Ss) {X : Cx} {c : Cfg} {J : Jw} {ex : Env → XV} (m : Match X c G gl k J ex) (sts : List Stmt), chkSs c ss sts = true → PSs X sts (tS X.K J (wpSs G gl ex ss))
  | .nil, X, c, J, ex, m, sts, h => by
    cases sts with
    | nil => exact b_nil
    | cons => simp [chkSs] at h
  | .cons s ss, X, c, J, ex, m, sts, h => by
    cases sts with
    | nil => simp [chkSs] at h
    | cons st sts =>
      simp only [chkSs] at h
      obtain ⟨h1, h2⟩ := band h
      exact b_cons' m.jj (okS s m st h1) (okSs ss m sts h2) (monS ex s) (monSs ex ss)
end
end

/-! ### a def -/
/-- the names at its entry -/
def startE (N : List Str) (as : List PV) : Env := as.map some ++ List.replicate (N.length - as.length) none
def Jd (A0 : Addr → Prop) (H0 : Hp) : Jw := fun A H => (∀ d, A0 d → A d) ∧ Mon A0 H0 H
theorem jd {A0 : Addr → Prop} {H0 : Hp} : JOk (Jd A0 H0) := ⟨fun ⟨e, m⟩ m2 => ⟨e, m.trans (m2.sub e)⟩, fun ⟨e, m⟩ l => ⟨fun d hd => l d (e d hd), m⟩⟩
/-- what a body's end asks -/
def retE (Q : PK) : PEnds := ⟨fun _ h => Q .non h, Q, fun _ _ => False, fun _ _ => False⟩
section
variable {P : Program} {w : World} {K : Frag} {mg : Str → Option Value} {base : Heap}
theorem rep_start {H : Hp} {N : List Str} {as : List PV} {vs : List V} (l : RepL K H as vs) : RepSt K H (startE N as) (start N vs) := by
  refine ⟨by unfold startE L2.start; simp [l.length], fun i x e => ?_⟩
  unfold startE at e
  unfold L2.start
  by_cases hi : i < as.length
  · rw [List.getElem?_append_left (by simpa using hi), List.getElem?_map] at e
    cases q : as[i]? with
    | none => rw [q] at e; cases e
    | some y =>
      rw [q] at e
      cases e
      obtain ⟨v, e2, rv⟩ := l.get q
      refine ⟨v, ?_, rv⟩
      rw [List.getElem?_append_left (by simpa [← l.length] using hi), List.getElem?_map, e2]
      rfl
  · rw [List.getElem?_append_right (by simpa using Nat.le_of_not_lt hi)] at e
    have := List.mem_of_getElem? e
    cases List.eq_of_mem_replicate this
/-- what the end knows of a text's surroundings, at a level -/
structure Facts (P : Program) (w : World) (K : Frag) (mg : Str → Option Value) (base : Heap) (k : Nat) (G : Ctx) (gl : Str → PV) (c : Cfg) : Prop where
  fns : ∀ f ps, (f, ps) ∈ c.fns → ∃ a fd, mg f = some (.ref a) ∧ FnG P w K mg base k a fd ps (G.fn f) ∧ PySem.W.keepIn K (.ref a) = true ∧ Binds K fd ps []
  free : ∀ x, x ∈ c.free → mg x = none
  cst : ∀ x, x ∈ c.cst → ∃ u w, mg x = some u ∧ RelV w u ∧ ∀ H, RepV K H (gl x) w
  kws : ∀ f ks perm, (f, ks, perm) ∈ c.kws → ∃ a fd ps, mg f = some (.ref a) ∧ FnG P w K mg base k a fd ps (G.fn f) ∧ PySem.W.keepIn K (.ref a) = true ∧ KB K fd ps ks perm
  flds : ∀ C f, (C, f) ∈ c.flds → Cls K (He.ga K C) ∧ NoAttr K (He.ga K C) f
  prps : ∀ C f key, (C, f, key) ∈ c.prps → PrpOk P w K mg base k C f (G.fn1 key)
  mks : ∀ C n key, (C, n, key) ∈ c.mks → MkOk P w K mg base k C n (G.fn1 key)
  mts : ∀ C n key ps, (C, n, key, ps) ∈ c.mts → MtOk P w K mg base k C n ps (G.fn key)
  mk0s : ∀ C key ps, (C, key, ps) ∈ c.mk0s → Mk0Ok P w K mg base k C ps (G.fn1 key)
theorem match_of {qual : Str} {scope : Scope} {f : Addr} {cdv : Value} {A : Around} {outer : List PySem.Env} {st : Shared} {H : Hp} {E : XK} {A0 : Addr → Prop} {N ps : List Str} {k : Nat} {G : Ctx} {gl : Str → PV} {c : Cfg} (S : FnScope N ps scope) (hN : c.N = N) (hs : c.sc = scope) (hb : c.fnb = fun _ => true) (F : Facts P w K mg base k G gl c)
    (code : PySem.W.codeIn K cdv qual = true) (hg : A.guards = some []) (hr : Room k (A.deeper (envOfC qual scope st.heap.objs.size f cdv))) : Match (cxOf (L2.CX P w) P w K mg base N qual scope f cdv A outer st H E) c G gl k (Jd A0 H) (fun _ => upX K A0 H E) := by
  refine ⟨hN.symm, hN ▸ S.nd, hs.symm, hb.symm, rfl, passes_of rfl, hg, hr, (takes_of rfl rfl rfl rfl).imp ?_, jd, F.fns, F.free, F.cst, S.kind, F.kws, F.flds, F.prps, F.mks, F.mts, kds_code code, F.mk0s⟩
  rintro cl d σ H' ⟨A, ρ, h', fs, ⟨hs, mo⟩, rs, r', xf, z⟩
  exact z d H' mo (r'.sub hs) xf
theorem fng_chk {x qual : Str} {params : Arguments} {body : List Stmt} {scope : Scope} {f : Addr} {fd : FuncData} {N ps : List Str} {k : Nat} {sp : Spec} {G : Ctx} {gl : Str → PV} {c : Cfg} {ss : Ss}
    (F : FunD K x qual params body scope [] [] f fd) (S : FnScope N ps scope) (hN : c.N = N) (hs : c.sc = scope) (hfb : c.fnb = fun _ => true) (hc : chkSs c ss body = true) (hF : Facts P w K mg base k G gl c)
    (hsp : ∀ as h Q R, as.length = ps.length → sp as h Q R → wpSs G gl (fun _ => R) ss (startE N as) h (retE Q)) : FnG P w K mg base (k + 1) f fd ps sp := by
  refine fng_of F S fun cdv A outer st H vs Q E code hg hr hl ⟨A0, as, h, r, rl, q⟩ => ?_
  have m := match_of (A0 := A0) (outer := outer) (st := st) (H := H) (E := E) (f := f) (qual := qual) S hN hs hfb hF code hg hr
  refine ⟨_, okSs ss m body hc, A0, _, h, ⟨fun _ z => z, .refl⟩, rep_start rl, r, ?_⟩
  have hw := hsp as h _ _ (by rw [rl.length]; exact hl) q
  exact MonS.go (monSs _ ss) hw ⟨fun _ h' z σ' H' mo rs' r' => z .non H' mo r' .non, fun _ _ z => z, fun _ _ z => z.elim, fun _ _ z => z.elim⟩
/-- __init__(self, a, .., *words) -/
theorem fns_chk {x qual pv : Str} {params : Arguments} {body : List Stmt} {scope : Scope} {f : Addr} {fd : FuncData} {N ps : List Str} {k n : Nat} {sp : Spec} {G : Ctx} {gl : Str → PV} {c : Cfg} {ss : Ss}
    (F : FunD K x qual params body scope [] [] f fd) (hn : ps.length = n + 1) (S : FnScope N (ps ++ [pv]) scope) (hN : c.N = N) (hs : c.sc = scope) (hfb : c.fnb = fun _ => true) (hc : chkSs c ss body = true) (hF : Facts P w K mg base k G gl c)
    (hb : ∀ (kV doc pm : Value) (an : Option Addr) (cdv ct : Value) (us rest : List Value), us.length = ps.length → bindArgs (PySem.W.fnOf x qual params body scope .none kV doc pm an cdv ct) ⟨us ++ rest, []⟩ = (newTuple rest >>= fun t => pure (ps.zip us ++ [(pv, t)])))
    (hmo : ∀ as h (P Q : PK) (R T : XV), (∀ x h, P x h → Q x h) → (∀ c fs h, R c fs h → T c fs h) → sp as h P R → sp as h Q T)
    (hsp : ∀ as h Q R, as.length = ps.length + 1 → sp as h Q R → wpSs G gl (fun _ => R) ss (startE N as) h (retE Q)) : FnS P w K mg base (k + 1) f n sp := by
  obtain ⟨oc, od, dV, kV, doc, pm, an, cdv, ct, osl, rfl, lk, code, hD, _⟩ := F.ex
  rcases hD with ⟨_, rfl⟩ | ⟨e, _⟩
  rotate_left
  · exact absurd rfl e
  refine ⟨fun A outer st H us vs Q hg hr e0 rv h1 h2 ⟨A0, as, h, r, rl, q⟩ => ?_⟩
  have ev : vs = vs.take (n + 1) ++ vs.drop (n + 1) := (List.take_append_drop _ _).symm
  rw [ev] at rv
  obtain ⟨u1, u2, eu, r1, r2⟩ := StX.vals_split rv
  subst eu
  have hn0 : H st.heap.objs.size = Option.none := e0.hok.fresh (Nat.le_refl _)
  have hl1 : u1.length = ps.length := by rw [← r1.length, List.length_take, hn]; omega
  have hz : (vs.drop (n + 1)).length ≤ sizeLine := by rw [List.length_drop]; omega
  have hl2 : u2.length ≤ sizeLine := by rw [← r2.length]; exact hz
  refine StX.run_bnd (A := A) (ps := ps ++ [pv]) lk code S hr e0 (G := fun xs H2 => ∃ p, H p = Option.none ∧ xs = vs.take (n + 1) ++ [V.ref p] ∧ H2 = upd H p (.tup (vs.drop (n + 1)))) (fun A' Ex Q' h => ?_) fun s2 H2 xs ⟨p, hp, ex, eH⟩ hr' => ?_
  · rw [hb kV doc pm an cdv ct u1 u2 hl1]
    refine wpAny_bind (wpAny_newTuple (wpAny_pure ?_) hl2)
    have new : ObjOk P w (upd H st.heap.objs.size (.tup (vs.drop (n + 1)))) (st.heap.push ({ cls := .type "tuple", data := .seq u2.toArray } : Obj)) st.heap.objs.size (.tup (vs.drop (n + 1))) := ⟨hz, u2, r2, ⟨_, Heap.get?_push_size _ rfl, rfl, _, rfl⟩⟩
    have un := StX.un_laid (fs := frs outer) (s := st) (o := ({ cls := .type "tuple", data := .seq u2.toArray } : Obj)) (u := .tup (vs.drop (n + 1))) hn0
    have z := h _ _ (vs.take (n + 1) ++ [V.ref st.heap.objs.size]) (u1 ++ [Value.ref st.heap.objs.size]) (StX.env0_laid e0 new) un rfl (fun e s' => StX.cxUp outer st H _ _ _ e s' un (fun b o q => Heap.get?_push_of_some _ q) rfl) (r1.append (.cons rfl .nil))
      (by rw [List.length_append, List.length_append, List.length_take, hn]; simp; omega) ⟨_, hn0, rfl, rfl⟩
    rw [List.zip_append hl1.symm] at z
    exact z
  · subst ex eH
    have m := match_of (A0 := A0) (outer := outer) (st := s2) (H := upd H p (.tup (vs.drop (n + 1)))) (E := fun _ _ _ => False) (f := f) (qual := qual) S hN hs hfb hF code hg hr'
    have mo := r.mon_new (o := .tup (vs.drop (n + 1))) hp
    have rep : RepL K (upd H p (.tup (vs.drop (n + 1)))) (as.take (n + 1) ++ [.tup (as.drop (n + 1))]) (vs.take (n + 1) ++ [V.ref p]) :=
      ((rl.take (n + 1)).mon mo).append (.cons (.tup (.inl (.of upd_same)) ((rl.drop (n + 1)).mon mo)) .nil)
    refine ⟨_, okSs ss m body hc, A0, _, h, ⟨fun _ z => z, .refl⟩, rep_start rep, r.laid hp, ?_⟩
    have hw := hsp _ h _ (upX K A0 (upd H p (.tup (vs.drop (n + 1)))) fun _ _ _ => False) (by rw [List.length_append, List.length_take, rl.length, hn]; simp; omega) (hmo _ _ _ _ _ _ (fun _ _ z => z) (fun _ _ _ z => z.elim) q)
    refine MonS.go (monSs _ ss) hw ⟨fun _ h' z σ' H' mo' rs' r' => z .non H' (mo.trans mo') r' .non, fun _ _ z => up.trans mo z, fun _ _ z => z.elim, fun _ _ z => z.elim⟩
end
end Ev

set_option Elab.async false
set_option linter.all false
set_option maxRecDepth 100000
set_option maxHeartbeats 4000000
/-! Ev14: the end of a law; all defs of a module by levels. -/
namespace Ev
open PySem PySem.Spec PyProof.Rows L2
/-- the script alone, locked (or one of the module's own objects) -/
def scrH (K : Frag) (a : Addr) (o : Obj) (xs : List V) : Hp := fun b => match K.lookup a with
  | some _ => none
  | none => if b = a then some (.frz o (.lst xs)) else none
theorem scrH_some {K : Frag} {a b : Addr} {o : Obj} {xs : List V} {u : HO} (e : scrH K a o xs b = some u) : K.lookup a = none ∧ b = a ∧ u = .frz o (.lst xs) := by
  unfold scrH at e
  split at e
  · cases e
  · split at e
    · exact ⟨by assumption, by assumption, (Option.some.inj e).symm⟩
    · cases e
/-- the law's call -/
theorem end_call {P : Program} {w : World} {K : Frag} {mg mb : Str → Option Value} {k : Nat} {fa a : Addr} {fd : FuncData} {x : Str} {sp : Spec} {s : Shared} {vs : List Value} {ns : List Int}
    (kin : K.In s.heap) (glob : s.heap.Ns mainGlobals mg) (blt : s.heap.Ns builtinsNs mb) (boot : ∀ y : Str, y ≠ "__name__" → mb y = bootBuiltins y) (free : s.heap.NoLimit) (gens : s.gens = #[])
    (at_ : s.heap.get? a = some { cls := .type "list", data := .seq vs.toArray }) (isI : IntsAre vs ns) (few : ns.length ≤ sizeLine) (room : Room k callerA)
    (F : ∀ base : Heap, K.In base → base.Ns mainGlobals mg → FnG P w K mg base k fa fd [x] sp) (bind : ∀ (s : Shared) (u : Value), BindsTo s fd ⟨[u], []⟩ [(x, u)])
    (hsp : ∀ Q R, (∀ h, Q (.bl true) h) → sp [.scr (ns.map .int)] (fun _ => none) Q R) :
    codeAny (model P w) callerA (.call (.ref fa) ⟨[.ref a], []⟩) (fun r s' => r = .ok (.ret (.bool true)) ∧ OldK s.heap s'.heap ∧ s'.os = s.os ∧ AllBare s'.gens) s := by
  have vi := vals_ints isI
  have script : ∃ H : Hp, H = scrH K a { cls := .type "list", data := .seq vs.toArray } (ns.map V.int) := ⟨_, rfl⟩
  obtain ⟨H, eH⟩ := script
  have only : ∀ {b u}, H b = some u → K.lookup a = none ∧ b = a ∧ u = .frz { cls := .type "list", data := .seq vs.toArray } (.lst (ns.map V.int)) := fun e => scrH_some (eH ▸ e)
  have away : ∀ {b o}, s.heap.get? b = some o → (∀ es ep, o.data = .dict es ep → H b = none) := by
    intro b o e es ep d
    cases q : H b with
    | none => rfl
    | some u =>
      have z := (only q).2.1
      rw [z, at_] at e
      cases e
      cases (show Data.seq vs.toArray _ = .dict es ep from d)
  have ns_ : ∀ {b : Addr} {m : Str → Option Value}, s.heap.Ns b m → (hidT s.heap H).Ns b m := by
    rintro b m ⟨o, es, ep, e, d, r⟩
    exact ⟨o, es, ep, hidT_get e (away e es ep d), d, r⟩
  have kin' : K.In (hidT s.heap H) := by
    intro b o e
    refine hidT_get (kin b o e) ?_
    cases q : H b with
    | none => rfl
    | some u =>
      obtain ⟨z1, z2, _⟩ := only q
      rw [z2, z1] at e
      cases e
  have hok : HOk P w H s.heap := by
    intro b u e
    obtain ⟨_, rfl, rfl⟩ := only e
    exact ⟨at_, by rw [List.length_map]; exact few, vs, _, vi, at_⟩
  obtain ⟨mc, fr1, fr2⟩ := free
  have e0 : Env0 P w K mg (hidT s.heap H) callerA [] s H :=
    ⟨rfl, ⟨kin', ns_ glob, ⟨mb, ns_ blt, boot⟩, mc, ns_ fr1, fr2⟩, fun b o e => of_hidT e, Nat.le_of_eq (hidT_size _ _), trivial, fun b hb => (nomatch (show b ∈ ([] : List Addr) from hb)), hok, .of_eq gens⟩
  have rel : Rel K (fun _ => False) H (fun _ => none) := ⟨fun _ _ e => (nomatch e), fun _ h => False.elim h⟩
  have scr : FzW K H a (ns.map V.int) := by
    cases q : K.lookup a with
    | none =>
      refine .inl ⟨{ cls := .type "list", data := .seq vs.toArray }, ?_⟩
      rw [eH]
      unfold scrH
      rw [q]
      exact if_pos rfl
    | some o =>
      have e := kin a o q
      rw [at_] at e
      cases e
      exact .inr ⟨_, _, _, q, rfl, rfl, rfl, by rw [List.size_toArray, isI.length]; exact few, by simpa using vi⟩
  have goal : liftSp K sp [.ref a] H (fun v _ => v = .bl true) fun _ _ _ => False :=
    ⟨fun _ => False, [.scr (ns.map .int)], fun _ => none, rel, .cons (.scr scr (.of_int ns)) .nil, hsp _ _ fun h v H' _ _ rv => by cases rv; rfl⟩
  refine codeAny_mono ((F _ kin' (ns_ glob)).run callerA [] s H ⟨[.ref a], []⟩ [.ref a] [.ref a] _ _ rfl room e0 (bind s (.ref a)) (.cons rfl .nil) rfl goal) fun r s' h => ?_
  cases r with
  | error e =>
    obtain ⟨_, _, _, _, _, _, _, _, _, _, _, _, z⟩ := h
    exact z.elim
  | ok fl =>
    cases fl with
    | ret u =>
      obtain ⟨v, H', os, bare, un, hok', rv, q⟩ := h
      cases (show v = .bl true from q)
      cases (show u = Value.bool true from rv)
      refine ⟨rfl, OldK.of_keep fun b o e => ?_, os, bare⟩
      cases q : H b with
      | none => exact un.keep b o e q (fun z => (nomatch (show b ∈ ([] : List Addr) from z))) (by simp)
      | some u =>
        obtain ⟨_, rfl, rfl⟩ := only q
        obtain ⟨e1, _⟩ := hok' _ _ (un.frzs _ _ _ q)
        rw [at_] at e
        cases e
        exact e1
    | next => exact h.elim
    | brk => exact h.elim
    | cont => exact h.elim

/-! ### where a def stands -/
inductive Loc where
  | glo (x : Str) | meth (C m : Str) | prop (C f : Str)
  deriving DecidableEq
/-- a property's getter -/
def gAd (K : Frag) (C f : Str) : Addr := match PySem.W.recIn K (He.ma K (He.ga K C) f) "property" with
  | some (.ref g :: _) => g
  | _ => 0
def Loc.ad (K : Frag) : Loc → Addr
  | .glo x => He.ga K x
  | .meth C m => He.ma K (He.ga K C) m
  | .prop C f => gAd K C f
def fnWA (K : Frag) (a : Addr) : He.FnW := match K.lookup a with
  | some ⟨_, _, .func fd, _⟩ => some (fd.name, fd.qualname, fd.params, fd.body, fd.scope, fd.globals, fd.closure, fd.builtins)
  | _ => none
def okA (K : Frag) (a : Addr) (q : Str) : Bool := PySem.W.keepIn K (.ref a) && (match K.lookup a with
  | some ⟨_, _, .func fd, _⟩ => PySem.W.codeIn K fd.code q && (He.dflB K fd.defaults [] && He.kwdB K fd.kwdefaults [])
  | _ => false)
theorem funA {K : Frag} {d : He.DefD} {a : Addr} (e : fnWA K a = d.val) (c : okA K a d.qual = true) : ∃ fd, FunD K d.name d.qual d.params d.body d.scope [] [] a fd := by
  obtain ⟨kp, c2⟩ := band c
  unfold fnWA at e
  cases q : K.lookup a with
  | none =>
    rw [q] at c2
    cases c2
  | some o =>
    obtain ⟨oc, od, dt, osl⟩ := o
    rw [q] at c2 e
    cases dt with
    | func fd =>
      obtain ⟨n1, n2, n3, n4, n5, n6, n7, n8, n9, n10, n11, n12, n13, n14, n15⟩ := fd
      have e2 : (some (n1, n2, n3, n4, n5, n6, n7, n15) : He.FnW) = some (d.name, d.qual, d.params, .stmts d.body, d.scope, mainGlobals, [], builtinsNs) := e
      simp only [Option.some.injEq, Prod.mk.injEq] at e2
      obtain ⟨h1, h2, h3, h4, h5, h6, h7, h8⟩ := e2
      subst h1 h2 h3 h4 h5 h6 h7 h8
      have c3 : (PySem.W.codeIn K n13 d.qual && (He.dflB K n8 [] && He.kwdB K n9 [])) = true := c2
      obtain ⟨k1, k2⟩ := band c3
      obtain ⟨k3, k4⟩ := band k2
      exact ⟨_, ⟨oc, od, n8, n9, n10, n11, n12, n13, n14, osl, rfl, q, k1, He.dflB_ok k3, He.kwdB_ok k4⟩, kp⟩
    | _ => cases c2
/-! ### constants of the module -/
mutual
def pvB (K : Frag) : PV → Value → Bool
  | .non, u => (match u with
    | .none => true
    | _ => false)
  | .bl b, u => (match u with
    | .bool c => b == c
    | _ => false)
  | .int i, u => (match u with
    | .int j _ => decide (i = j)
    | _ => false)
  | .str x, u => (match u with
    | .str y _ => decide (x = y)
    | _ => false)
  | .tup xs, u => (match u with
    | .ref a => (match K.lookup a with
      | some ⟨.type c, _, .seq its _, _⟩ => decide (c = "tuple") && (decide (its.size ≤ sizeLine) && pvsB K xs its.toList)
      | _ => false)
    | _ => false)
  | _, _ => false
def pvsB (K : Frag) : List PV → List Value → Bool
  | [], us => us.isEmpty
  | x :: xs, us => (match us with
    | u :: us => pvB K x u && pvsB K xs us
    | [] => false)
end
mutual
theorem pvB_ok {K : Frag} : ∀ {x : PV} {u : Value}, pvB K x u = true → ∃ w, RelV w u ∧ ∀ H, RepV K H x w
  | .non, u, h => by
    cases u with
    | none => exact ⟨.non, rfl, fun _ => .non⟩
    | _ => simp [pvB] at h
  | .bl b, u, h => by
    cases u with
    | bool c =>
      simp only [pvB] at h
      cases (eq_of_beq h)
      exact ⟨.bl b, rfl, fun _ => .bl _⟩
    | _ => simp [pvB] at h
  | .int i, u, h => by
    cases u with
    | int j t =>
      simp only [pvB] at h
      cases of_decide_eq_true h
      exact ⟨.int i, ⟨t, rfl⟩, fun _ => .int _⟩
    | _ => simp [pvB] at h
  | .str i, u, h => by
    cases u with
    | str j t =>
      simp only [pvB] at h
      cases of_decide_eq_true h
      exact ⟨.str i, ⟨t, rfl⟩, fun _ => .str _⟩
    | _ => simp [pvB] at h
  | .tup xs, u, h => by
    cases u with
    | ref a =>
      simp only [pvB] at h
      split at h
      · rename_i c od its n osl q
        obtain ⟨h1, h2⟩ := band h
        obtain ⟨h3, h4⟩ := band h2
        obtain ⟨ws, r1, r2⟩ := pvsB_ok h4
        exact ⟨.ref a, rfl, fun H => .tup (.inr ⟨_, its, n, q, congrArg Value.type (of_decide_eq_true h1), rfl, of_decide_eq_true h3, r1⟩) (r2 H)⟩
      · cases h
    | _ => simp [pvB] at h
  | .lst _, u, h => by simp [pvB] at h
  | .scr _, u, h => by simp [pvB] at h
  | .ref _, u, h => by simp [pvB] at h
  | .ty _, u, h => by simp [pvB] at h
  | .tpl _, u, h => by simp [pvB] at h
theorem pvsB_ok {K : Frag} : ∀ {xs : List PV} {us : List Value}, pvsB K xs us = true → ∃ ws, Vals ws us ∧ ∀ H, RepL K H xs ws
  | [], us, h => by
    cases us with
    | nil => exact ⟨[], .nil, fun _ => .nil⟩
    | cons => simp [pvsB] at h
  | x :: xs, us, h => by
    cases us with
    | nil => simp [pvsB] at h
    | cons u us =>
      simp only [pvsB] at h
      obtain ⟨h1, h2⟩ := band h
      obtain ⟨w, a1, a2⟩ := pvB_ok h1
      obtain ⟨ws, b1, b2⟩ := pvsB_ok h2
      exact ⟨w :: ws, .cons a1 b1, fun H => .cons (a2 H) (b2 H)⟩
end
/-! ### facts -/
inductive Fx where
  | he (f : He.Fa)
  | prop (C f : Str)
  | val (x : Str) (v : PV)
def Fx.ok (K : Frag) : Fx → Bool
  | .he f => f.ok K
  | .prop C f => He.eqO (PySem.W.findIn K (.ref (He.ga K C)) f) (some (some (.ref (He.ma K (He.ga K C) f)))) && (He.eqO (PySem.W.specialIn K (.ref (He.ma K (He.ga K C) f)) "__get__") (some (some (.builtin "property.__get__"))) &&
      (decide (PySem.W.takesIn K (.ref (He.ma K (He.ga K C) f)) = some true) && (match PySem.W.recIn K (He.ma K (He.ga K C) f) "property" with
        | some (.ref _ :: _) => true
        | _ => false)))
  | .val x v => (match PySem.W.nsIn K mainGlobals x with
    | some (some u) => pvB K v u
    | _ => false)
theorem prop_ok {K : Frag} {C f : Str} (h : (Fx.prop C f).ok K = true) : PropOf K (He.ga K C) f (He.ma K (He.ga K C) f) (gAd K C f) := by
  have h : (He.eqO (PySem.W.findIn K (.ref (He.ga K C)) f) (some (some (.ref (He.ma K (He.ga K C) f)))) && (He.eqO (PySem.W.specialIn K (.ref (He.ma K (He.ga K C) f)) "__get__") (some (some (.builtin "property.__get__"))) &&
      (decide (PySem.W.takesIn K (.ref (He.ma K (He.ga K C) f)) = some true) && (match PySem.W.recIn K (He.ma K (He.ga K C) f) "property" with
        | some (.ref _ :: _) => true
        | _ => false)))) = true := h
  obtain ⟨h1, h⟩ := band h
  obtain ⟨h2, h⟩ := band h
  obtain ⟨h3, h4⟩ := band h
  refine ⟨He.eqO_ok h1, He.eqO_ok h2, of_decide_eq_true h3, ?_⟩
  unfold gAd
  split at h4
  · rename_i g rest e
    rw [e]
    exact ⟨rest, rfl⟩
  · cases h4
theorem val_ok {K : Frag} {h : Heap} {mg : Str → Option Value} (X : K.In h) (g : h.Ns mainGlobals mg) {x : Str} {v : PV} (c : (Fx.val x v).ok K = true) : ∃ u w, mg x = some u ∧ RelV w u ∧ ∀ H, RepV K H v w := by
  have c : (match PySem.W.nsIn K mainGlobals x with
    | some (some u) => pvB K v u
    | _ => false) = true := c
  split at c
  · rename_i u e
    obtain ⟨w, r1, r2⟩ := pvB_ok c
    exact ⟨u, w, PySem.W.mg_of X g e, r1, r2⟩
  · cases c
/-! ### all defs of a module -/
/-- a def: where the head tells of it, its names by slot, its parameters, its body as we spell it; at_: where it stands; key: its promise's name; star: the name of its *rest -/
structure DefE where
  d : He.DefD
  N : List Str
  ps : List Str
  ss : Ss
  at_ : Loc
  key : Str
  star : Option Str
/-- what else the texts lean on -/
structure Lay where
  free : List Str := []
  cst : List (Str × PV) := []
  kws : List (Str × List Str × List Nat) := []
  flds : List (Str × Str) := []
  prps : List (Str × Str × Str) := []
  mks : List (Str × Nat × Str) := []
  mts : List (Str × Str × Str × List Str) := []
  mk0s : List (Str × Str × List Str) := []
def glOf (L : Lay) (x : Str) : PV := (L.cst.lookup x).getD .non
def fnsOf (ds : List DefE) : List (Str × List Str) := ds.filterMap fun e => match e.at_, e.star with
  | .glo x, none => if x == e.key then some (e.key, e.ps) else none
  | _, _ => none
def Lay.cfg (L : Lay) (fns : List (Str × List Str)) (e : DefE) : Cfg := ⟨e.N, e.d.scope, fun _ => true, fns, L.free, L.cst.map (·.1), L.kws, L.flds, L.prps, L.mks, L.mts, L.mk0s⟩
def DefE.ok (L : Lay) (fns : List (Str × List Str)) (e : DefE) : Bool := C8.scC e.N (e.ps ++ e.star.toList) e.d.scope && (chkSs (L.cfg fns e) e.ss e.d.body && (e.star.isNone || !e.ps.isEmpty))
/-- it takes its parameters by place -/
def DefE.Bs (e : DefE) : Prop := match e.star with
  | none => ∀ (kV doc pm : Value) (an : Option Addr) (cdv ct : Value) (us : List Value), us.length = e.ps.length → bindArgs (PySem.W.fnOf e.d.name e.d.qual e.d.params e.d.body e.d.scope .none kV doc pm an cdv ct) ⟨us, []⟩ = pure (e.ps.zip us)
  | some pv => ∀ (kV doc pm : Value) (an : Option Addr) (cdv ct : Value) (us rest : List Value), us.length = e.ps.length → bindArgs (PySem.W.fnOf e.d.name e.d.qual e.d.params e.d.body e.d.scope .none kV doc pm an cdv ct) ⟨us ++ rest, []⟩ = (newTuple rest >>= fun t => pure (e.ps.zip us ++ [(pv, t)]))
/-- .. and so by keywords -/
structure DefE.KBs (e : DefE) (ks : List Str) (perm : List Nat) : Prop where
  len : perm.length = e.ps.length
  lt : ∀ i ∈ perm, i < ks.length
  to : ∀ (kV doc pm : Value) (an : Option Addr) (cdv ct : Value) (ws : List Value), ws.length = ks.length → bindArgs (PySem.W.fnOf e.d.name e.d.qual e.d.params e.d.body e.d.scope .none kV doc pm an cdv ct) ⟨[], ks.zip ws⟩ = pure (e.ps.zip (perm.map fun i => ws.getD i .none))
theorem kb_of {K : Frag} {e : DefE} {f : Addr} {fd : FuncData} {ks : List Str} {perm : List Nat} (F : FunD K e.d.name e.d.qual e.d.params e.d.body e.d.scope [] [] f fd) (h : e.KBs ks perm) : KB K fd e.ps ks perm := by
  refine ⟨h.len, h.lt, fun s ws _ hw => ?_⟩
  obtain ⟨oc, od, dV, kV, doc, pm, an, cdv, ct, osl, rfl, lk, hcd, hD, hK⟩ := F.ex
  rcases hD with ⟨_, rfl⟩ | ⟨e, _⟩
  · exact .of_eq (h.to kV doc pm an cdv ct ws hw)
  · exact absurd rfl e
/-- what the layout's lists name is there -/
structure Lay.Has (L : Lay) (ds : List DefE) : Prop where
  kws : ∀ q ∈ L.kws, ∃ e ∈ ds, e.at_ = .glo q.1 ∧ e.key = q.1 ∧ e.star = none ∧ e.KBs q.2.1 q.2.2
  prps : ∀ q ∈ L.prps, ∃ e ∈ ds, e.at_ = .prop q.1 q.2.1 ∧ e.key = q.2.2 ∧ e.star = none ∧ ∃ sf, e.ps = [sf]
  mks : ∀ q ∈ L.mks, ∃ e ∈ ds, e.at_ = .meth q.1 "__init__" ∧ e.key = q.2.2 ∧ e.star.isSome = true ∧ e.ps.length = q.2.1 + 1
  mts : ∀ q ∈ L.mts, ∃ e ∈ ds, e.at_ = .meth q.1 q.2.1 ∧ e.key = q.2.2.1 ∧ e.star = none ∧ e.ps = q.2.2.2
  mk0s : ∀ q ∈ L.mk0s, ∃ e ∈ ds, e.at_ = .meth q.1 "__init__" ∧ e.key = q.2.1 ∧ e.star = none ∧ e.ps = q.2.2
/-- the facts that the head is asked for -/
def faOf (L : Lay) (ds : List DefE) : List Fx := (fnsOf ds).map (fun q => .he (.glo q.1)) ++ (L.free.map (fun x => .he (.free x)) ++ (L.cst.map (fun q => .val q.1 q.2) ++ (L.prps.flatMap (fun q => [.he (.cls q.1), .prop q.1 q.2.1]) ++
  (L.flds.flatMap (fun q => [.he (.cls q.1), .he (.noat q.1 q.2)]) ++ (L.mks.flatMap (fun q => [.he (.glo q.1), .he (.mkr q.1)]) ++ (L.mts.flatMap (fun q => [.he (.cls q.1), .he (.meth q.1 q.2.1)]) ++ L.mk0s.flatMap (fun q => [.he (.glo q.1), .he (.mkr q.1)])))))))
/-! ### the Hook -/
abbrev AlV : Type := Bool × List He.FnW
def obsV (fa : List Fx) (ds : List DefE) (K : Frag) : AlV := ((fa.all fun f => f.ok K) && ds.all fun e => okA K (e.at_.ad K) e.d.qual, ds.map fun e => fnWA K (e.at_.ad K))
def valV (ds : List DefE) : AlV := (true, ds.map fun e => e.d.val)
def SaysV (fa : List Fx) (ds : List DefE) (K : Frag) : Prop := obsV fa ds K = valV ds
def obsVG (n : Nat) (fa : List Fx) (ds : List DefE) (g : Addr → Option Obj) : AlV := obsV fa ds (He.frG g (He.asD g n))
def hookV (n : Nat) (fa : List Fx) (ds : List DefE) : PySem.W.Hook where
  α := AlV
  obs := fun s => obsVG n fa ds s.heap.get?
  val := fun _ => valV ds
  says := fun _ h => ∃ K : Frag, K.In h ∧ SaysV fa ds K
  of := fun _ _ e => ⟨_, He.frG_in, e⟩
  keeps := fun _ _ _ ⟨K, hK, c⟩ k => ⟨K, PySem.W.Frag.In.keeps hK k, c⟩
theorem obsVG_eq {n : Nat} {fa : List Fx} {ds : List DefE} {g : Addr → Option Obj} {s : Shared} (h : ∀ a, g a = s.heap.get? a) : obsVG n fa ds g = (hookV n fa ds).obs s := by
  have e : g = s.heap.get? := funext h
  rw [e] <;> rfl
section
variable {fa : List Fx} {ds : List DefE} {K : Frag}
theorem SaysV.fact (c : SaysV fa ds K) {f : Fx} (h : f ∈ fa) : f.ok K = true := by
  have c1 := (band (show ((fa.all fun f => f.ok K) && ds.all fun e => okA K (e.at_.ad K) e.d.qual) = true from congrArg (fun z : AlV => z.1) c)).1
  exact List.all_eq_true.mp c1 f h
theorem SaysV.def_ (c : SaysV fa ds K) {e : DefE} (h : e ∈ ds) : ∃ fd, FunD K e.d.name e.d.qual e.d.params e.d.body e.d.scope [] [] (e.at_.ad K) fd := by
  have c2 := (band (show ((fa.all fun f => f.ok K) && ds.all fun e => okA K (e.at_.ad K) e.d.qual) = true from congrArg (fun z : AlV => z.1) c)).2
  have e1 : ds.map (fun e => fnWA K (e.at_.ad K)) = ds.map fun e => e.d.val := congrArg (fun z : AlV => z.2) c
  obtain ⟨i, hi⟩ := List.mem_iff_getElem?.mp h
  have e2 : (ds.map fun e => fnWA K (e.at_.ad K))[i]? = (ds.map fun e => e.d.val)[i]? := by rw [e1]
  rw [List.getElem?_map, List.getElem?_map, hi] at e2
  exact funA (Option.some.inj e2) (List.all_eq_true.mp c2 e h)
end
theorem fnsOf_mem {ds : List DefE} {f : Str} {ps : List Str} (h : (f, ps) ∈ fnsOf ds) : ∃ e ∈ ds, e.at_ = .glo f ∧ e.key = f ∧ e.star = none ∧ e.ps = ps := by
  unfold fnsOf at h
  obtain ⟨e, he, q⟩ := List.mem_filterMap.mp h
  refine ⟨e, he, ?_⟩
  split at q
  · rename_i x h1 h2
    split at q
    · rename_i hx
      have hx := eq_of_beq hx
      cases q
      exact ⟨by rw [h1, hx], rfl, h2, rfl⟩
    · cases q
  · cases q
theorem fnsOf_has {ds : List DefE} {e : DefE} (he : e ∈ ds) (h1 : e.at_ = .glo e.key) (h2 : e.star = none) : (e.key, e.ps) ∈ fnsOf ds := by
  unfold fnsOf
  refine List.mem_filterMap.mpr ⟨e, he, ?_⟩
  rw [h1, h2]
  simp
section
variable {P : Program} {w : World} {K : Frag} {mg : Str → Option Value} {base : Heap} {L : Lay} {Γ : Nat → Ctx} {ds : List DefE}
theorem fng_none {k : Nat} {f : Addr} {fd : FuncData} {ps : List Str} {sp : Spec} (h : ∀ as h Q R, sp as h Q R → False) : FnG P w K mg base k f fd ps sp :=
  ⟨fun _ _ _ _ _ _ _ _ _ _ _ _ _ _ _ ⟨_, _, _, _, _, z⟩ => (h _ _ _ _ z).elim⟩
theorem fns_none {k n : Nat} {f : Addr} {sp : Spec} (h : ∀ as h Q R, sp as h Q R → False) : FnS P w K mg base k f n sp :=
  ⟨fun _ _ _ _ _ _ _ _ _ _ _ _ _ ⟨_, _, _, _, _, z⟩ => (h _ _ _ _ z).elim⟩
/-- a def's promise at a level -/
def DefE.Keeps (P : Program) (w : World) (K : Frag) (mg : Str → Option Value) (base : Heap) (sp : Spec) (k : Nat) (e : DefE) : Prop := ∀ fd, FunD K e.d.name e.d.qual e.d.params e.d.body e.d.scope [] [] (e.at_.ad K) fd → match e.star with
  | none => FnG P w K mg base k (e.at_.ad K) fd e.ps sp
  | some _ => FnS P w K mg base k (e.at_.ad K) (e.ps.length - 1) sp
theorem DefE.Keeps.fng {sp : Spec} {k : Nat} {e : DefE} {fd : FuncData} (h : e.Keeps P w K mg base sp k) (F : FunD K e.d.name e.d.qual e.d.params e.d.body e.d.scope [] [] (e.at_.ad K) fd) (hs : e.star = none) : FnG P w K mg base k (e.at_.ad K) fd e.ps sp := by
  have z := h fd F
  rw [hs] at z
  exact z
theorem DefE.Keeps.fns {sp : Spec} {k : Nat} {e : DefE} {fd : FuncData} (h : e.Keeps P w K mg base sp k) (F : FunD K e.d.name e.d.qual e.d.params e.d.body e.d.scope [] [] (e.at_.ad K) fd) (hs : e.star.isSome = true) : FnS P w K mg base k (e.at_.ad K) (e.ps.length - 1) sp := by
  have z := h fd F
  cases q : e.star with
  | none => rw [q] at hs; cases hs
  | some pv => rw [q] at z; exact z
theorem DefE.bnd {e : DefE} {fd : FuncData} (hb : e.Bs) (hs : e.star = none) (F : FunD K e.d.name e.d.qual e.d.params e.d.body e.d.scope [] [] (e.at_.ad K) fd) : Binds K fd e.ps [] := by
  unfold DefE.Bs at hb
  rw [hs] at hb
  exact FunD.bindsN F fun kV doc pm an cdv ct us hl => hb kV doc pm an cdv ct us hl
theorem facts_of {hp : Heap} (X : K.In hp) (g : hp.Ns mainGlobals mg) (c : SaysV (faOf L ds) ds K) (H : L.Has ds) (hb : ∀ e ∈ ds, e.Bs) {k : Nat} {e : DefE}
    (h1 : ∀ j, (Γ (j + 1)).fn1 = (Γ j).fn) (h10 : ∀ f as h Q R, (Γ 0).fn1 f as h Q R → False) (ih : ∀ e ∈ ds, e.Keeps P w K mg base ((Γ k).fn e.key) k) (ih1 : ∀ j, k = j + 1 → ∀ e ∈ ds, e.Keeps P w K mg base ((Γ j).fn e.key) j) :
    Facts P w K mg base k (Γ k) (glOf L) (L.cfg (fnsOf ds) e) := by
  have fact : ∀ f ∈ faOf L ds, f.ok K = true := fun f hf => c.fact hf
  unfold faOf at fact
  simp only [List.mem_append, List.mem_map, List.mem_flatMap, List.mem_cons, List.not_mem_nil, or_false] at fact
  have fglo : ∀ q ∈ fnsOf ds, (Fx.he (.glo q.1)).ok K = true := fun q hq => fact _ (.inl ⟨q, hq, rfl⟩)
  have gl : ∀ f ps, (f, ps) ∈ fnsOf ds → mg f = some (.ref (He.ga K f)) := fun f ps hf => He.glo_ok X g (fglo _ hf)
  have fkw : ∀ q ∈ L.kws, ∃ e ∈ ds, e.at_ = .glo q.1 ∧ e.key = q.1 ∧ e.star = none ∧ e.KBs q.2.1 q.2.2 := H.kws
  refine ⟨?_, ?_, ?_, ?_, ?_, ?_, ?_, ?_, ?_⟩
  · intro f ps hf
    obtain ⟨e2, he2, ha, hk, hs, hp⟩ := fnsOf_mem hf
    obtain ⟨fd, F⟩ := c.def_ he2
    have ea : e2.at_.ad K = He.ga K f := by rw [ha]; rfl
    subst hp
    refine ⟨e2.at_.ad K, fd, by rw [ea]; exact gl f _ hf, ?_, F.kp, DefE.bnd (hb e2 he2) hs F⟩
    rw [← hk]
    exact (ih e2 he2).fng F hs
  · exact fun x hx => He.free_ok X g (show (He.Fa.free x).ok K = true from fact (.he (.free x)) (.inr (.inl ⟨x, hx, rfl⟩)))
  · intro x hx
    obtain ⟨q, hq, rfl⟩ := List.mem_map.mp hx
    have : ∃ v, L.cst.lookup q.1 = some v := by
      cases z : L.cst.lookup q.1 with
      | some v => exact ⟨v, rfl⟩
      | none =>
        have := List.lookup_eq_none_iff.mp z q hq
        simp at this
    obtain ⟨v, hv⟩ := this
    have hm : (q.1, v) ∈ L.cst := by
      obtain ⟨l1, l2, el, _⟩ := List.lookup_eq_some_iff.mp hv
      rw [el]
      simp
    obtain ⟨u, w', e1, e2, e3⟩ := val_ok X g (fact (.val q.1 v) (.inr (.inr (.inl ⟨(q.1, v), hm, rfl⟩))))
    refine ⟨u, w', e1, e2, ?_⟩
    unfold glOf
    rw [hv]
    exact e3
  · intro f ks perm hq
    obtain ⟨e2, he2, ha, hk, hs, kb⟩ := H.kws _ hq
    obtain ⟨fd, F⟩ := c.def_ he2
    have ha : e2.at_ = .glo f := ha
    have hk : e2.key = f := hk
    have ea : e2.at_.ad K = He.ga K f := by rw [ha]; rfl
    have hm : (e2.key, e2.ps) ∈ fnsOf ds := fnsOf_has he2 (by rw [ha, hk]) hs
    refine ⟨e2.at_.ad K, fd, e2.ps, by rw [ea]; exact gl f _ (hk ▸ hm), ?_, F.kp, kb_of F kb⟩
    rw [← hk]
    exact (ih e2 he2).fng F hs
  · intro C f hq
    have a1 := fact (.he (.cls C)) (.inr (.inr (.inr (.inr (.inl ⟨(C, f), hq, .inl rfl⟩)))))
    have a2 := fact (.he (.noat C f)) (.inr (.inr (.inr (.inr (.inl ⟨(C, f), hq, .inr rfl⟩)))))
    exact ⟨He.cls_ok a1, He.noat_ok a2⟩
  · intro C f key hq
    have a1 := fact (.he (.cls C)) (.inr (.inr (.inr (.inl ⟨(C, f, key), hq, .inl rfl⟩))))
    have a2 := fact (.prop C f) (.inr (.inr (.inr (.inl ⟨(C, f, key), hq, .inr rfl⟩))))
    obtain ⟨e2, he2, ha, hk, hs, sf, hp⟩ := H.prps _ hq
    obtain ⟨fd, F⟩ := c.def_ he2
    have ha : e2.at_ = .prop C f := ha
    have hk : e2.key = key := hk
    have ea : e2.at_.ad K = gAd K C f := by rw [ha]; rfl
    refine ⟨He.cls_ok a1, ⟨_, gAd K C f, fd, sf, prop_ok a2, hp ▸ DefE.bnd (hb e2 he2) hs F, fun j ej => ?_⟩, fun ez as h Q R z => ?_⟩
    · have z := (ih1 j ej e2 he2).fng F hs
      rw [ea, hp, hk] at z
      rw [ej, h1]
      exact z
    · rw [ez] at z
      exact h10 _ _ _ _ _ z
  · intro C n key hq
    have a1 := fact (.he (.glo C)) (.inr (.inr (.inr (.inr (.inr (.inl ⟨(C, n, key), hq, .inl rfl⟩))))))
    have a2 := fact (.he (.mkr C)) (.inr (.inr (.inr (.inr (.inr (.inl ⟨(C, n, key), hq, .inr rfl⟩))))))
    obtain ⟨e2, he2, ha, hk, hs, hp⟩ := H.mks _ hq
    obtain ⟨fd, F⟩ := c.def_ he2
    have ha : e2.at_ = .meth C "__init__" := ha
    have hk : e2.key = key := hk
    have hp : e2.ps.length = n + 1 := hp
    have ea : e2.at_.ad K = He.ma K (He.ga K C) "__init__" := by rw [ha]; rfl
    refine ⟨He.glo_ok X g a1, ⟨_, He.mkr_ok a2, fun j ej => ?_⟩, fun ez as h Q R z => ?_⟩
    · have z := (ih1 j ej e2 he2).fns F hs
      rw [ea, hk, hp] at z
      rw [ej, h1]
      exact z
    · rw [ez] at z
      exact h10 _ _ _ _ _ z
  · intro C m key ps hq
    have a1 := fact (.he (.cls C)) (.inr (.inr (.inr (.inr (.inr (.inr (.inl ⟨(C, m, key, ps), hq, .inl rfl⟩)))))))
    have a2 := fact (.he (.meth C m)) (.inr (.inr (.inr (.inr (.inr (.inr (.inl ⟨(C, m, key, ps), hq, .inr rfl⟩)))))))
    obtain ⟨e2, he2, ha, hk, hs, hp⟩ := H.mts _ hq
    obtain ⟨fd, F⟩ := c.def_ he2
    have ha : e2.at_ = .meth C m := ha
    have hk : e2.key = key := hk
    have hp : e2.ps = ps := hp
    have ea : e2.at_.ad K = He.ma K (He.ga K C) m := by rw [ha]; rfl
    refine ⟨He.cls_ok a1, _, fd, He.meth_ok a2, ?_, hp ▸ DefE.bnd (hb e2 he2) hs F⟩
    have z := (ih e2 he2).fng F hs
    rw [ea, hp, hk] at z
    exact z
  · intro C key ps hq
    have a1 := fact (.he (.glo C)) (.inr (.inr (.inr (.inr (.inr (.inr (.inr ⟨(C, key, ps), hq, .inl rfl⟩)))))))
    have a2 := fact (.he (.mkr C)) (.inr (.inr (.inr (.inr (.inr (.inr (.inr ⟨(C, key, ps), hq, .inr rfl⟩)))))))
    obtain ⟨e2, he2, ha, hk, hs, hp⟩ := H.mk0s _ hq
    obtain ⟨fd, F⟩ := c.def_ he2
    have ha : e2.at_ = .meth C "__init__" := ha
    have hk : e2.key = key := hk
    have hp : e2.ps = ps := hp
    have ea : e2.at_.ad K = He.ma K (He.ga K C) "__init__" := by rw [ha]; rfl
    refine ⟨He.glo_ok X g a1, ⟨_, fd, He.mkr_ok a2, hp ▸ DefE.bnd (hb e2 he2) hs F, fun j ej => ?_⟩, fun ez as h Q R z => ?_⟩
    · have z := (ih1 j ej e2 he2).fng F hs
      rw [ea, hp, hk] at z
      rw [ej, h1]
      exact z
    · rw [ez] at z
      exact h10 _ _ _ _ _ z
theorem levels {hp : Heap} (X : K.In hp) (g : hp.Ns mainGlobals mg) (c : SaysV (faOf L ds) ds K) (H : L.Has ds) (hb : ∀ e ∈ ds, e.Bs) (hc : ds.all (DefE.ok L (fnsOf ds)) = true)
    (h1 : ∀ j, (Γ (j + 1)).fn1 = (Γ j).fn) (h10 : ∀ f as h Q R, (Γ 0).fn1 f as h Q R → False) (h0 : ∀ f as h Q R, ((Γ 0).fn f as h Q R) → False)
    (hsp : ∀ k, ∀ e ∈ ds, ∀ as h Q R, as.length = e.ps.length + e.star.toList.length → (Γ (k + 1)).fn e.key as h Q R → wpSs (Γ k) (glOf L) (fun _ => R) e.ss (startE e.N as) h (retE Q)) :
    ∀ n k, k ≤ n → ∀ e ∈ ds, e.Keeps P w K mg base ((Γ k).fn e.key) k := by
  have zero : ∀ e ∈ ds, e.Keeps P w K mg base ((Γ 0).fn e.key) 0 := by
    intro e he fd F
    cases q : e.star with
    | none => exact fng_none (h0 e.key)
    | some pv => exact fns_none (h0 e.key)
  intro n
  induction n with
  | zero =>
    intro k hk
    obtain rfl : k = 0 := by omega
    exact zero
  | succ n ih =>
    intro k hk
    cases k with
    | zero => exact zero
    | succ k =>
      intro e he fd F
      have ok := List.all_eq_true.mp hc e he
      unfold DefE.ok at ok
      obtain ⟨c4, c5⟩ := band ok
      obtain ⟨c5, c6⟩ := band c5
      have facts : Facts P w K mg base k (Γ k) (glOf L) (L.cfg (fnsOf ds) e) := facts_of X g c H hb h1 h10 (ih k (by omega)) fun j ej => ih j (by omega)
      have bs := hb e he
      unfold DefE.Bs at bs
      have sp := hsp k e he
      cases q : e.star with
      | none =>
        rw [q] at c4 sp
        have S := C8.fnScope_by c4
        rw [show e.ps ++ (none : Option Str).toList = e.ps from List.append_nil _] at S
        exact fng_chk F S rfl rfl rfl c5 facts sp
      | some pv =>
        rw [q] at c4 sp bs
        have hn : e.ps.length = e.ps.length - 1 + 1 := by
          rw [q] at c6
          cases z : e.ps with
          | nil => rw [z] at c6; cases c6
          | cons => simp
        exact fns_chk F hn (C8.fnScope_by c4) rfl rfl rfl c5 facts bs ((Γ (k + 1)).mono e.key) sp
end
/-- the end of a law -/
theorem walk_ev {l : PySem.W.OpenLaw} {n k : Nat} {q : Program} {loose : List Str} {XP : (Str → Option Value) → Heap → Prop} {YP : World → Heap → Prop} {d : DefRec} {x : Str}
    (hn : l.most = some n) (hn2 : n ≤ sizeLine) (hdf : d.params.defaults = []) (hr : Room k callerA)
    (F : ∀ (w : World) (mg : Str → Option Value) (fa : Addr) (h : Heap), YP w h → h.Ns mainGlobals mg → mg d.name = some (.ref fa) →
      ∃ (K : Frag) (fd : FuncData) (sp : Spec), K.In h ∧ (∀ (s : Shared) (u : Value), BindsTo s fd ⟨[u], []⟩ [(x, u)]) ∧
        (∀ base : Heap, K.In base → base.Ns mainGlobals mg → FnG l.prog w K mg base k fa fd [x] sp) ∧
        (∀ (ns : List Int) Q R, ns.length ≤ n → (∀ z ∈ ns, Builtin.Int.intBits z ≤ 1048576) → (∀ h, Q (.bl true) h) → sp [.scr (ns.map .int)] (fun _ => none) Q R)) :
    PySem.W.WalkO q loose XP YP l.row.toRowW d [] (fun f vs => PySem.call f vs) := by
  refine Att.attach_callB hn hdf fun w s0 s1 mg mb fa o pm cd doc a vs ns G Y ho hd hcd hmg hobj hi hlen hbits hg => ?_
  obtain ⟨K, fd, sp, kin, hb, hF, hsp⟩ := F w mg fa _ Y G.T.g hmg
  exact end_call kin G.T.g G.T.b G.T.builtins G.T.nolimit hg hobj hi (Nat.le_trans hlen hn2) hr hF hb fun Q R hq => hsp ns Q R hlen hbits hq
/-- the end of a law whose defs are all spelt -/
theorem ev_walk {l : PySem.W.OpenLaw} {n k m : Nat} {q : Program} {loose : List Str} {XP : (Str → Option Value) → Heap → Prop} {d : DefRec} {x : Str} {L : Lay} {ds : List DefE} {Γ : Nat → Ctx} (eL : DefE) (hL : eL ∈ ds) (hps : eL.ps = [x]) (hat : eL.at_ = .glo eL.key) (hst : eL.star = none)
    (hn : l.most = some n) (hn2 : n ≤ sizeLine) (hdf : d.params.defaults = []) (hr : Room k callerA) (hname : d.name = eL.key) (H : L.Has ds) (hc : ds.all (DefE.ok L (fnsOf ds)) = true) (hb : ∀ e ∈ ds, e.Bs)
    (h1 : ∀ j, (Γ (j + 1)).fn1 = (Γ j).fn) (h10 : ∀ f as h Q R, (Γ 0).fn1 f as h Q R → False) (h0 : ∀ f as h Q R, ((Γ 0).fn f as h Q R) → False)
    (hsp : ∀ k, ∀ e ∈ ds, ∀ as h Q R, as.length = e.ps.length + e.star.toList.length → (Γ (k + 1)).fn e.key as h Q R → wpSs (Γ k) (glOf L) (fun _ => R) e.ss (startE e.N as) h (retE Q))
    (hlaw : ∀ (ns : List Int) Q R, ns.length ≤ n → (∀ z ∈ ns, Builtin.Int.intBits z ≤ 1048576) → (∀ h, Q (.bl true) h) → (Γ k).fn eL.key [.scr (ns.map .int)] (fun _ => none) Q R) :
    PySem.W.WalkO q loose XP (hookV m (faOf L ds) ds).says l.row.toRowW d [] (fun f vs => PySem.call f vs) := by
  refine walk_ev (x := x) hn hn2 hdf hr fun w mg f h Y g hmg => ?_
  obtain ⟨K, X, c⟩ := Y
  obtain ⟨fd, F⟩ := SaysV.def_ c hL
  have hm : (eL.key, eL.ps) ∈ fnsOf ds := fnsOf_has hL hat hst
  have ea : eL.at_.ad K = He.ga K eL.key := by rw [hat]; rfl
  have ef : f = eL.at_.ad K := by
    have e := He.glo_ok X g (show (He.Fa.glo eL.key).ok K = true from c.fact (f := .he (.glo eL.key)) (by
      unfold faOf
      exact List.mem_append_left _ (List.mem_map.mpr ⟨_, hm, rfl⟩)))
    rw [← hname, hmg] at e
    rw [ea, ← hname]
    exact Value.ref.inj (Option.some.inj e)
  subst ef
  refine ⟨K, fd, (Γ k).fn eL.key, X, fun s u => ?_, fun base hk hg => ?_, hlaw⟩
  · have b := hb eL hL
    unfold DefE.Bs at b
    rw [hst] at b
    have z := FunD.bindsA (ps := eL.ps) F (fun kV doc pm an cdv ct us hl => b kV doc pm an cdv ct us hl) s [u] (by rw [hps]; rfl)
    rw [hps] at z
    exact z
  · have z := (levels (base := base) (P := l.prog) (w := w) X g c H hb hc h1 h10 h0 hsp k k (Nat.le_refl _) eL hL).fng F hst
    rw [hps] at z
    exact z
end Ev

set_option Elab.async false
set_option linter.all false
set_option maxRecDepth 100000
set_option maxHeartbeats 4000000
/-! Ev15: what the wishes say, step by step (for simp). -/
namespace Ev
open PySem PySem.Spec PyProof.Rows L2
theorem two_ex {P : PV → PV → MH → Prop} {x y : PV} {h : MH} : (∃ x1 y1, [x, y] = [x1, y1] ∧ P x1 y1 h) = P x y h := by
  apply propext
  constructor
  · rintro ⟨_, _, e, q⟩
    cases e; exact q
  · exact fun q => ⟨_, _, rfl, q⟩
theorem three_ex {P : PV → PV → PV → MH → Prop} {x y z : PV} {h : MH} : (∃ x1 y1 z1, [x, y, z] = [x1, y1, z1] ∧ P x1 y1 z1 h) = P x y z h := by
  apply propext
  constructor
  · rintro ⟨_, _, _, e, q⟩
    cases e; exact q
  · exact fun q => ⟨_, _, _, rfl, q⟩
theorem asLst_ref {h : MH} {p : Addr} {xs : List PV} : asLst h (.ref p) = some xs ↔ ∃ ys, h p = some (.lst ys) ∧ ys = xs := by
  show (match h p with | some (.lst xs) => some xs | _ => none) = some xs ↔ _
  constructor
  · intro e
    split at e
    · rename_i ys q; cases e; exact ⟨_, q, rfl⟩
    · cases e
  · rintro ⟨ys, e, rfl⟩
    simp only [e]
theorem map_inj {α β : Type} {f : α → β} (hf : ∀ a b, f a = f b → a = b) : ∀ {xs ys : List α}, xs.map f = ys.map f → xs = ys
  | [], [], _ => rfl
  | [], _ :: _, e => by cases e
  | _ :: _, [], e => by cases e
  | x :: xs, y :: ys, e => by
    simp only [List.map_cons, List.cons.injEq] at e
    rw [hf _ _ e.1, map_inj hf e.2]
section
variable {G : Ctx} {gl : Str → PV} {ρ : Env} {h : MH} {D : PEnds} {Q : PK} {ex : Env → XV}
@[simp] theorem x_nil : wpSs G gl ex .nil ρ h D = D.nx ρ h := rfl
@[simp] theorem x_cons {s ss} : wpSs G gl ex (.cons s ss) ρ h D = wpS G gl ex s ρ h { nx := fun ρ1 h1 => wpSs G gl ex ss ρ1 h1 D, rt := D.rt, bk := D.bk, ct := D.ct } := rfl
@[simp] theorem x_expr {a} : wpS G gl ex (.expr a) ρ h D = wpE G gl ex a ρ h fun _ h1 => D.nx ρ h1 := rfl
@[simp] theorem x_set {i a} : wpS G gl ex (.set i a) ρ h D = wpE G gl ex a ρ h fun x h1 => D.nx (ρ.set i (some x)) h1 := rfl
@[simp] theorem x_unp {t a} : wpS G gl ex (.unp t a) ρ h D = wpE G gl ex a ρ h fun x h1 => ∃ ρ2, t.set x ρ = some ρ2 ∧ D.nx ρ2 h1 := rfl
@[simp] theorem x_par {i j a b} : wpS G gl ex (.par i j a b) ρ h D = wpE G gl ex a ρ h fun x h1 => wpE G gl ex b ρ h1 fun y h2 => D.nx ((ρ.set i (some x)).set j (some y)) h2 := by
  show wpE G gl ex a ρ h (fun x h1 => wpE G gl ex b ρ h1 fun y h2 => ∃ x1 y1, [x, y] = [x1, y1] ∧ D.nx ((ρ.set i (some x1)).set j (some y1)) h2) = _
  simp only [two_ex (P := fun x1 y1 h2 => D.nx ((ρ.set i (some x1)).set j (some y1)) h2)]
@[simp] theorem x_sub {o i v} : wpS G gl ex (.sub o i v) ρ h D = wpE G gl ex v ρ h fun v h1 => wpE G gl ex o ρ h1 fun o h2 => wpE G gl ex i ρ h2 fun i h3 => setOp o i v h3 fun h4 => D.nx ρ h4 := rfl
/-- a return may forget objects -/
def Rt (K : PK) : PK := fun x h1 => ∃ h2, (∀ b o, h2 b = some o → h1 b = some o) ∧ K x h2
theorem Rt.now {K : PK} {x : PV} (q : K x h) : Rt K x h := ⟨h, fun _ _ e => e, q⟩
@[simp] theorem x_ret {a} : wpS G gl ex (.ret a) ρ h D = wpE G gl ex a ρ h (Rt D.rt) := rfl
@[simp] theorem x_ifs {t x y} : wpS G gl ex (.ifs t x y) ρ h D = wpB G gl ex t ρ h fun b h1 => if b = true then wpSs G gl ex x ρ h1 D else wpSs G gl ex y ρ h1 D := rfl
@[simp] theorem x_brk : wpS G gl ex .brk ρ h D = D.bk ρ h := rfl
@[simp] theorem x_cont : wpS G gl ex .cont ρ h D = D.ct ρ h := rfl
@[simp] theorem x_pass : wpS G gl ex .pass ρ h D = D.nx ρ h := rfl
@[simp] theorem x_var0 {x : PV} : wpE G gl ex (.var 0) (some x :: ρ) h Q = Q x h := by simp [wpE, wVar]
@[simp] theorem x_varS {i : Nat} {x : Option PV} : wpE G gl ex (.var (i + 1)) (x :: ρ) h Q = wpE G gl ex (.var i) ρ h Q := by simp [wpE, wVar]
@[simp] theorem x_int {i} : wpE G gl ex (.int i) ρ h Q = Q (.int i) h := rfl
@[simp] theorem x_bl {i} : wpE G gl ex (.bl i) ρ h Q = Q (.bl i) h := rfl
@[simp] theorem x_str {i} : wpE G gl ex (.str i) ρ h Q = Q (.str i) h := rfl
@[simp] theorem x_non : wpE G gl ex .non ρ h Q = Q .non h := rfl
@[simp] theorem x_glob {x} : wpE G gl ex (.glob x) ρ h Q = Q (gl x) h := rfl
@[simp] theorem x_tup {es} : wpE G gl ex (.tup es) ρ h Q = wpEs G gl ex es ρ h fun xs h1 => xs.length ≤ sizeLine ∧ Q (.tup xs) h1 := rfl
@[simp] theorem x_lst {m es} : wpE G gl ex (.lst m es) ρ h Q = wpEs G gl ex es ρ h fun xs h1 => xs.length ≤ sizeLine ∧ allocL m xs h1 Q := rfl
@[simp] theorem x_neg {a} : wpE G gl ex (.neg a) ρ h Q = wpE G gl ex a ρ h fun x h1 => opNeg x h1 Q := rfl
@[simp] theorem x_not {a} : wpE G gl ex (.not a) ρ h Q = wpE G gl ex a ρ h fun x h1 => opNot x h1 Q := rfl
@[simp] theorem x_and {a b} : wpE G gl ex (.and a b) ρ h Q = wpE G gl ex a ρ h fun x h1 => ∃ k, x = .bl k ∧ if k = true then wpE G gl ex b ρ h1 Q else Q (.bl false) h1 := rfl
@[simp] theorem x_or {a b} : wpE G gl ex (.or a b) ρ h Q = wpE G gl ex a ρ h fun x h1 => ∃ k, x = .bl k ∧ if k = true then Q (.bl true) h1 else wpE G gl ex b ρ h1 Q := rfl
@[simp] theorem x_ite {t a b} : wpE G gl ex (.ite t a b) ρ h Q = wpB G gl ex t ρ h fun k h1 => if k = true then wpE G gl ex a ρ h1 Q else wpE G gl ex b ρ h1 Q := rfl
@[simp] theorem x_bin {m op a b} : wpE G gl ex (.bin m op a b) ρ h Q = wpE G gl ex a ρ h fun x h1 => wpE G gl ex b ρ h1 fun y h2 => binOp m op x y h2 Q := rfl
@[simp] theorem x_cmp {op a b} : wpE G gl ex (.cmp op a b) ρ h Q = wpE G gl ex a ρ h fun x h1 => wpE G gl ex b ρ h1 fun y h2 => cmpOp op x y h2 Q := rfl
@[simp] theorem x_chain {op op' a b d} : wpE G gl ex (.chain op op' a b d) ρ h Q = wpE G gl ex a ρ h fun x h1 => wpE G gl ex b ρ h1 fun y h2 => cmpOp op x y h2 fun z h3 => ∃ k, z = .bl k ∧ (if k = true then wpE G gl ex d ρ h3 fun w h4 => cmpOp op' y w h4 Q else Q (.bl false) h3) := rfl
@[simp] theorem x_ix {a b} : wpE G gl ex (.ix a b) ρ h Q = wpE G gl ex a ρ h fun x h1 => wpE G gl ex b ρ h1 fun y h2 => opIx x y h2 Q := rfl
@[simp] theorem x_sl {m a lo hi} : wpE G gl ex (.sl m a lo hi) ρ h Q = wpE G gl ex a ρ h fun x h1 => wpO G gl ex lo ρ h1 fun l h2 => wpO G gl ex hi ρ h2 fun u h3 => opSl m x l u h3 Q := rfl
@[simp] theorem x_bi {m b es} : wpE G gl ex (.bi m b es) ρ h Q = wpEs G gl ex es ρ h fun xs h1 => biOp m b xs h1 Q := rfl
@[simp] theorem x_fn {f es} : wpE G gl ex (.fn f es) ρ h Q = wpEs G gl ex es ρ h fun xs h1 => G.fn f xs h1 Q (ex ρ) := rfl
@[simp] theorem x_app {a b} : wpE G gl ex (.app a b) ρ h Q = wpE G gl ex a ρ h fun x h1 => isRefL h1 x ∧ wpE G gl ex b ρ h1 fun y h2 => meOp .append x [y] h2 Q := rfl
@[simp] theorem x_ext {a b} : wpE G gl ex (.ext a b) ρ h Q = wpE G gl ex a ρ h fun x h1 => isRefL h1 x ∧ wpE G gl ex b ρ h1 fun y h2 => meOp .extend x [y] h2 Q := rfl
@[simp] theorem x_tix {lo a b} : wpE G gl ex (.tix lo a b) ρ h Q = wpE G gl ex a ρ h fun x h1 => isTupP x ∧ wpE G gl ex b ρ h1 fun y h2 => opTix lo x y h2 Q := rfl
@[simp] theorem x_pop {a} : wpE G gl ex (.pop a) ρ h Q = wpE G gl ex a ρ h fun x h1 => isRefL h1 x ∧ meOp .pop x [] h1 Q := rfl
@[simp] theorem x_frz {a} : wpE G gl ex (.frz a) ρ h Q = wpE G gl ex a ρ h fun x h1 => ∃ p xs, x = .ref p ∧ h1 p = some (.lst xs) ∧ Q (.lst xs) (mdel h1 p) := rfl
@[simp] theorem x_enil {Q : LK} : wpEs G gl ex .nil ρ h Q = Q [] h := rfl
@[simp] theorem x_econs {e es} {Q : LK} : wpEs G gl ex (.cons e es) ρ h Q = wpE G gl ex e ρ h fun x h1 => wpEs G gl ex es ρ h1 fun xs h2 => Q (x :: xs) h2 := rfl
@[simp] theorem x_val {a} {Q : Bool → MH → Prop} : wpB G gl ex (.val a) ρ h Q = wpE G gl ex a ρ h fun x h1 => ∃ k, truP h1 x k ∧ Q k h1 := rfl
@[simp] theorem x_andT {a b} {Q : Bool → MH → Prop} : wpB G gl ex (.and a b) ρ h Q = wpB G gl ex a ρ h fun k h1 => if k = true then wpB G gl ex b ρ h1 Q else Q false h1 := rfl
@[simp] theorem x_orT {a b} {Q : Bool → MH → Prop} : wpB G gl ex (.or a b) ρ h Q = wpB G gl ex a ρ h fun k h1 => if k = true then Q true h1 else wpB G gl ex b ρ h1 Q := rfl
@[simp] theorem x_notT {a} {Q : Bool → MH → Prop} : wpB G gl ex (.not a) ρ h Q = wpB G gl ex a ρ h fun k h1 => Q (!k) h1 := rfl
@[simp] theorem x_tt {Q : Bool → MH → Prop} : wpB G gl ex .tt ρ h Q = Q true h := rfl
@[simp] theorem x_omit {Q : Option Int → MH → Prop} : wpO G gl ex .omit ρ h Q = Q none h := rfl
@[simp] theorem x_part {a} {Q : Option Int → MH → Prop} : wpO G gl ex (.part a) ρ h Q = wpE G gl ex a ρ h fun x h1 => ∃ i, x = .int i ∧ Q (some i) h1 := rfl
@[simp] theorem x_seq {a} {Q : Items → MH → Prop} : wpW G gl ex (.seq a) ρ h Q = wpE G gl ex a ρ h fun x h1 => ∃ xs, itemsOf h1 x = some xs ∧ Q ⟨xs, keepOf x xs⟩ h1 := rfl
@[simp] theorem x_rng1 {a} {Q : Items → MH → Prop} : wpW G gl ex (.rng1 a) ρ h Q = wpE G gl ex a ρ h fun x h1 => ∃ j : Int, x = .int j ∧ (-(2 ^ 62) ≤ j ∧ j < 2 ^ 62) ∧ Q ⟨rangeP 0 1 j.toNat, fun _ => True⟩ h1 := by
  show wpE G gl ex a ρ h (fun x h1 => ∃ j : Int, [x] = [.int j] ∧ -(2 ^ 62) ≤ j ∧ j < 2 ^ 62 ∧ Q ⟨rangeP 0 1 j.toNat, fun _ => True⟩ h1) = _
  simp only [List.cons.injEq, and_true, and_assoc]
@[simp] theorem x_rng2 {a b} {Q : Items → MH → Prop} : wpW G gl ex (.rng2 a b) ρ h Q = wpE G gl ex a ρ h fun x h1 => wpE G gl ex b ρ h1 fun y h2 => ∃ i j : Int, x = .int i ∧ y = .int j ∧ (-(2 ^ 62) ≤ i ∧ i < 2 ^ 62 ∧ -(2 ^ 62) ≤ j ∧ j < 2 ^ 62) ∧ Q ⟨rangeP i 1 (j - i).toNat, fun _ => True⟩ h2 := by
  show wpE G gl ex a ρ h (fun x h1 => wpE G gl ex b ρ h1 fun y h2 => ∃ i j : Int, [x, y] = [.int i, .int j] ∧ (-(2 ^ 62) ≤ i ∧ i < 2 ^ 62 ∧ -(2 ^ 62) ≤ j ∧ j < 2 ^ 62) ∧ Q ⟨rangeP i 1 (j - i).toNat, fun _ => True⟩ h2) = _
  simp only [List.cons.injEq, and_true, and_assoc]
@[simp] theorem x_rng3 {a b d} {Q : Items → MH → Prop} : wpW G gl ex (.rng3 a b d) ρ h Q = wpE G gl ex a ρ h fun x h1 => wpE G gl ex b ρ h1 fun y h2 => wpE G gl ex d ρ h2 fun z h3 => ∃ (i j c : Int) (n : Nat), x = .int i ∧ y = .int j ∧ z = .int c ∧ RgC i j c n ∧ Q ⟨rangeP i c n, fun _ => True⟩ h3 := by
  show wpE G gl ex a ρ h (fun x h1 => wpE G gl ex b ρ h1 fun y h2 => wpE G gl ex d ρ h2 fun z h3 => ∃ (i j c : Int) (n : Nat), [x, y, z] = [.int i, .int j, .int c] ∧ RgC i j c n ∧ Q ⟨rangeP i c n, fun _ => True⟩ h3) = _
  simp only [List.cons.injEq, and_true, and_assoc]
@[simp] theorem x_fnk {f ks perm es} : wpE G gl ex (.fnk f ks perm es) ρ h Q = wpEs G gl ex es ρ h fun xs h1 => G.fn f (perm.map fun i => xs.getD i .non) h1 Q (ex ρ) := rfl
@[simp] theorem x_dix {a b} : wpE G gl ex (.dix a b) ρ h Q = wpE G gl ex a ρ h fun x h1 => wpE G gl ex b ρ h1 fun y h2 => opDix x y h2 Q := rfl
@[simp] theorem x_dnew : wpE G gl ex .dnew ρ h Q = ∀ p, h p = none → Q (.ref p) (mupd h p (.dK [])) := rfl
@[simp] theorem x_disp {ps} : wpE G gl ex (.disp ps) ρ h Q = wpPs G gl ex ps ρ h fun ps h1 => ∃ kvs, keysP ps = some kvs ∧ kvs.length ≤ 15 ∧ ∀ p, h1 p = none → Q (.ref p) (mupd h1 p (.dK (mergeP [] kvs))) := rfl
@[simp] theorem x_pnil {Q : List (PV × PV) → MH → Prop} : wpPs G gl ex .nil ρ h Q = Q [] h := rfl
@[simp] theorem x_pcons {a b ps} {Q : List (PV × PV) → MH → Prop} : wpPs G gl ex (.cons a b ps) ρ h Q = wpE G gl ex a ρ h fun x h1 => wpE G gl ex b ρ h1 fun y h2 => wpPs G gl ex ps ρ h2 fun ps h3 => Q ((x, y) :: ps) h3 := rfl
@[simp] theorem x_lr1 {m a} : wpE G gl ex (.lr1 m a) ρ h Q = wpE G gl ex a ρ h fun x h1 => ∃ j, x = .int j ∧ RgOk 0 j ∧ allocL m (rngL 0 j) h1 Q := rfl
@[simp] theorem x_lr2 {m a b} : wpE G gl ex (.lr2 m a b) ρ h Q = wpE G gl ex a ρ h fun x h1 => wpE G gl ex b ρ h1 fun y h2 => ∃ i j, x = .int i ∧ y = .int j ∧ RgOk i j ∧ allocL m (rngL i j) h2 Q := rfl
@[simp] theorem x_isi {a t} : wpE G gl ex (.isi a t) ρ h Q = wpE G gl ex a ρ h fun x h1 => opIsi t x h1 Q := rfl
theorem o_isi {t x n} (e : clsP h x = some n) : opIsi t x h Q = Q (.bl (isB t n)) h := by
  show (∃ n, clsP h x = some n ∧ Q (.bl (isB t n)) h) = _
  rw [e]; simp
@[simp] theorem o_isiI {t i} : opIsi t (.int i) h Q = Q (.bl (isB t "int")) h := o_isi rfl
@[simp] theorem o_isiB {t i} : opIsi t (.bl i) h Q = Q (.bl (isB t "bool")) h := o_isi rfl
@[simp] theorem o_isiS {t i} : opIsi t (.str i) h Q = Q (.bl (isB t "str")) h := o_isi rfl
@[simp] theorem o_isiN {t} : opIsi t .non h Q = Q (.bl (isB t "NoneType")) h := o_isi rfl
@[simp] theorem o_isiT {t xs} : opIsi t (.tup xs) h Q = Q (.bl (isB t "tuple")) h := o_isi rfl
@[simp] theorem o_isiL {t xs} : opIsi t (.lst xs) h Q = Q (.bl (isB t "list")) h := o_isi rfl
@[simp] theorem o_dixR {p y} : opDix (.ref p) y h Q = ∃ kvs k v, h p = some (.dK kvs) ∧ keyP y = some k ∧ lookP kvs k = some v ∧ Q v h := rfl
@[simp] theorem o_dputR {p y v} {Q : MH → Prop} : dputP (.ref p) y v h Q = ∃ kvs k, h p = some (.dK kvs) ∧ keyP y = some k ∧ kvs.length < sizeLine ∧ Q (mupd h p (.dK (putP kvs k v))) := rfl
@[simp] theorem x_par3 {i j l a b d} : wpS G gl ex (.par3 i j l a b d) ρ h D = wpE G gl ex a ρ h fun x h1 => wpE G gl ex b ρ h1 fun y h2 => wpE G gl ex d ρ h2 fun z h3 => D.nx (((ρ.set i (some x)).set j (some y)).set l (some z)) h3 := by
  show wpE G gl ex a ρ h (fun x h1 => wpE G gl ex b ρ h1 fun y h2 => wpE G gl ex d ρ h2 fun z h3 => ∃ x1 y1 z1, [x, y, z] = [x1, y1, z1] ∧ D.nx (((ρ.set i (some x1)).set j (some y1)).set l (some z1)) h3) = _
  simp only [three_ex (P := fun x1 y1 z1 h2 => D.nx (((ρ.set i (some x1)).set j (some y1)).set l (some z1)) h2)]
@[simp] theorem x_subp {o i t v} : wpS G gl ex (.subp o i t v) ρ h D = wpE G gl ex v ρ h fun v h1 => ∃ x y, v = .tup [x, y] ∧ wpE G gl ex o ρ h1 fun o h2 => wpE G gl ex i ρ h2 fun i h3 => setOp o i x h3 fun h4 => ∃ ρ2, t.set y ρ = some ρ2 ∧ D.nx ρ2 h4 := rfl
@[simp] theorem x_dput {o i v} : wpS G gl ex (.dput o i v) ρ h D = wpE G gl ex v ρ h fun v h1 => wpE G gl ex o ρ h1 fun o h2 => wpE G gl ex i ρ h2 fun i h3 => dputP o i v h3 fun h4 => D.nx ρ h4 := rfl
@[simp] theorem x_enum {a} {Q : Items → MH → Prop} : wpW G gl ex (.enum a) ρ h Q = wpE G gl ex a ρ h fun x h1 => ∃ xs, (asLstW h1 x = some xs ∨ x = .tup xs) ∧ Q ⟨enumP xs, keepOf x xs⟩ h1 := rfl
@[simp] theorem x_fst {C f o v} : wpS G gl ex (.fst C f o v) ρ h D = wpE G gl ex v ρ h fun v h1 => wpE G gl ex o ρ h1 fun x h2 => ∃ p fs, x = .ref p ∧ h2 p = some (.ins C fs) ∧ fs.length < 1000 ∧ D.nx ρ (mupd h2 p (.ins C (putA f v fs))) := rfl
@[simp] theorem x_nev : wpS G gl ex .nev ρ h D = False := rfl
@[simp] theorem x_fld {C f a} : wpE G gl ex (.fld C f a) ρ h Q = wpE G gl ex a ρ h fun x h1 => ∃ p fs v, x = .ref p ∧ h1 p = some (.ins C fs) ∧ fs.lookup f = some v ∧ Q v h1 := rfl
@[simp] theorem x_prp {C f key a} : wpE G gl ex (.prp C f key a) ρ h Q = wpE G gl ex a ρ h fun x h1 => ∃ p fs, x = .ref p ∧ h1 p = some (.ins C fs) ∧ G.fn1 key [.ref p] h1 Q noX := rfl
@[simp] theorem x_mk {C n key es} : wpE G gl ex (.mk C n key es) ρ h Q = wpEs G gl ex es ρ h fun xs h1 => n ≤ xs.length ∧ xs.length < sizeLine ∧ ∀ p, h1 p = none → G.fn1 key (.ref p :: (xs.take n ++ [.tup (xs.drop n)])) (mupd h1 p (.ins C [])) (fun v h2 => v = .non ∧ Q (.ref p) h2) noX := rfl
@[simp] theorem x_mt {C mn key a es} : wpE G gl ex (.mt C mn key a es) ρ h Q = wpE G gl ex a ρ h fun x h1 => ∃ p, x = .ref p ∧ (∃ fs, h1 p = some (.ins C fs) ∧ fs.lookup mn = none) ∧ wpEs G gl ex es ρ h1 fun xs h2 => G.fn key (x :: xs) h2 Q (ex ρ) := rfl
@[simp] theorem x_lix {a b} : wpE G gl ex (.lix a b) ρ h Q = wpE G gl ex a ρ h fun x h1 => isLstP h1 x ∧ wpE G gl ex b ρ h1 fun y h2 => opLix x y h2 Q := rfl
@[simp] theorem x_popi {a b} : wpE G gl ex (.popi a b) ρ h Q = wpE G gl ex a ρ h fun x h1 => isRefL h1 x ∧ wpE G gl ex b ρ h1 fun y h2 => opPopi x y h2 Q := rfl
@[simp] theorem x_tr1 {a} : wpE G gl ex (.tr1 a) ρ h Q = wpE G gl ex a ρ h fun x h1 => ∃ j, x = .int j ∧ RgOk 0 j ∧ Q (.tup (rngL 0 j)) h1 := rfl
@[simp] theorem x_mk0 {C n key es} : wpE G gl ex (.mk0 C n key es) ρ h Q = wpEs G gl ex es ρ h fun xs h1 => xs.length = n ∧ ∀ p, h1 p = none → G.fn1 key (.ref p :: xs) (mupd h1 p (.ins C [])) (fun v h2 => v = .non ∧ Q (.ref p) h2) noX := rfl
@[simp] theorem x_asg {ts v} : wpS G gl ex (.asg ts v) ρ h D = wpE G gl ex v ρ h fun v h1 => ∃ xs, v = .tup xs ∧ xs.length = (ts.map (wpTg G gl ex)).length ∧ wTgs (ts.map (wpTg G gl ex)) xs ρ h1 D.nx := rfl
@[simp] theorem x_tgn {R : Env → MH → Prop} : wTgs [] [] ρ h R = R ρ h := rfl
@[simp] theorem x_tgc {t : WTg} {ts x xs} {R : Env → MH → Prop} : wTgs (t :: ts) (x :: xs) ρ h R = t.run x ρ h fun ρ2 h2 => wTgs ts xs ρ2 h2 R := rfl
@[simp] theorem x_tst {t x} {R : Env → MH → Prop} : WTg.run (wpTg G gl ex (.st t)) x ρ h R = ∃ ρ2, t.set x ρ = some ρ2 ∧ R ρ2 h := rfl
@[simp] theorem x_tsb {o i x} {R : Env → MH → Prop} : WTg.run (wpTg G gl ex (.sub o i)) x ρ h R = wpE G gl ex o ρ h fun o h2 => wpE G gl ex i ρ h2 fun i h3 => setOp o i x h3 fun h4 => R ρ h4 := rfl
@[simp] theorem x_tfl {C f o x} {R : Env → MH → Prop} : WTg.run (wpTg G gl ex (.fld C f o)) x ρ h R = wpE G gl ex o ρ h fun o h2 => ∃ p fs, o = .ref p ∧ h2 p = some (.ins C fs) ∧ fs.length < 1000 ∧ R ρ (mupd h2 p (.ins C (putA f x fs))) := rfl
@[simp] theorem x_lens {es} : wpE G gl ex (.lens es) ρ h Q = wpEs G gl ex es ρ h fun xs h1 => ∃ ns : List Int, xs = ns.map .int ∧ Q (.int (setCard ns)) h1 := rfl
@[simp] theorem o_isBB {n a b} : opIs n (.bl a) (.bl b) h Q = Q (.bl (n != decide (a = b))) h := rfl
@[simp] theorem x_zip {a b} {Q : Items → MH → Prop} : wpW G gl ex (.zip a b) ρ h Q = wpE G gl ex a ρ h fun x h1 => wpE G gl ex b ρ h1 fun y h2 => ∃ xs ys, ((asLstW h2 x = some xs ∧ asLstW h2 y = some ys) ∨ (x = .tup xs ∧ y = .tup ys)) ∧ Q ⟨zipP xs ys, fun h => keepOf x xs h ∧ keepOf y ys h⟩ h2 := rfl
/-- a cut behind a statement -/
theorem x_cut {s ss} (J : EK) (h1 : wpS G gl ex s ρ h ⟨J, D.rt, D.bk, D.ct⟩) (h2 : ∀ ρ1 h1, J ρ1 h1 → wpSs G gl ex ss ρ1 h1 D) : wpSs G gl ex (.cons s ss) ρ h D :=
  MonS.go (monS ex s) h1 ⟨h2, fun _ _ z => z, fun _ _ z => z, fun _ _ z => z⟩
/-- a cut behind an expression -/
theorem x_cutE {a} (J : PK) (h1 : wpE G gl ex a ρ h J) (h2 : ∀ x h1, J x h1 → Q x h1) : wpE G gl ex a ρ h Q := monE ex a _ _ _ _ h2 h1
/-! ### loops: the invariant is given -/
theorem x_for {t it b} (Iv : Nat → Env → MH → Prop) (hw : wpW G gl ex it ρ h fun its h1 => Iv 0 ρ h1 ∧
    (∀ i x ρ h2, its.xs[i]? = some x → Iv i ρ h2 → its.keep h2 ∧ ∃ ρ2, t.set x ρ = some ρ2 ∧ wpSs G gl ex b ρ2 h2 ⟨Iv (i + 1), D.rt, D.nx, Iv (i + 1)⟩) ∧ ∀ ρ h2, Iv its.xs.length ρ h2 → its.keep h2 ∧ D.nx ρ h2) : wpS G gl ex (.for_ t it b) ρ h D :=
  monW ex it _ _ _ _ (fun its h1 z => ⟨Iv, z⟩) hw
/-- what is walked: without a change of the heap -/
theorem x_forI {t it b} (its : Items) (Iv : Nat → Env → MH → Prop) (hI : ∀ Q : Items → MH → Prop, Q its h → wpW G gl ex it ρ h Q) (h0 : Iv 0 ρ h)
    (step : ∀ i x ρ h2, its.xs[i]? = some x → Iv i ρ h2 → its.keep h2 ∧ ∃ ρ2, t.set x ρ = some ρ2 ∧ wpSs G gl ex b ρ2 h2 ⟨Iv (i + 1), D.rt, D.nx, Iv (i + 1)⟩)
    (fin : ∀ ρ h2, Iv its.xs.length ρ h2 → its.keep h2 ∧ D.nx ρ h2) : wpS G gl ex (.for_ t it b) ρ h D :=
  x_for Iv (hI _ ⟨h0, step, fin⟩)
/-- for .. in range -/
theorem x_forR {t it b} (lo : Int) (n : Nat) (Iv : Nat → Env → MH → Prop) (hI : ∀ Q : Items → MH → Prop, Q ⟨rangeP lo 1 n, fun _ => True⟩ h → wpW G gl ex it ρ h Q) (h0 : Iv 0 ρ h)
    (step : ∀ i ρ h2, i < n → Iv i ρ h2 → ∃ ρ2, t.set (.int (lo + i)) ρ = some ρ2 ∧ wpSs G gl ex b ρ2 h2 ⟨Iv (i + 1), D.rt, D.nx, Iv (i + 1)⟩)
    (fin : ∀ ρ h2, Iv n ρ h2 → D.nx ρ h2) : wpS G gl ex (.for_ t it b) ρ h D := by
  refine x_forI ⟨rangeP lo 1 n, fun _ => True⟩ Iv hI h0 (fun i x ρ h2 hx iv => ?_) fun ρ h2 iv => ?_
  · have hi : i < n := by
      have := (List.getElem?_eq_some_iff.mp hx).1
      rwa [rangeP_len] at this
    rw [rangeP_get hi] at hx
    cases hx
    rw [Int.mul_one]
    exact ⟨trivial, step i ρ h2 hi iv⟩
  · rw [show (⟨rangeP lo 1 n, fun _ => True⟩ : Items).xs.length = n from rangeP_len lo 1 n] at iv
    exact ⟨trivial, fin ρ h2 iv⟩
/-- for .. in range, any step -/
theorem x_forC {t it b} (lo c : Int) (n : Nat) (Iv : Nat → Env → MH → Prop) (hI : ∀ Q : Items → MH → Prop, Q ⟨rangeP lo c n, fun _ => True⟩ h → wpW G gl ex it ρ h Q) (h0 : Iv 0 ρ h)
    (step : ∀ i ρ h2, i < n → Iv i ρ h2 → ∃ ρ2, t.set (.int (lo + i * c)) ρ = some ρ2 ∧ wpSs G gl ex b ρ2 h2 ⟨Iv (i + 1), D.rt, D.nx, Iv (i + 1)⟩)
    (fin : ∀ ρ h2, Iv n ρ h2 → D.nx ρ h2) : wpS G gl ex (.for_ t it b) ρ h D := by
  refine x_forI ⟨rangeP lo c n, fun _ => True⟩ Iv hI h0 (fun i x ρ h2 hx iv => ?_) fun ρ h2 iv => ?_
  · have hi : i < n := by
      have := (List.getElem?_eq_some_iff.mp hx).1
      rwa [rangeP_len] at this
    rw [rangeP_get hi] at hx
    cases hx
    exact ⟨trivial, step i ρ h2 hi iv⟩
  · rw [show (⟨rangeP lo c n, fun _ => True⟩ : Items).xs.length = n from rangeP_len lo c n] at iv
    exact ⟨trivial, fin ρ h2 iv⟩
/-- for .. in range, the range's end drawn -/
theorem x_forRJ {t it b} (lo : Int) (J : Nat → MH → Prop) (hw : wpW G gl ex it ρ h fun its h1 => ∃ n, its = ⟨rangeP lo 1 n, fun _ => True⟩ ∧ J n h1) (Iv : Nat → Nat → Env → MH → Prop) (h0 : ∀ n h1, J n h1 → Iv n 0 ρ h1)
    (step : ∀ n i ρ h2, i < n → Iv n i ρ h2 → ∃ ρ2, t.set (.int (lo + i)) ρ = some ρ2 ∧ wpSs G gl ex b ρ2 h2 ⟨Iv n (i + 1), D.rt, D.nx, Iv n (i + 1)⟩)
    (fin : ∀ n ρ h2, Iv n n ρ h2 → D.nx ρ h2) : wpS G gl ex (.for_ t it b) ρ h D := by
  refine monW ex it _ _ _ _ (fun its h1 ⟨n, e, j⟩ => ?_) hw
  subst e
  refine ⟨Iv n, h0 n h1 j, fun i x ρ h2 hx iv => ?_, fun ρ h2 iv => ?_⟩
  · have hx : (rangeP lo 1 n)[i]? = some x := hx
    have hi : i < n := by
      have := (List.getElem?_eq_some_iff.mp hx).1
      rwa [rangeP_len] at this
    rw [rangeP_get hi] at hx
    cases hx
    rw [Int.mul_one]
    exact ⟨trivial, step n i ρ h2 hi iv⟩
  · rw [show (⟨rangeP lo 1 n, fun _ => True⟩ : Items).xs.length = n from rangeP_len lo 1 n] at iv
    exact ⟨trivial, fin n ρ h2 iv⟩
theorem x_while {t b} (Iv : Nat → Env → MH → Prop) (n : Nat) (h0 : Iv n ρ h)
    (step : ∀ n ρ h, Iv n ρ h → wpB G gl ex t ρ h fun k h1 => if k = true then wpSs G gl ex b ρ h1 ⟨fun ρ2 h2 => ∃ n', n' < n ∧ Iv n' ρ2 h2, D.rt, D.nx, fun ρ2 h2 => ∃ n', n' < n ∧ Iv n' ρ2 h2⟩ else D.nx ρ h1) : wpS G gl ex (.while_ t b) ρ h D :=
  ⟨Iv, ⟨n, h0⟩, step⟩
theorem x_comp {m own t it cond elt} (Iv : Nat → List PV → MH → Prop) (hw : wpW G gl ex it ρ h fun its h1 => its.xs.length ≤ sizeLine ∧ Iv 0 [] h1 ∧
  (∀ i x acc h2, its.xs[i]? = some x → Iv i acc h2 → its.keep h2 ∧ ∃ ρ2, t.set x (wipeE ρ (own.map (·.2))) = some ρ2 ∧ wpB G gl (fun _ => noX) cond ρ2 h2 fun b h3 => if b = true then wpE G gl (fun _ => noX) elt ρ2 h3 fun y h4 => Iv (i + 1) (acc ++ [y]) h4 else Iv (i + 1) acc h3) ∧
  ∀ acc h2, Iv its.xs.length acc h2 → its.keep h2 ∧ allocL m acc h2 Q) : wpE G gl ex (.comp m own t it cond elt) ρ h Q :=
  monW ex it _ _ _ _ (fun its h1 z => ⟨z.1, Iv, z.2⟩) hw
theorem x_compI {m own t it cond elt} (its : Items) (Iv : Nat → List PV → MH → Prop) (hI : ∀ Q : Items → MH → Prop, Q its h → wpW G gl ex it ρ h Q) (hz : its.xs.length ≤ sizeLine) (h0 : Iv 0 [] h)
    (step : ∀ i x acc h2, its.xs[i]? = some x → Iv i acc h2 → its.keep h2 ∧ ∃ ρ2, t.set x (wipeE ρ (own.map (·.2))) = some ρ2 ∧ wpB G gl (fun _ => noX) cond ρ2 h2 fun b h3 => if b = true then wpE G gl (fun _ => noX) elt ρ2 h3 fun y h4 => Iv (i + 1) (acc ++ [y]) h4 else Iv (i + 1) acc h3)
    (fin : ∀ acc h2, Iv its.xs.length acc h2 → its.keep h2 ∧ allocL m acc h2 Q) : wpE G gl ex (.comp m own t it cond elt) ρ h Q :=
  x_comp Iv (hI _ ⟨hz, h0, step, fin⟩)
/-- over a range, every item -/
theorem x_compR {m own t it elt} (lo : Int) (n : Nat) (Iv : Nat → List PV → MH → Prop) (hI : ∀ Q : Items → MH → Prop, Q ⟨rangeP lo 1 n, fun _ => True⟩ h → wpW G gl ex it ρ h Q) (hz : n ≤ sizeLine) (h0 : Iv 0 [] h)
    (step : ∀ i acc h2, i < n → Iv i acc h2 → ∃ ρ2, t.set (.int (lo + i)) (wipeE ρ (own.map (·.2))) = some ρ2 ∧ wpE G gl (fun _ => noX) elt ρ2 h2 fun y h4 => Iv (i + 1) (acc ++ [y]) h4)
    (fin : ∀ acc h2, Iv n acc h2 → allocL m acc h2 Q) : wpE G gl ex (.comp m own t it .tt elt) ρ h Q := by
  refine x_compI ⟨rangeP lo 1 n, fun _ => True⟩ Iv hI (by rw [rangeP_len]; exact hz) h0 (fun i x acc h2 hx iv => ?_) fun acc h2 iv => ?_
  · have hi : i < n := by
      have := (List.getElem?_eq_some_iff.mp hx).1
      rwa [rangeP_len] at this
    rw [rangeP_get hi] at hx
    cases hx
    rw [Int.mul_one]
    exact ⟨trivial, step i acc h2 hi iv⟩
  · rw [show (⟨rangeP lo 1 n, fun _ => True⟩ : Items).xs.length = n from rangeP_len lo 1 n] at iv
    exact ⟨trivial, fin acc h2 iv⟩
/-- a comprehension of plain values -/
theorem x_fmap {m own t it cond elt} (g : PV → Option PV) (hw : wpW G gl ex it ρ h fun its h1 => its.xs.length ≤ sizeLine ∧ its.keep h1 ∧
  (∀ x ∈ its.xs, ∃ ρ2, t.set x (wipeE ρ (own.map (·.2))) = some ρ2 ∧ wpB G gl (fun _ => noX) cond ρ2 h1 fun b h2 => if b = true then wpE G gl (fun _ => noX) elt ρ2 h2 fun y h3 => h3 = h1 ∧ g x = some y else h2 = h1 ∧ g x = none) ∧
  allocL m (its.xs.filterMap g) h1 Q) : wpE G gl ex (.comp m own t it cond elt) ρ h Q := by
  refine monW ex it _ _ _ _ (fun its h1 ⟨hz, kp, st, al⟩ => ⟨hz, fun i acc h2 => h2 = h1 ∧ acc = (its.xs.take i).filterMap g, ⟨rfl, rfl⟩, ?_, ?_⟩) hw
  · rintro i x acc h2 hx ⟨rfl, rfl⟩
    obtain ⟨ρ2, es, q⟩ := st x (List.mem_of_getElem? hx)
    have tk : its.xs.take (i + 1) = its.xs.take i ++ [x] := by
      rw [List.take_add_one, hx]; rfl
    refine ⟨kp, ρ2, es, monB _ cond _ _ _ _ (fun b h3 z => ?_) q⟩
    cases b with
    | true =>
      refine monE _ elt _ _ _ _ (fun y h4 ⟨e1, e2⟩ => ⟨e1, ?_⟩) z
      rw [tk, List.filterMap_append, List.filterMap_cons, e2] <;> rfl
    | false =>
      obtain ⟨e1, e2⟩ := z
      refine ⟨e1, ?_⟩
      rw [tk, List.filterMap_append, List.filterMap_cons, e2]
      simp
  · rintro acc h2 ⟨rfl, rfl⟩
    refine ⟨kp, ?_⟩
    rw [List.take_length]
    exact al
theorem x_mapI {m own t it elt} (its : Items) (g : PV → PV) (hI : ∀ Q : Items → MH → Prop, Q its h → wpW G gl ex it ρ h Q) (hz : its.xs.length ≤ sizeLine) (kp : its.keep h)
    (st : ∀ x ∈ its.xs, ∃ ρ2, t.set x (wipeE ρ (own.map (·.2))) = some ρ2 ∧ wpE G gl (fun _ => noX) elt ρ2 h fun y h3 => h3 = h ∧ y = g x)
    (al : allocL m (its.xs.map g) h Q) : wpE G gl ex (.comp m own t it .tt elt) ρ h Q := by
  refine x_fmap (fun x => some (g x)) (hI _ ⟨hz, kp, fun x hx => ?_, ?_⟩)
  · obtain ⟨ρ2, es, q⟩ := st x hx
    exact ⟨ρ2, es, monE _ elt _ _ _ _ (fun y h3 ⟨e1, e2⟩ => ⟨e1, by rw [e2]⟩) q⟩
  · have e : its.xs.filterMap (fun x => some (g x)) = its.xs.map g := by simp
    rw [e]; exact al
/-- the items: of a list of ours -/
theorem x_fmapT {α : Type} {m own t it cond elt} (ts : List α) (enc : α → PV) (kp : MH → Prop) (g : α → Option PV) (hI : ∀ Q : Items → MH → Prop, Q ⟨ts.map enc, kp⟩ h → wpW G gl ex it ρ h Q) (hz : ts.length ≤ sizeLine) (hk : kp h)
    (st : ∀ x ∈ ts, ∃ ρ2, t.set (enc x) (wipeE ρ (own.map (·.2))) = some ρ2 ∧ wpB G gl (fun _ => noX) cond ρ2 h fun b h2 => if b = true then wpE G gl (fun _ => noX) elt ρ2 h2 fun y h3 => h3 = h ∧ g x = some y else h2 = h ∧ g x = none)
    (al : allocL m (ts.filterMap g) h Q) : wpE G gl ex (.comp m own t it cond elt) ρ h Q := by
  refine x_compI ⟨ts.map enc, kp⟩ (fun i acc h2 => h2 = h ∧ acc = (ts.take i).filterMap g) hI (by rw [List.length_map]; exact hz) ⟨rfl, rfl⟩ ?_ ?_
  · rintro i x acc h2 hx ⟨rfl, rfl⟩
    have hx : (ts.map enc)[i]? = some x := hx
    rw [List.getElem?_map] at hx
    obtain ⟨y, hy, rfl⟩ := Option.map_eq_some_iff.mp hx
    obtain ⟨ρ2, es, q⟩ := st y (List.mem_of_getElem? hy)
    have tk : ts.take (i + 1) = ts.take i ++ [y] := by
      rw [List.take_add_one, hy]; rfl
    refine ⟨hk, ρ2, es, monB _ cond _ _ _ _ (fun b h3 z => ?_) q⟩
    cases b with
    | true =>
      refine monE _ elt _ _ _ _ (fun y h4 ⟨e1, e2⟩ => ⟨e1, ?_⟩) z
      rw [tk, List.filterMap_append, List.filterMap_cons, e2] <;> rfl
    | false =>
      obtain ⟨e1, e2⟩ := z
      refine ⟨e1, ?_⟩
      rw [tk, List.filterMap_append, List.filterMap_cons, e2]
      simp
  · rintro acc h2 ⟨rfl, rfl⟩
    refine ⟨hk, ?_⟩
    have e : (⟨ts.map enc, kp⟩ : Items).xs.length = ts.length := List.length_map ..
    rw [e, List.take_length]
    exact al
theorem x_mapT {α : Type} {m own t it elt} (ts : List α) (enc : α → PV) (kp : MH → Prop) (g : α → PV) (hI : ∀ Q : Items → MH → Prop, Q ⟨ts.map enc, kp⟩ h → wpW G gl ex it ρ h Q) (hz : ts.length ≤ sizeLine) (hk : kp h)
    (st : ∀ x ∈ ts, ∃ ρ2, t.set (enc x) (wipeE ρ (own.map (·.2))) = some ρ2 ∧ wpE G gl (fun _ => noX) elt ρ2 h fun y h3 => h3 = h ∧ y = g x)
    (al : allocL m (ts.map g) h Q) : wpE G gl ex (.comp m own t it .tt elt) ρ h Q := by
  refine x_fmapT ts enc kp (fun x => some (g x)) hI hz hk (fun x hx => ?_) ?_
  · obtain ⟨ρ2, es, q⟩ := st x hx
    exact ⟨ρ2, es, monE _ elt _ _ _ _ (fun y h3 ⟨e1, e2⟩ => ⟨e1, by rw [e2]⟩) q⟩
  · have e : ts.filterMap (fun x => some (g x)) = ts.map g := by simp
    rw [e]; exact al
theorem x_map {m own t it elt} (g : PV → PV) (hw : wpW G gl ex it ρ h fun its h1 => its.xs.length ≤ sizeLine ∧ its.keep h1 ∧
  (∀ x ∈ its.xs, ∃ ρ2, t.set x (wipeE ρ (own.map (·.2))) = some ρ2 ∧ wpE G gl (fun _ => noX) elt ρ2 h1 fun y h3 => h3 = h1 ∧ y = g x) ∧
  allocL m (its.xs.map g) h1 Q) : wpE G gl ex (.comp m own t it .tt elt) ρ h Q := by
  refine x_fmap (fun x => some (g x)) (monW ex it _ _ _ _ (fun its h1 ⟨hz, kp, st, al⟩ => ⟨hz, kp, fun x hx => ?_, ?_⟩) hw)
  · obtain ⟨ρ2, es, q⟩ := st x hx
    exact ⟨ρ2, es, monE _ elt _ _ _ _ (fun y h3 ⟨e1, e2⟩ => ⟨e1, by rw [e2]⟩) q⟩
  · have e : its.xs.filterMap (fun x => some (g x)) = its.xs.map g := by simp
    rw [e]; exact al
/-! ### operations -/
@[simp] theorem o_add {m i j} : binOp m .add (.int i) (.int j) h Q = Q (.int (i + j)) h := rfl
@[simp] theorem o_addS {m a b} : binOp m .add (.str a) (.str b) h Q = (a.length + b.length ≤ sizeLine ∧ Q (.str (a ++ b)) h) := rfl
@[simp] theorem o_addT {m xs ys} : binOp m .add (.tup xs) (.tup ys) h Q = (xs.length + ys.length ≤ sizeLine ∧ Q (.tup (xs ++ ys)) h) := rfl
@[simp] theorem o_addL {m xs ys} : binOp m .add (.lst xs) (.lst ys) h Q = (xs.length + ys.length ≤ sizeLine ∧ allocL m (xs ++ ys) h Q) := by
  show (∃ xs' ys', some xs = some xs' ∧ some ys = some ys' ∧ xs'.length + ys'.length ≤ sizeLine ∧ allocL m (xs' ++ ys') h Q) = _
  simp
@[simp] theorem o_sub {m i j} : binOp m .sub (.int i) (.int j) h Q = Q (.int (i - j)) h := rfl
@[simp] theorem o_mul {m i j} : binOp m .mul (.int i) (.int j) h Q = ((CMul i j ∨ CMulW i j) ∧ Q (.int (i * j)) h) := rfl
@[simp] theorem o_fdiv {m i j} : binOp m .fdiv (.int i) (.int j) h Q = (CDivW i j ∧ Q (.int (i / j)) h) := rfl
@[simp] theorem o_mod {m i j} : binOp m .mod (.int i) (.int j) h Q = (0 < j ∧ Q (.int (i % j)) h) := rfl
@[simp] theorem o_pow {m i j} : binOp m .pow (.int i) (.int j) h Q = (CPow i j ∧ Q (.int (i ^ j.toNat)) h) := rfl
@[simp] theorem o_neg {i} : opNeg (.int i) h Q = Q (.int (-i)) h := rfl
@[simp] theorem o_lt {i j} : cmpOp .lt (.int i) (.int j) h Q = Q (.bl (decide (i < j))) h := rfl
@[simp] theorem o_le {i j} : cmpOp .le (.int i) (.int j) h Q = Q (.bl (decide (i ≤ j))) h := rfl
@[simp] theorem o_gt {i j} : cmpOp .gt (.int i) (.int j) h Q = Q (.bl (decide (j < i))) h := rfl
@[simp] theorem o_ge {i j} : cmpOp .ge (.int i) (.int j) h Q = Q (.bl (decide (j ≤ i))) h := rfl
@[simp] theorem o_eqS {a b} : cmpOp .eq (.str a) (.str b) h Q = Q (.bl (decide (a = b))) h := by
  show Q (.bl (false != decide (a = b))) h = _
  rw [Bool.false_bne]
@[simp] theorem o_neS {a b} : cmpOp .ne (.str a) (.str b) h Q = Q (.bl (!decide (a = b))) h := by
  show Q (.bl (true != decide (a = b))) h = _
  rw [Bool.true_bne]
theorem sh_int {i : Int} : SeqAt.shaped (.int i) = true := by simp [SeqAt.shaped, PyData.canLay0, PyData.depth]
theorem sh_bool {i : Bool} : SeqAt.shaped (.bool i) = true := by simp [SeqAt.shaped, PyData.canLay0, PyData.depth]
theorem sh_none : SeqAt.shaped .none = true := by simp [SeqAt.shaped, PyData.canLay0, PyData.depth]
theorem o_eqD {n : Bool} {x y : PV} {d e : PyData} (h1 : dat h x = some d) (h2 : dat h y = some e) (s1 : SeqAt.shaped d = true) (s2 : SeqAt.shaped e = true) (hs : ∀ a b, x = .str a → y ≠ .str b) : opEq n x y h Q = Q (.bl (n != PyData.eqv d e)) h := by
  have key : opEq n x y h Q = ∃ d e, dat h x = some d ∧ dat h y = some e ∧ SeqAt.shaped d = true ∧ SeqAt.shaped e = true ∧ Q (.bl (n != PyData.eqv d e)) h := by
    cases x <;> first | rfl | (cases y <;> first | rfl | exact (hs _ _ rfl rfl).elim)
  rw [key, h1, h2]
  apply propext
  constructor
  · rintro ⟨_, _, e1, e2, _, _, q⟩
    cases e1; cases e2; exact q
  · exact fun q => ⟨_, _, rfl, rfl, s1, s2, q⟩
@[simp] theorem o_eqI {i j} : cmpOp .eq (.int i) (.int j) h Q = Q (.bl (i == j)) h := by
  rw [show cmpOp .eq = opEq false from rfl, o_eqD (d := .int i) (e := .int j) rfl rfl sh_int sh_int (fun _ _ z => by cases z), Bool.false_bne]
  rfl
@[simp] theorem o_neI {i j} : cmpOp .ne (.int i) (.int j) h Q = Q (.bl (i != j)) h := by
  rw [show cmpOp .ne = opEq true from rfl, o_eqD (d := .int i) (e := .int j) rfl rfl sh_int sh_int (fun _ _ z => by cases z), Bool.true_bne]
  rfl
@[simp] theorem o_eqB {i j} : cmpOp .eq (.bl i) (.bl j) h Q = Q (.bl (i == j)) h := by
  rw [show cmpOp .eq = opEq false from rfl, o_eqD (d := .bool i) (e := .bool j) rfl rfl sh_bool sh_bool (fun _ _ z => by cases z), Bool.false_bne]
  rfl
@[simp] theorem o_neB {i j} : cmpOp .ne (.bl i) (.bl j) h Q = Q (.bl (i != j)) h := by
  rw [show cmpOp .ne = opEq true from rfl, o_eqD (d := .bool i) (e := .bool j) rfl rfl sh_bool sh_bool (fun _ _ z => by cases z), Bool.true_bne]
  rfl
@[simp] theorem o_eqEL {xs} : cmpOp .eqE (.lst xs) (.lst []) h Q = Q (.bl xs.isEmpty) h := by
  show (∃ ys, some xs = some ys ∧ Q (.bl (false != ys.isEmpty)) h) = _
  simp
@[simp] theorem o_neEL {xs} : cmpOp .neE (.lst xs) (.lst []) h Q = Q (.bl (!xs.isEmpty)) h := by
  show (∃ ys, some xs = some ys ∧ Q (.bl (true != ys.isEmpty)) h) = _
  simp
@[simp] theorem o_eqER {p} : cmpOp .eqE (.ref p) (.lst []) h Q = ∃ xs, h p = some (.lst xs) ∧ Q (.bl xs.isEmpty) h := by
  show (∃ ys, asLst h (.ref p) = some ys ∧ Q (.bl (false != ys.isEmpty)) h) = _
  apply propext
  constructor
  · rintro ⟨xs, e, q⟩
    obtain ⟨ys, e2, e3⟩ := asLst_ref.mp e
    subst e3
    exact ⟨_, e2, by simpa using q⟩
  · rintro ⟨xs, e, q⟩
    exact ⟨xs, asLst_ref.mpr ⟨xs, e, rfl⟩, by simpa using q⟩
@[simp] theorem o_neER {p} : cmpOp .neE (.ref p) (.lst []) h Q = ∃ xs, h p = some (.lst xs) ∧ Q (.bl (!xs.isEmpty)) h := by
  show (∃ ys, asLst h (.ref p) = some ys ∧ Q (.bl (true != ys.isEmpty)) h) = _
  apply propext
  constructor
  · rintro ⟨xs, e, q⟩
    obtain ⟨ys, e2, e3⟩ := asLst_ref.mp e
    subst e3
    exact ⟨_, e2, by simpa using q⟩
  · rintro ⟨xs, e, q⟩
    exact ⟨xs, asLst_ref.mpr ⟨xs, e, rfl⟩, by simpa using q⟩
@[simp] theorem o_eqET {xs} : cmpOp .eqE (.tup xs) (.tup []) h Q = Q (.bl xs.isEmpty) h := by
  show Q (.bl (false != xs.isEmpty)) h = _
  rw [Bool.false_bne]
@[simp] theorem o_neET {xs} : cmpOp .neE (.tup xs) (.tup []) h Q = Q (.bl (!xs.isEmpty)) h := by
  show Q (.bl (true != xs.isEmpty)) h = _
  rw [Bool.true_bne]
@[simp] theorem o_tru {b k} : truP h (.bl b) k = (k = b) := rfl
@[simp] theorem o_truI {i k} : truP h (.int i) k = (k = (i != 0)) := rfl
@[simp] theorem o_abs {m i} : biOp m .abs [.int i] h Q = Q (.int i.natAbs) h := rfl
@[simp] theorem o_intI {m i} : biOp m .int [.int i] h Q = Q (.int i) h := rfl
@[simp] theorem o_intB {m b} : biOp m .int [.bl b] h Q = Q (.int (if b then 1 else 0)) h := rfl
@[simp] theorem o_min {m i j} : biOp m .min [.int i, .int j] h Q = Q (.int (min i j)) h := rfl
@[simp] theorem o_max {m i j} : biOp m .max [.int i, .int j] h Q = Q (.int (max i j)) h := rfl
theorem o_lenD {m x ys} (e : asSeq h x = some ys) : biOp m .len [x] h Q = Q (.int ys.length) h := by
  have key : biOp m .len [x] h Q = ∃ ys, asSeq h x = some ys ∧ Q (.int ys.length) h := by
    cases x <;> first | rfl | cases e
  rw [key, e]
  simp
@[simp] theorem o_lenT {m xs} : biOp m .len [.tup xs] h Q = Q (.int xs.length) h := o_lenD rfl
@[simp] theorem o_lenL {m xs} : biOp m .len [.lst xs] h Q = Q (.int xs.length) h := o_lenD rfl
@[simp] theorem o_lenW {m xs} : biOp m .len [.scr xs] h Q = Q (.int xs.length) h := o_lenD rfl
@[simp] theorem o_lenSt {m z} : biOp m .len [.str z] h Q = (z.length ≤ sizeLine ∧ Q (.int z.length) h) := rfl
theorem o_tupleD {m x ys} (e : asSeq h x = some ys) : biOp m .tuple [x] h Q = Q (.tup ys) h := by
  show (∃ ys, asSeq h x = some ys ∧ Q (.tup ys) h) = _
  rw [e]
  simp
@[simp] theorem o_tupleT {m xs} : biOp m .tuple [.tup xs] h Q = Q (.tup xs) h := o_tupleD rfl
@[simp] theorem o_tupleL {m xs} : biOp m .tuple [.lst xs] h Q = Q (.tup xs) h := o_tupleD rfl
theorem o_sumD {m x} {ns : List Int} (e : asLstW h x = some (ns.map .int)) : biOp m .sum [x] h Q = Q (.int ns.sum) h := by
  show (∃ ns : List Int, asLstW h x = some (ns.map .int) ∧ Q (.int ns.sum) h) = _
  rw [e]
  apply propext
  constructor
  · rintro ⟨ms, e2, q⟩
    have : ns = ms := by
      exact map_inj (fun _ _ z => PV.int.inj z) (Option.some.inj e2)
    rw [this]; exact q
  · exact fun q => ⟨ns, rfl, q⟩
@[simp] theorem o_sumL {m} {ns : List Int} : biOp m .sum [.lst (ns.map .int)] h Q = Q (.int ns.sum) h := o_sumD rfl
@[simp] theorem o_allL {m} {bs : List Bool} : biOp m .all [.lst (bs.map .bl)] h Q = Q (.bl (bs.all id)) h := by
  show (∃ ns : List Bool, asLstW h (.lst (bs.map .bl)) = some (ns.map .bl) ∧ Q (.bl (ns.all id)) h) = _
  apply propext
  constructor
  · rintro ⟨ms, e2, q⟩
    have : bs = ms := map_inj (fun _ _ z => PV.bl.inj z) (Option.some.inj e2)
    rw [this]; exact q
  · exact fun q => ⟨bs, rfl, q⟩
@[simp] theorem o_anyL {m} {bs : List Bool} : biOp m .any [.lst (bs.map .bl)] h Q = Q (.bl (bs.any id)) h := by
  show (∃ ns : List Bool, asLstW h (.lst (bs.map .bl)) = some (ns.map .bl) ∧ Q (.bl (ns.any id)) h) = _
  apply propext
  constructor
  · rintro ⟨ms, e2, q⟩
    have : bs = ms := map_inj (fun _ _ z => PV.bl.inj z) (Option.some.inj e2)
    rw [this]; exact q
  · exact fun q => ⟨bs, rfl, q⟩
theorem o_repr {m x d} (e : dat h x = some d) (s : Shw d) (q : Q (.str d.shown) h) : biOp m .repr [x] h Q := ⟨d, e, s, q⟩
@[simp] theorem sz_line : sizeLine = 16777216 := by decide
/-! ### parts -/
theorem atI_nat {α : Type} {xs : List α} {i : Int} {n : Nat} (e : i = n) (hn : n < xs.length) : L2.atI xs i = xs[n]? := by
  subst e
  unfold L2.atI L2.ixN
  rw [if_pos (by omega), if_pos (by omega)]
  rfl
@[simp] theorem atI_0 {α : Type} {x : α} {xs : List α} : L2.atI (x :: xs) 0 = some x := (atI_nat (i := 0) (n := 0) rfl (by simp)).trans rfl
@[simp] theorem atI_1 {α : Type} {x y : α} {xs : List α} : L2.atI (x :: y :: xs) 1 = some y := (atI_nat (i := 1) (n := 1) rfl (by simp)).trans rfl
@[simp] theorem atI_2 {α : Type} {x y z : α} {xs : List α} : L2.atI (x :: y :: z :: xs) 2 = some z := (atI_nat (i := 2) (n := 2) rfl (by simp)).trans rfl
@[simp] theorem atI_3 {α : Type} {x y z u : α} {xs : List α} : L2.atI (x :: y :: z :: u :: xs) 3 = some u := (atI_nat (i := 3) (n := 3) rfl (by simp)).trans rfl
theorem o_ixD {x i xs v} (e : asSeq h x = some xs) (ev : L2.atI xs i = some v) : opIx x (.int i) h Q = Q v h := by
  have key : opIx x (.int i) h Q = ∃ xs v, asSeq h x = some xs ∧ L2.atI xs i = some v ∧ Q v h := by
    cases x <;> first | rfl | cases e
  rw [key]
  apply propext
  constructor
  · rintro ⟨_, _, e1, e2, q⟩
    rw [e] at e1; cases e1
    rw [ev] at e2; cases e2
    exact q
  · exact fun q => ⟨_, _, e, ev, q⟩
@[simp] theorem o_ixT {i xs} : opIx (.tup xs) (.int i) h Q = ∃ v, L2.atI xs i = some v ∧ Q v h := by
  show (∃ xs' v, some xs = some xs' ∧ L2.atI xs' i = some v ∧ Q v h) = _
  simp
@[simp] theorem o_ixL {i xs} : opIx (.lst xs) (.int i) h Q = ∃ v, L2.atI xs i = some v ∧ Q v h := by
  show (∃ xs' v, some xs = some xs' ∧ L2.atI xs' i = some v ∧ Q v h) = _
  simp
@[simp] theorem o_ixR {p i} : opIx (.ref p) (.int i) h Q = ∃ xs, h p = some (.lst xs) ∧ ∃ v, L2.atI xs i = some v ∧ Q v h := by
  show (∃ xs' v, asLst h (.ref p) = some xs' ∧ L2.atI xs' i = some v ∧ Q v h) = _
  apply propext
  constructor
  · rintro ⟨xs, v, e, q⟩
    obtain ⟨ys, e2, e3⟩ := asLst_ref.mp e
    subst e3
    exact ⟨_, e2, v, q⟩
  · rintro ⟨xs, e, v, q⟩
    exact ⟨xs, v, asLst_ref.mpr ⟨xs, e, rfl⟩, q⟩
@[simp] theorem o_setR {p i v} {Q : MH → Prop} : setOp (.ref p) (.int i) v h Q = ∃ xs, h p = some (.lst xs) ∧ ∃ j, L2.ixN xs.length i = some j ∧ Q (mupd h p (.lst (xs.set j v))) := by
  show (∃ xs' j, h p = some (.lst xs') ∧ L2.ixN xs'.length i = some j ∧ Q (mupd h p (.lst (xs'.set j v)))) = _
  apply propext
  constructor
  · rintro ⟨xs, j, e, q⟩; exact ⟨xs, e, j, q⟩
  · rintro ⟨xs, e, j, q⟩; exact ⟨xs, j, e, q⟩
@[simp] theorem o_lenR {m p} : biOp m .len [.ref p] h Q = ∃ xs, h p = some (.lst xs) ∧ Q (.int xs.length) h := by
  show (∃ ys, asLst h (.ref p) = some ys ∧ Q (.int ys.length) h) = _
  apply propext
  constructor
  · rintro ⟨xs, e, q⟩
    obtain ⟨ys, e2, e3⟩ := asLst_ref.mp e
    subst e3
    exact ⟨_, e2, q⟩
  · rintro ⟨xs, e, q⟩
    exact ⟨xs, asLst_ref.mpr ⟨xs, e, rfl⟩, q⟩
@[simp] theorem o_tupleR {m p} : biOp m .tuple [.ref p] h Q = ∃ xs, h p = some (.lst xs) ∧ Q (.tup xs) h := by
  show (∃ ys, asLst h (.ref p) = some ys ∧ Q (.tup ys) h) = _
  apply propext
  constructor
  · rintro ⟨xs, e, q⟩
    obtain ⟨ys, e2, e3⟩ := asLst_ref.mp e
    subst e3
    exact ⟨_, e2, q⟩
  · rintro ⟨xs, e, q⟩
    exact ⟨xs, asLst_ref.mpr ⟨xs, e, rfl⟩, q⟩
@[simp] theorem o_refL {p} : isRefL h (.ref p) = ∃ xs, h p = some (.lst xs) := rfl
@[simp] theorem o_appR {p y} : meOp .append (.ref p) [y] h Q = ∃ xs, h p = some (.lst xs) ∧ xs.length < sizeLine ∧ Q .non (mupd h p (.lst (xs ++ [y]))) := rfl
@[simp] theorem o_popR {p} : meOp .pop (.ref p) [] h Q = ∃ xs y, h p = some (.lst xs) ∧ xs[xs.length - 1]? = some y ∧ Q y (mupd h p (.lst xs.dropLast)) := rfl
@[simp] theorem o_extR {p q} : meOp .extend (.ref p) [.ref q] h Q = ∃ xs ys, h p = some (.lst xs) ∧ h q = some (.lst ys) ∧ xs.length + ys.length ≤ sizeLine ∧ Q .non (mupd h p (.lst (xs ++ ys))) := by
  show (∃ xs q' ys, h p = some (.lst xs) ∧ PV.ref q = .ref q' ∧ h q' = some (.lst ys) ∧ xs.length + ys.length ≤ sizeLine ∧ Q .non (mupd h p (.lst (xs ++ ys)))) = _
  apply propext
  constructor
  · rintro ⟨xs, q', ys, e, e2, z⟩; cases e2; exact ⟨xs, ys, e, z⟩
  · rintro ⟨xs, ys, e, z⟩; exact ⟨xs, q, ys, e, rfl, z⟩
@[simp] theorem o_slT {m xs lo hi} : opSl m (.tup xs) lo hi h Q = Q (.tup (cutP xs lo hi)) h := rfl
@[simp] theorem o_slW {m xs lo hi} : opSl m (.scr xs) lo hi h Q = allocL m (cutP xs lo hi) h Q := by
  show (∃ ys, some xs = some ys ∧ allocL m (cutP ys lo hi) h Q) = _
  simp
@[simp] theorem o_slL {m xs lo hi} : opSl m (.lst xs) lo hi h Q = allocL m (cutP xs lo hi) h Q := by
  show (∃ ys, some xs = some ys ∧ allocL m (cutP ys lo hi) h Q) = _
  simp
@[simp] theorem o_itT {xs} : itemsOf h (.tup xs) = some xs := rfl
@[simp] theorem o_itL {xs} : itemsOf h (.lst xs) = some xs := rfl
@[simp] theorem o_itW {xs} : itemsOf h (.scr xs) = some xs := rfl
@[simp] theorem o_itR {p xs} : itemsOf h (.ref p) = some xs ↔ h p = some (.lst xs) := by
  show asLst h (.ref p) = some xs ↔ _
  constructor
  · intro e
    obtain ⟨ys, e2, e3⟩ := asLst_ref.mp e
    subst e3; exact e2
  · exact fun e => asLst_ref.mpr ⟨xs, e, rfl⟩
@[simp] theorem o_kpT {xs ys} : keepOf (.tup xs) ys = fun _ => True := rfl
@[simp] theorem o_kpL {xs ys} : keepOf (.lst xs) ys = fun _ => True := rfl
@[simp] theorem o_kpW {xs ys} : keepOf (.scr xs) ys = fun _ => True := rfl
@[simp] theorem o_kpR {p ys} : keepOf (.ref p) ys = fun h => h p = some (.lst ys) := rfl
@[simp] theorem al_f {xs} : allocL false xs h Q = Q (.lst xs) h := rfl
@[simp] theorem al_t {xs} : allocL true xs h Q = ∀ p, h p = none → Q (.ref p) (mupd h p (.lst xs)) := rfl
@[simp] theorem set_name {i x} : ST.set (.name i) x ρ = some (ρ.set i (some x)) := rfl
@[simp] theorem set_lst {ts xs} : ST.set (.tup ts) (.lst xs) ρ = ts.set xs ρ := rfl
@[simp] theorem set_tup {ts xs} : ST.set (.tup ts) (.tup xs) ρ = ts.set xs ρ := rfl
@[simp] theorem set_nil : STs.set .nil [] ρ = some ρ := rfl
@[simp] theorem set_cons {t ts x xs} : STs.set (.cons t ts) (x :: xs) ρ = (t.set x ρ).bind fun ρ' => ts.set xs ρ' := rfl
@[simp] theorem mupd_mm {p : Addr} {a b : MO} : mupd (mupd h p a) p b = mupd h p b := mupd_mupd
@[simp] theorem mupd_at {p : Addr} {a : MO} : mupd h p a p = some a := mupd_same
end
/-! ### comprehensions of any number of fors -/
section
variable {G : Ctx} {gl : Str → PV} {ρ : Env} {h : MH} {Q : PK} {ex : Env → XV}
theorem x_compN {m own t it cond cs elt} : wpE G gl ex (.compN m own t it cond cs elt) ρ h Q = wCl (wpE G gl (fun _ => noX) elt) (⟨wpW G gl ex it, t, wpB G gl (fun _ => noX) cond, own.map (·.2)⟩ :: wpCs G gl cs) ρ h [] fun acc h2 => allocL m acc h2 Q := rfl
theorem cl_nil {we : WE} {acc : List PV} {K : List PV → MH → Prop} (hw : we ρ h fun y h' => acc.length < sizeLine ∧ K (acc ++ [y]) h') : wCl we [] ρ h acc K := hw
theorem cl_mapT {α : Type} {we : WE} {c : ClW} {cs : List ClW} (ts : List α) (enc : α → PV) (kp : MH → Prop) (f : α → List PV) {acc : List PV} {K : List PV → MH → Prop} (hI : ∀ Q : Items → MH → Prop, Q ⟨ts.map enc, kp⟩ h → c.wi ρ h Q) (hk : kp h)
    (hz : acc.length + (ts.flatMap f).length ≤ sizeLine)
    (step : ∀ x ∈ ts, ∀ (acc : List PV) (K : List PV → MH → Prop), acc.length + (f x).length ≤ sizeLine → K (acc ++ f x) h → ∃ ρ2, c.t.set (enc x) (wipeE ρ c.vs) = some ρ2 ∧ c.wt ρ2 h fun b h3 => if b = true then wCl we cs ρ2 h3 acc K else K acc h3)
    (hK : K (acc ++ ts.flatMap f) h) : wCl we (c :: cs) ρ h acc K := by
  refine hI _ ⟨fun i acc' h' => h = h' ∧ acc' = acc ++ (ts.take i).flatMap f, ⟨rfl, by simp⟩, ?_, ?_⟩
  · rintro i x acc' h' hx ⟨rfl, rfl⟩
    rw [List.getElem?_map] at hx
    obtain ⟨y, hy, rfl⟩ := Option.map_eq_some_iff.mp hx
    obtain ⟨hi, ey⟩ := List.getElem?_eq_some_iff.mp hy
    have e : ts.take (i + 1) = ts.take i ++ [y] := by rw [List.take_succ_eq_append_getElem hi, ey]
    have hz2 : (acc ++ (ts.take i).flatMap f).length + (f y).length ≤ sizeLine := by
      have z : (ts.flatMap f).length = ((ts.take (i + 1)).flatMap f).length + ((ts.drop (i + 1)).flatMap f).length := by
        rw [← List.length_append, ← List.flatMap_append, List.take_append_drop]
      rw [e, List.flatMap_append, List.length_append] at z
      simp only [List.flatMap_cons, List.flatMap_nil, List.append_nil] at z
      rw [List.length_append]
      omega
    refine ⟨hk, step y (List.mem_of_getElem? hy) _ _ hz2 ⟨rfl, ?_⟩⟩
    rw [e, List.flatMap_append, List.append_assoc]
    simp
  · rintro acc' h' ⟨rfl, rfl⟩
    refine ⟨hk, ?_⟩
    rw [List.length_map, List.take_length]
    exact hK
theorem adds_mem {S : Int → Bool} {n : Nat} {k : Int} (ks : List Int) : adds S n (k :: ks) = adds (fun j => S j || decide (j = k)) (if S k = true then n else n + 1) ks := rfl
/-- three different ints -/
theorem card3 {x y z : Int} : (setCard [x, y, z] = 3) ↔ (x ≠ y ∧ x ≠ z ∧ y ≠ z) := by
  unfold setCard
  simp only [adds, Bool.false_eq_true, if_false, Bool.false_or, Bool.or_eq_true, decide_eq_true_eq]
  constructor
  · intro h
    refine ⟨fun e => ?_, fun e => ?_, fun e => ?_⟩
    · subst e
      simp only [if_true] at h
      split at h <;> omega
    · subst e
      simp only [true_or, if_true] at h
      split at h <;> omega
    · subst e
      simp only [or_true, if_true] at h
      split at h <;> omega
  · rintro ⟨h1, h2, h3⟩
    rw [if_neg (fun e => Or.elim e (fun e => h2 e.symm) (fun e => h3 e.symm)), if_neg (fun e => h1 e.symm)]
end
end Ev

set_option Elab.async false
set_option linter.all false
set_option maxRecDepth 100000
set_option maxHeartbeats 4000000
/-! Ev16: promises by levels; the laws' own draws. -/
namespace Ev
open PySem PySem.Spec PyProof.Rows L2
/-- a promise that may be weakened -/
structure SpM where
  run : Spec
  mono : ∀ as h (P Q : PK) (R T : XV), (∀ x h, P x h → Q x h) → (∀ c fs h, R c fs h → T c fs h) → run as h P R → run as h Q T
/-- the promises of a module's defs: each from its level on -/
def mkCtx (sp : List (Str × Nat × SpM)) (k : Nat) : Ctx where
  fn := fun f as h Q R => ∃ e, sp.lookup f = some e ∧ e.1 ≤ k ∧ 0 < e.1 ∧ e.2.run as h Q R
  mono := fun f as h P Q R T k1 k2 ⟨e, e1, e2, e3, e4⟩ => ⟨e, e1, e2, e3, e.2.mono as h P Q R T k1 k2 e4⟩
theorem ctx_call {sp : List (Str × Nat × SpM)} {k n : Nat} {f : Str} {s : SpM} (e : sp.lookup f = some (n + 1, s)) {as h Q R} : (mkCtx sp k).fn f as h Q R = (n < k ∧ s.run as h Q R) := by
  apply propext
  constructor
  · rintro ⟨e2, e1, z, _, q⟩
    rw [e] at e1; cases e1
    exact ⟨z, q⟩
  · rintro ⟨z, q⟩
    exact ⟨_, e, z, Nat.succ_pos _, q⟩
theorem ctx_zero {sp : List (Str × Nat × SpM)} {f : Str} {as h Q R} : (mkCtx sp 0).fn f as h Q R → False := by
  rintro ⟨e, _, h1, h2, _⟩
  omega

/-- promises that tell of the level themselves (defs that call themselves) -/
def mkCtxR (sp : List (Str × (Nat → SpM))) (k : Nat) : Ctx where
  fn := fun f as h Q R => ∃ e, sp.lookup f = some e ∧ 0 < k ∧ (e k).run as h Q R
  mono := fun f as h P Q R T k1 k2 ⟨e, e1, e2, e3⟩ => ⟨e, e1, e2, (e k).mono as h P Q R T k1 k2 e3⟩
  fn1 := fun f as h Q R => ∃ e, sp.lookup f = some e ∧ 0 < k - 1 ∧ (e (k - 1)).run as h Q R
  mono1 := fun f as h P Q R T k1 k2 ⟨e, e1, e2, e3⟩ => ⟨e, e1, e2, (e (k - 1)).mono as h P Q R T k1 k2 e3⟩
theorem ctxR_one {sp : List (Str × (Nat → SpM))} (j : Nat) : (mkCtxR sp (j + 1)).fn1 = (mkCtxR sp j).fn := rfl
theorem ctxR_one0 {sp : List (Str × (Nat → SpM))} {f : Str} {as h Q R} : (mkCtxR sp 0).fn1 f as h Q R → False := by
  rintro ⟨e, _, h1, _⟩
  omega
/-- from level n + 1 on -/
def lev (n : Nat) (s : SpM) (k : Nat) : SpM where
  run := fun as h Q R => n < k ∧ s.run as h Q R
  mono := fun as h P Q R T k1 k2 ⟨e, z⟩ => ⟨e, s.mono as h P Q R T k1 k2 z⟩
theorem ctxR_lev {sp : List (Str × (Nat → SpM))} {k n : Nat} {f : Str} {s : SpM} (e : sp.lookup f = some (lev n s)) {as h Q R} : (mkCtxR sp k).fn f as h Q R = (n < k ∧ s.run as h Q R) := by
  apply propext
  constructor
  · rintro ⟨e2, e1, _, q⟩
    rw [e] at e1; cases e1
    exact q
  · rintro ⟨z, q⟩
    exact ⟨_, e, by omega, z, q⟩
theorem ctxR_lev1 {sp : List (Str × (Nat → SpM))} {k n : Nat} {f : Str} {s : SpM} (e : sp.lookup f = some (lev n s)) {as h Q R} : (mkCtxR sp k).fn1 f as h Q R = (n < k - 1 ∧ s.run as h Q R) := by
  apply propext
  constructor
  · rintro ⟨e2, e1, _, q⟩
    rw [e] at e1; cases e1
    exact q
  · rintro ⟨z, q⟩
    exact ⟨_, e, by omega, z, q⟩
theorem ctxR_rec {sp : List (Str × (Nat → SpM))} {k : Nat} {f : Str} {s : Nat → SpM} (e : sp.lookup f = some s) {as h Q R} : (mkCtxR sp k).fn f as h Q R = (0 < k ∧ (s k).run as h Q R) := by
  apply propext
  constructor
  · rintro ⟨e2, e1, z, q⟩
    rw [e] at e1; cases e1
    exact ⟨z, q⟩
  · rintro ⟨z, q⟩
    exact ⟨_, e, z, q⟩
theorem ctxR_zero {sp : List (Str × (Nat → SpM))} {f : Str} {as h Q R} : (mkCtxR sp 0).fn f as h Q R → False := by
  rintro ⟨e, _, h1, _⟩
  omega
/-- a plain function of its values, told by the level too -/
def pureR (P : Nat → List PV → PV → Prop) (k : Nat) : SpM where
  run := fun as h Q _ => ∃ v, P k as v ∧ Q v h
  mono := fun as h P Q R T k _ ⟨v, e, q⟩ => ⟨v, e, k _ _ q⟩

/-! ### sides -/
theorem cmR {i j : Int} (h : -(2 ^ 64) < j ∧ j < 2 ^ 64) : CMul i j ∨ CMulW i j := .inl (.inr h)
theorem cmL {i j : Int} (h : -(2 ^ 64) < i ∧ i < 2 ^ 64) : CMul i j ∨ CMulW i j := .inl (.inl h)
theorem cdw {i j : Int} (h : 0 < j) (h2 : j < 2 ^ 64) : CDivW i j := by
  refine ⟨h, ?_⟩
  have h3 : j.natAbs ≠ 0 := by omega
  have h4 : j.natAbs < 2 ^ 64 := by omega
  have := (Nat.log2_lt h3).mpr h4
  omega

/-! ### what the laws draw from -/
def dr (a b c : Int) : MO := .lst [.int a, .int b, .int c]
def Dr (h : MH) (p : Addr) : Prop := ∃ a b c, h p = some (dr a b c) ∧ 0 ≤ a
section
variable {h : MH} {p q : Addr} {a b c : Int}
@[simp] theorem dr_at : Dr (mupd h p (dr a b c)) p ↔ 0 ≤ a := by
  constructor
  · rintro ⟨a', b', c', e, z⟩
    rw [mupd_same] at e
    unfold dr at e
    simp only [Option.some.injEq, MO.lst.injEq, List.cons.injEq, PV.int.injEq] at e
    omega
  · exact fun z => ⟨a, b, c, mupd_same, z⟩
theorem Dr.ne {o : MO} (d : Dr h p) (e : p ≠ q) : Dr (mupd h q o) p := by
  obtain ⟨a, b, c, e1, z⟩ := d
  exact ⟨a, b, c, by rw [mupd_ne e]; exact e1, z⟩
theorem Dr.some (d : Dr h p) : ∃ o, h p = some o := let ⟨_, _, _, e, _⟩ := d; ⟨_, e⟩
end
/-- a number below n is drawn -/
def spNext : SpM where
  run := fun as h Q _ => match as with
    | [.ref p, .int n] => Dr h p ∧ 0 < n ∧ n < 2 ^ 64 ∧ ∀ d a b c, 0 ≤ a → 0 ≤ d → d < n → Q (.int d) (mupd h p (dr a b c))
    | _ => False
  mono := by
    intro as h P Q R T k _
    split
    · exact fun ⟨h1, h2, h3, q⟩ => ⟨h1, h2, h3, fun d a b c z1 z2 z3 => k _ _ (q d a b c z1 z2 z3)⟩
    · exact id
/-- one of some items is drawn -/
def spOne : SpM where
  run := fun as h Q _ => match as with
    | [.ref p, x] => ∃ xs, (x = .lst xs ∨ x = .tup xs) ∧ Dr h p ∧ xs ≠ [] ∧ xs.length < 2 ^ 32 ∧ ∀ v a b c, 0 ≤ a → v ∈ xs → Q v (mupd h p (dr a b c))
    | _ => False
  mono := by
    intro as h P Q R T k _
    split
    · exact fun ⟨xs, e, h1, h2, h3, q⟩ => ⟨xs, e, h1, h2, h3, fun v a b c z1 z2 => k _ _ (q v a b c z1 z2)⟩
    · exact id
/-- the draws begin -/
def spDraws : SpM where
  run := fun as h Q _ => match as with
    | [.scr xs] => (∃ ns : List Int, xs = ns.map .int ∧ ns.length ≤ 63) ∧ ∀ p a b c, h p = none → 0 ≤ a → Q (.ref p) (mupd h p (dr a b c))
    | _ => False
  mono := by
    intro as h P Q R T k _
    split
    · exact fun ⟨e, q⟩ => ⟨e, fun p a b c z1 z2 => k _ _ (q p a b c z1 z2)⟩
    · exact id
section
variable {h : MH} {Q : PK} {R : XV} {p : Addr}
@[simp] theorem r_next {n} : spNext.run [.ref p, .int n] h Q R = (Dr h p ∧ 0 < n ∧ n < 2 ^ 64 ∧ ∀ d a b c, 0 ≤ a → 0 ≤ d → d < n → Q (.int d) (mupd h p (dr a b c))) := rfl
@[simp] theorem r_oneL {xs} : spOne.run [.ref p, .lst xs] h Q R = (Dr h p ∧ xs ≠ [] ∧ xs.length < 2 ^ 32 ∧ ∀ v a b c, 0 ≤ a → v ∈ xs → Q v (mupd h p (dr a b c))) := by
  show (∃ xs', (PV.lst xs = .lst xs' ∨ PV.lst xs = .tup xs') ∧ _) = _
  simp
@[simp] theorem r_oneT {xs} : spOne.run [.ref p, .tup xs] h Q R = (Dr h p ∧ xs ≠ [] ∧ xs.length < 2 ^ 32 ∧ ∀ v a b c, 0 ≤ a → v ∈ xs → Q v (mupd h p (dr a b c))) := by
  show (∃ xs', (PV.tup xs = .lst xs' ∨ PV.tup xs = .tup xs') ∧ _) = _
  simp
@[simp] theorem r_draws {xs} : spDraws.run [.scr xs] h Q R = ((∃ ns : List Int, xs = ns.map .int ∧ ns.length ≤ 63) ∧ ∀ p a b c, h p = none → 0 ≤ a → Q (.ref p) (mupd h p (dr a b c))) := rfl
theorem i_next {as} (hs : spNext.run as h Q R) : ∃ p n, as = [.ref p, .int n] ∧ Dr h p ∧ 0 < n ∧ n < 2 ^ 64 ∧ ∀ d a b c, 0 ≤ a → 0 ≤ d → d < n → Q (.int d) (mupd h p (dr a b c)) := by
  simp only [spNext] at hs
  split at hs
  · exact ⟨_, _, rfl, hs⟩
  · exact hs.elim
theorem i_one {as} (hs : spOne.run as h Q R) : ∃ p x xs, as = [.ref p, x] ∧ (x = .lst xs ∨ x = .tup xs) ∧ Dr h p ∧ xs ≠ [] ∧ xs.length < 2 ^ 32 ∧ ∀ v a b c, 0 ≤ a → v ∈ xs → Q v (mupd h p (dr a b c)) := by
  simp only [spOne] at hs
  split at hs
  · obtain ⟨xs, z⟩ := hs; exact ⟨_, _, xs, rfl, z⟩
  · exact hs.elim
theorem i_draws {as} (hs : spDraws.run as h Q R) : ∃ ns : List Int, as = [.scr (ns.map .int)] ∧ ns.length ≤ 63 ∧ ∀ p a b c, h p = none → 0 ≤ a → Q (.ref p) (mupd h p (dr a b c)) := by
  simp only [spDraws] at hs
  split at hs
  · obtain ⟨⟨ns, rfl, z⟩, q⟩ := hs; exact ⟨ns, rfl, z, q⟩
  · exact hs.elim
end
/-- a plain function of its values -/
def pureS (P : List PV → PV → Prop) : SpM where
  run := fun as h Q _ => ∃ v, P as v ∧ Q v h
  mono := fun as h P Q R T k _ ⟨v, e, q⟩ => ⟨v, e, k _ _ q⟩
/-- draws, then a value: of the arguments behind the drawn -/
def drawS (P : List PV → PV → Prop) (ok : List PV → Prop) : SpM where
  run := fun as h Q _ => match as with
    | .ref p :: as => Dr h p ∧ ok as ∧ ∀ v a b c, P as v → 0 ≤ a → Q v (mupd h p (dr a b c))
    | _ => False
  mono := by
    intro as h P Q R T k _
    split
    · exact fun ⟨h1, h2, q⟩ => ⟨h1, h2, fun v a b c z1 z2 => k _ _ (q v a b c z1 z2)⟩
    · exact id
theorem r_draw {P ok p as h Q R} : (drawS P ok).run (.ref p :: as) h Q R ↔ (Dr h p ∧ ok as ∧ ∀ v a b c, P as v → 0 ≤ a → Q v (mupd h p (dr a b c))) := Iff.rfl
theorem i_draw {P ok as h Q R} (hs : (drawS P ok).run as h Q R) : ∃ p bs, as = .ref p :: bs ∧ Dr h p ∧ ok bs ∧ ∀ v a b c, P bs v → 0 ≤ a → Q v (mupd h p (dr a b c)) := by
  simp only [drawS] at hs
  split at hs
  · exact ⟨_, _, rfl, hs⟩
  · exact hs.elim
/-! ### rows that may be changed: m of them, n long -/
def Rows (h : MH) (q : Addr) (m n : Nat) (qs : List Addr) : Prop := h q = some (.lst (qs.map .ref)) ∧ qs.length = m ∧ ∀ p ∈ qs, p ≠ q ∧ ∃ r : List Int, h p = some (.lst (r.map .int)) ∧ r.length = n
theorem Rows.row {h : MH} {q : Addr} {m n : Nat} {qs : List Addr} (hr : Rows h q m n qs) {i : Nat} (h0 : i < m) : ∃ (p : Addr) (r : List Int), p ∈ qs ∧ L2.atI (qs.map PV.ref) i = some (.ref p) ∧ h p = some (.lst (r.map .int)) ∧ r.length = n := by
  obtain ⟨_, hl, hp⟩ := hr
  have hi : i < qs.length := by omega
  obtain ⟨_, r, e, l⟩ := hp qs[i] (List.getElem_mem hi)
  refine ⟨qs[i], r, List.getElem_mem hi, ?_, e, l⟩
  rw [atI_nat (n := i) rfl (by simpa using hi), List.getElem?_map, List.getElem?_eq_getElem hi]
  rfl
theorem at_int {r : List Int} {i : Nat} (h0 : i < r.length) : L2.atI (r.map PV.int) i = some (.int (r.getD i 0)) := by
  rw [atI_nat (n := i) rfl (by simpa using h0), List.getElem?_map, List.getD_eq_getElem?_getD, List.getElem?_eq_getElem h0]
  rfl
theorem ixN_nat {n i : Nat} (h0 : i < n) : L2.ixN n (i : Int) = some i := by
  unfold L2.ixN
  rw [if_pos (by omega), if_pos (by omega)]
  simp
theorem Rows.set {h : MH} {q : Addr} {m n : Nat} {qs : List Addr} {p : Addr} {r : List Int} (hr : Rows h q m n qs) (hp : p ∈ qs) (hl : r.length = n) : Rows (mupd h p (.lst (r.map .int))) q m n qs := by
  obtain ⟨e, hl2, ha⟩ := hr
  refine ⟨by rw [mupd_ne (Ne.symm (ha p hp).1)]; exact e, hl2, fun p' hp' => ⟨(ha p' hp').1, ?_⟩⟩
  by_cases z : p' = p
  · subst z; exact ⟨r, mupd_same, hl⟩
  · rw [mupd_ne z]; exact (ha p' hp').2
theorem Rows.other {h : MH} {q : Addr} {m n : Nat} {qs : List Addr} {p : Addr} {o : MO} (hr : Rows h q m n qs) (h1 : p ≠ q) (h2 : p ∉ qs) : Rows (mupd h p o) q m n qs :=
  ⟨by rw [mupd_ne (Ne.symm h1)]; exact hr.1, hr.2.1, fun p' hp' => ⟨(hr.2.2 p' hp').1, by rw [mupd_ne (show p' ≠ p from fun e => h2 (e ▸ hp'))]; exact (hr.2.2 p' hp').2⟩⟩
theorem Rows.add {h : MH} {q p : Addr} {m n : Nat} {qs : List Addr} {r : List Int} (hr : Rows h q m n qs) (hp : h p = some (.lst (r.map .int))) (hl : r.length = n) (hq : p ≠ q) : Rows (mupd h q (.lst ((qs ++ [p]).map .ref))) q (m + 1) n (qs ++ [p]) := by
  refine ⟨mupd_same, by rw [List.length_append, hr.2.1]; rfl, fun p' hp' => ?_⟩
  rcases List.mem_append.mp hp' with z | z
  · obtain ⟨z1, z2⟩ := hr.2.2 p' z
    exact ⟨z1, by rw [mupd_ne z1]; exact z2⟩
  · cases List.mem_singleton.mp z
    exact ⟨hq, r, by rw [mupd_ne hq]; exact hp, hl⟩
/-! ### a heap that grows, the drawn goes on -/
def Kp (p : Addr) (h h' : MH) : Prop := Dr h' p ∧ ∀ b o, b ≠ p → h b = some o → h' b = some o
section
variable {p q : Addr} {h h1 h2 : MH} {a b c : Int} {Q : PK} {v : PV} {o : MO}
theorem Kp.refl (d : Dr h p) : Kp p h h := ⟨d, fun _ _ _ e => e⟩
theorem Kp.trans (k : Kp p h h1) (k2 : Kp p h1 h2) : Kp p h h2 := ⟨k2.1, fun b o n e => k2.2 b o n (k.2 b o n e)⟩
theorem Kp.dr (k : Kp p h h1) (ha : 0 ≤ a) : Kp p h (mupd h1 p (dr a b c)) := ⟨dr_at.mpr ha, fun b' o n e => by rw [mupd_ne n]; exact k.2 b' o n e⟩
theorem Kp.of (ha : 0 ≤ a) : Kp p h (mupd h p (Ev.dr a b c)) := ⟨dr_at.mpr ha, fun b' o n e => by rw [mupd_ne n]; exact e⟩
theorem Kp.upd (k : Kp p h h1) (hq : h q = none) (n : p ≠ q) : Kp p h (mupd h1 q o) := ⟨k.1.ne n, fun b' o n2 e => by
  by_cases z : b' = q
  · subst z; rw [hq] at e; cases e
  · rw [mupd_ne z]; exact k.2 b' o n2 e⟩
theorem Dr.neq (d : Dr h p) (hq : h q = none) : p ≠ q := fun e => by
  obtain ⟨_, _, _, e2, _⟩ := d
  rw [e, hq] at e2; cases e2
theorem Kp.none (k : Kp p h h1) (hq : h1 q = none) (n : p ≠ q) : h q = none := by
  cases z : h q with
  | none => rfl
  | some o => rw [k.2 q o (Ne.symm n) z] at hq; cases hq
theorem Kp.ret (k : Kp p h h1) (hq : ∀ a b c, 0 ≤ a → Q v (mupd h p (Ev.dr a b c))) : Rt Q v h1 := by
  obtain ⟨⟨a, b, c, e, z⟩, k2⟩ := k
  refine ⟨_, fun b' o e2 => ?_, hq a b c z⟩
  by_cases n : b' = p
  · subst n; rw [mupd_same] at e2; cases e2; exact e
  · rw [mupd_ne n] at e2; exact k2 b' o n e2
end
/-! ### data of a fair size -/
structure Fit (k w : Nat) (d : PyData) : Prop where
  lay : d.canLay0 = true
  dep : d.depth ≤ k
  wt : d.weight ≤ w
  sh : d.intsShort 13 = true
  shw : d.showable = true
structure FitAll (k w : Nat) (ds : List PyData) : Prop where
  lay : PyData.canLayAll0 ds = true
  dep : PyData.depthAll ds ≤ k
  wt : PyData.weightAll ds ≤ w
  sh : PyData.intsShortAll 13 ds = true
  shw : PyData.showableAll ds = true
theorem Fit.mono {k w k' w' : Nat} {d : PyData} (f : Fit k w d) (h1 : k ≤ k') (h2 : w ≤ w') : Fit k' w' d := ⟨f.lay, Nat.le_trans f.dep h1, Nat.le_trans f.wt h2, f.sh, f.shw⟩
theorem Fit.non : Fit 0 0 .none := ⟨by simp [PyData.canLay0], by simp [PyData.depth], by simp [PyData.weight], by simp [PyData.intsShort], by simp [PyData.showable]⟩
theorem Fit.bl {b : Bool} : Fit 0 0 (.bool b) := ⟨by simp [PyData.canLay0], by simp [PyData.depth], by simp [PyData.weight], by simp [PyData.intsShort], by simp [PyData.showable]⟩
theorem int_short {i : Int} (h0 : -(10 ^ 12) < i) (h1 : i < 10 ^ 12) : (PyData.shown (.int i)).length ≤ 13 := by
  show (Str.ofString (toString i)).length ≤ 13
  by_cases z : 0 ≤ i
  · exact Nat.le_trans (PyProof.Rows.toString_length_le z (k := 12) (by decide) h1) (by decide)
  · have e := PyProof.Rows.toString_neg (n := i) (by omega)
    have l := PyProof.Rows.toString_length_le (v := 0 - i) (by omega) (k := 12) (by decide) (by omega)
    rw [PyProof.Rows.ofString_length] at l ⊢
    rw [e, String.toList_append, List.length_append]
    have : ("-" : String).toList.length = 1 := by decide
    omega
theorem log_lt {n k : Nat} (h : n < 2 ^ k) (hk : 0 < k) : n.log2 < k := by
  by_cases z : n = 0
  · subst z; exact hk
  · exact (Nat.log2_lt z).mpr h
theorem Fit.int {i : Int} (h0 : -(10 ^ 12) < i) (h1 : i < 10 ^ 12) : Fit 0 41 (.int i) := by
  have l : i.natAbs.log2 < 40 := log_lt (by omega) (by decide)
  refine ⟨by simp [PyData.canLay0], by simp [PyData.depth], ?_, ?_, ?_⟩
  · simp only [PyData.weight]
    split <;> omega
  · simp only [PyData.intsShort, decide_eq_true_eq]
    exact int_short h0 h1
  · simp only [PyData.showable, decide_eq_true_eq]
    omega
theorem Fit.str {x : Str} {w : Nat} (h : PyData.strOk x = true) (hw : x.cps.size ≤ w) : Fit 0 w (.str x) :=
  ⟨by simpa [PyData.canLay0] using h, by simp [PyData.depth], by simpa [PyData.weight] using hw, by simp [PyData.intsShort], by simp [PyData.showable]⟩
theorem FitAll.nil {k w : Nat} : FitAll k w [] := ⟨by simp [PyData.canLayAll0], by simp [PyData.depthAll], by simp [PyData.weightAll], by simp [PyData.intsShortAll], by simp [PyData.showableAll]⟩
theorem FitAll.cons {k w v : Nat} {d : PyData} {ds : List PyData} (f : Fit k w d) (g : FitAll k v ds) : FitAll k (w + 1 + v) (d :: ds) :=
  ⟨by simp only [PyData.canLayAll0, f.lay, g.lay, Bool.and_self], by simp only [PyData.depthAll]; exact Nat.max_le.mpr ⟨f.dep, g.dep⟩, by simp only [PyData.weightAll]; have := f.wt; have := g.wt; omega, by simp only [PyData.intsShortAll, f.sh, g.sh, Bool.and_self], by simp only [PyData.showableAll, f.shw, g.shw, Bool.and_self]⟩
theorem FitAll.mono {k w k' w' : Nat} {d : List PyData} (f : FitAll k w d) (h1 : k ≤ k') (h2 : w ≤ w') : FitAll k' w' d := ⟨f.lay, Nat.le_trans f.dep h1, Nat.le_trans f.wt h2, f.sh, f.shw⟩
theorem FitAll.of {k w : Nat} : ∀ {ds : List PyData}, (∀ d ∈ ds, Fit k w d) → FitAll k (ds.length * (w + 1)) ds
  | [], _ => .nil
  | d :: ds, h => (FitAll.cons (h d List.mem_cons_self) (FitAll.of fun x hx => h x (List.mem_cons_of_mem _ hx))).mono (Nat.le_refl _) (by rw [List.length_cons, Nat.succ_mul]; omega)
theorem Fit.tup {k w : Nat} {ds : List PyData} (f : FitAll k w ds) : Fit (k + 1) w (.tuple ds) :=
  ⟨by simpa only [PyData.canLay0] using f.lay, by simpa only [PyData.depth] using Nat.succ_le_succ f.dep, by simpa only [PyData.weight] using f.wt, by simpa only [PyData.intsShort] using f.sh, by simpa only [PyData.showable] using f.shw⟩
theorem Fit.lst {k w : Nat} {ds : List PyData} (f : FitAll k w ds) : Fit (k + 1) w (.list ds) :=
  ⟨by simpa only [PyData.canLay0] using f.lay, by simpa only [PyData.depth] using Nat.succ_le_succ f.dep, by simpa only [PyData.weight] using f.wt, by simpa only [PyData.intsShort] using f.sh, by simpa only [PyData.showable] using f.shw⟩
theorem Fit.shaped {k w : Nat} {d : PyData} (f : Fit k w d) (h : k ≤ 64) : SeqAt.shaped d = true := by
  unfold SeqAt.shaped
  rw [f.lay, decide_eq_true (Nat.le_trans f.dep h)] <;> rfl
theorem Fit.shw' {k w : Nat} {d : PyData} (f : Fit k w d) (h : k ≤ 60) (hw : w ≤ 1048576) : Shw d := by
  refine ⟨f.shw, ?_, Nat.le_trans f.dep h⟩
  exact PyData.shown_fits (B := 13) (by decide) (by decide) (PyData.leavesShort_of_canLay0 13 d f.lay f.sh) (Nat.le_trans f.wt (by simpa using hw))
theorem datL_map {α : Type} {g : Addr → Option PyData} {e : α → PV} {t : α → PyData} : ∀ {xs : List α}, (∀ x ∈ xs, datV g (e x) = some (t x)) → datL g (xs.map e) = some (xs.map t)
  | [], _ => rfl
  | x :: xs, h => by
    simp only [List.map_cons, datL, h x List.mem_cons_self, datL_map fun y hy => h y (List.mem_cons_of_mem _ hy)]
    rfl
theorem strs_lay : ∀ {xs : List Str}, xs.all PyData.strOk = true → PyData.canLayAll0 (xs.map .str) = true ∧ PyData.depthAll (xs.map .str) = 0
  | [], _ => ⟨rfl, rfl⟩
  | x :: xs, h => by
    simp only [List.all_cons] at h
    obtain ⟨h1, h2⟩ := band h
    obtain ⟨i1, i2⟩ := strs_lay h2
    exact ⟨by simp only [List.map_cons, PyData.canLayAll0, PyData.canLay0, h1, i1, Bool.and_self], by simp only [List.map_cons, PyData.depthAll, PyData.depth, i2, Nat.max_self]⟩
theorem any_str {a : Str} : ∀ {xs : List Str}, ((xs.map PyData.str).any fun z => PyData.eqv z (.str a)) = xs.any fun z => z == a
  | [] => rfl
  | x :: xs => by
    simp only [List.map_cons, List.any_cons, any_str, PyData.eqv]
/-! ### plain values of a fair size -/
def FP (k w : Nat) (x : PV) : Prop := ∃ d, (∀ g, datV g x = some d) ∧ Fit k w d
def FPL (k w : Nat) (xs : List PV) : Prop := ∃ ds, (∀ g, datL g xs = some ds) ∧ FitAll k w ds
theorem FP.mono {k w k' w' : Nat} {x : PV} (f : FP k w x) (h1 : k ≤ k') (h2 : w ≤ w') : FP k' w' x := let ⟨d, e, z⟩ := f; ⟨d, e, z.mono h1 h2⟩
theorem FP.int {i : Int} (h0 : -(10 ^ 12) < i) (h1 : i < 10 ^ 12) : FP 0 41 (.int i) := ⟨_, fun _ => rfl, .int h0 h1⟩
theorem FP.non : FP 0 0 .non := ⟨_, fun _ => rfl, .non⟩
theorem FP.bl {b : Bool} : FP 0 0 (.bl b) := ⟨_, fun _ => rfl, .bl⟩
theorem FP.str {x : Str} {w : Nat} (h : PyData.strOk x = true) (hw : x.cps.size ≤ w) : FP 0 w (.str x) := ⟨_, fun _ => rfl, .str h hw⟩
theorem FPL.nil {k : Nat} : FPL k 0 [] := ⟨[], fun _ => rfl, .nil⟩
theorem FPL.cons {k w v : Nat} {x : PV} {xs : List PV} (f : FP k w x) (g : FPL k v xs) : FPL k (w + 1 + v) (x :: xs) := by
  obtain ⟨d, e, z⟩ := f
  obtain ⟨ds, e2, z2⟩ := g
  refine ⟨d :: ds, fun g => ?_, .cons z z2⟩
  simp only [datL, e g, e2 g]
  rfl
theorem FPL.of {k w : Nat} : ∀ {xs : List PV}, (∀ x ∈ xs, FP k w x) → FPL k (xs.length * (w + 1)) xs
  | [], _ => by simpa using FPL.nil
  | x :: xs, h => by
    have z := FPL.cons (h x List.mem_cons_self) (FPL.of fun y hy => h y (List.mem_cons_of_mem _ hy))
    rw [List.length_cons, Nat.succ_mul, Nat.add_comm (xs.length * (w + 1))]
    exact z
theorem FPL.mono {k w k' w' : Nat} {x : List PV} (f : FPL k w x) (h1 : k ≤ k') (h2 : w ≤ w') : FPL k' w' x := let ⟨d, e, z⟩ := f; ⟨d, e, z.mono h1 h2⟩
theorem FP.tup {k w : Nat} {xs : List PV} (f : FPL k w xs) : FP (k + 1) w (.tup xs) := by
  obtain ⟨ds, e, z⟩ := f
  exact ⟨_, fun g => by simp only [datV, e g]; rfl, .tup z⟩
theorem FP.lst {k w : Nat} {xs : List PV} (f : FPL k w xs) : FP (k + 1) w (.lst xs) := by
  obtain ⟨ds, e, z⟩ := f
  exact ⟨_, fun g => by simp only [datV, e g]; rfl, .lst z⟩
/-- its repr -/
def reprP (x : PV) : Str := match datV (fun _ => none) x with
  | some d => d.shown
  | none => ""
theorem o_reprP {m : Bool} {k w : Nat} {x : PV} {h : MH} {Q : PK} (f : FP k w x) (hk : k ≤ 60) (hw : w ≤ 1048576) : biOp m .repr [x] h Q = Q (.str (reprP x)) h := by
  obtain ⟨d, e, z⟩ := f
  have er : reprP x = d.shown := by unfold reprP; rw [e]
  rw [er]
  show (∃ d, dat h x = some d ∧ Shw d ∧ Q (.str d.shown) h) = _
  rw [show dat h x = some d from e _]
  apply propext
  constructor
  · rintro ⟨_, e2, _, q⟩; cases e2; exact q
  · exact fun q => ⟨_, rfl, z.shw' hk hw, q⟩
/-- the data of a plain value -/
def dataP (x : PV) : PyData := (datV (fun _ => none) x).getD .none
theorem FP.dat {k w : Nat} {x : PV} (f : FP k w x) (h : MH) : dat h x = some (dataP x) := by
  obtain ⟨d, e, z⟩ := f
  unfold dataP
  rw [e]
  exact e _
theorem FP.shaped {k w : Nat} {x : PV} (f : FP k w x) (hk : k ≤ 64) : SeqAt.shaped (dataP x) = true := by
  obtain ⟨d, e, z⟩ := f
  unfold dataP
  rw [e]
  exact z.shaped hk
theorem o_eqP {n : Bool} {k w k' w' : Nat} {x y : PV} {h : MH} {Q : PK} (f : FP k w x) (g : FP k' w' y) (hk : k ≤ 64) (hk' : k' ≤ 64) (hs : ∀ a b, x = .str a → y ≠ .str b) : opEq n x y h Q = Q (.bl (n != PyData.eqv (dataP x) (dataP y))) h :=
  o_eqD (f.dat h) (g.dat h) (f.shaped hk) (g.shaped hk') hs
/-! ### dicts -/
theorem lookP_cons {p : Key × PV} {t : List (Key × PV)} {k : Key} : lookP (p :: t) k = if p.1 = k then some p.2 else lookP t k := by
  unfold lookP
  by_cases e : p.1 = k
  · rw [List.find?_cons_of_pos (by simpa using e), if_pos e]; rfl
  · rw [List.find?_cons_of_neg (by simpa using e), if_neg e]
theorem lookP_map {k j : Key} {v : PV} : ∀ {kvs : List (Key × PV)}, lookP (kvs.map fun kv => if kv.1 = k then (kv.1, v) else kv) j = if j = k then (if kvs.any (fun kv => decide (kv.1 = k)) then some v else none) else lookP kvs j
  | [] => by simp [lookP]
  | p :: kvs => by
    rw [List.map_cons, lookP_cons, lookP_map, lookP_cons, List.any_cons]
    by_cases e : p.1 = k
    · rw [if_pos e]
      by_cases ej : j = k
      · subst ej; simp [e]
      · have ne : ¬ p.1 = j := fun z => ej (z.symm.trans e)
        simp [ne, ej]
    · rw [if_neg e, decide_eq_false e, Bool.false_or]
      by_cases ej : j = k
      · subst ej; rw [if_pos rfl, if_pos rfl, if_neg e]
      · rw [if_neg ej, if_neg ej]
theorem lookP_snoc {k j : Key} {v : PV} : ∀ {kvs : List (Key × PV)}, kvs.any (fun kv => decide (kv.1 = k)) = false → lookP (kvs ++ [(k, v)]) j = if j = k then some v else lookP kvs j
  | [], _ => by
    rw [List.nil_append, lookP_cons]
    by_cases e : j = k
    · rw [if_pos e, if_pos e.symm]
    · rw [if_neg e, if_neg (fun z => e z.symm)]
  | p :: kvs, h => by
    rw [List.any_cons, Bool.or_eq_false_iff] at h
    rw [List.cons_append, lookP_cons, lookP_snoc h.2, lookP_cons]
    have np : ¬ p.1 = k := by simpa using h.1
    by_cases e : j = k
    · subst e; rw [if_neg np, if_pos rfl, if_pos rfl]
    · rw [if_neg e, if_neg e]
theorem lookP_put {kvs : List (Key × PV)} {k j : Key} {v : PV} : lookP (putP kvs k v) j = if j = k then some v else lookP kvs j := by
  unfold putP
  by_cases h : kvs.any (fun kv => decide (kv.1 = k)) = true
  · rw [if_pos h, lookP_map, if_pos h]
  · rw [if_neg h, lookP_snoc (Bool.eq_false_iff.mpr h)]
theorem length_putP (kvs : List (Key × PV)) (k : Key) (v : PV) : (putP kvs k v).length ≤ kvs.length + 1 := by
  unfold putP
  split
  · rw [List.length_map]; omega
  · rw [List.length_append]; simp
theorem length_putP_old {kvs : List (Key × PV)} {k : Key} {v x : PV} (e : lookP kvs k = some x) : (putP kvs k v).length = kvs.length := by
  unfold putP
  rw [if_pos, List.length_map]
  unfold lookP at e
  obtain ⟨p, e1, _⟩ := Option.map_eq_some_iff.mp e
  exact List.any_eq_true.mpr ⟨p, List.mem_of_find?_eq_some e1, by simpa using List.find?_some e1⟩
/-- a text in a tuple of texts -/
theorem o_inS {h : MH} {Q : PK} {a : Str} {xs : List Str} (ha : PyData.strOk a = true) (hx : xs.all PyData.strOk = true) : cmpOp .in_ (.str a) (.tup (xs.map .str)) h Q = Q (.bl (xs.any fun z => z == a)) h := by
  have e1 : datL (deref h 5) (xs.map .str) = some (xs.map .str) := datL_map (t := PyData.str) fun _ _ => rfl
  obtain ⟨l1, l2⟩ := strs_lay hx
  have s1 : SeqAt.shaped (.str a) = true := (Fit.str (w := a.cps.size) ha (Nat.le_refl _)).shaped (by decide)
  have s2 : SeqAt.shaped (.list (xs.map .str)) = true := by
    unfold SeqAt.shaped
    simp only [PyData.canLay0, l1, PyData.depth, l2]
    decide
  show (∃ ys d ds, some (xs.map PV.str) = some ys ∧ dat h (.str a) = some d ∧ datL (deref h 5) ys = some ds ∧ SeqAt.shaped d = true ∧ SeqAt.shaped (.list ds) = true ∧ Q (.bl (false != ds.any fun z => PyData.eqv z d)) h) = _
  apply propext
  constructor
  · rintro ⟨ys, d, ds, e, e2, e3, _, _, q⟩
    cases e
    cases e2
    rw [e1] at e3
    cases e3
    rw [any_str, Bool.false_bne] at q
    exact q
  · intro q
    exact ⟨_, _, _, rfl, rfl, e1, s1, s2, by rw [any_str, Bool.false_bne]; exact q⟩
/-- slices of a list's beginning -/
theorem cut_head {xs : List PV} {n : Nat} : ∃ m, cutP xs none (some (n : Int)) = xs.take m := by
  unfold cutP
  exact ⟨_, by rw [show HT.sIx xs.length 0 none = 0 from rfl, List.drop_zero]⟩
section
variable {h : MH} {Q : PK}
/-! ### tuples that are known -/
@[simp] theorem o_lenTd {m xs} : biOp m .len [.tpl xs] h Q = Q (.int xs.length) h := o_lenD rfl
@[simp] theorem o_tupleTd {m xs} : biOp m .tuple [.tpl xs] h Q = Q (.tup xs) h := o_tupleD rfl
@[simp] theorem o_tupdL {m xs} : biOp m .tupd [.lst xs] h Q = Q (.tpl xs) h := by
  show (∃ ys, some xs = some ys ∧ Q (.tpl ys) h) = _
  simp
@[simp] theorem o_tupdR {m p} : biOp m .tupd [.ref p] h Q = ∃ xs, h p = some (.lst xs) ∧ Q (.tpl xs) h := by
  show (∃ ys, asLst h (.ref p) = some ys ∧ Q (.tpl ys) h) = _
  apply propext
  constructor
  · rintro ⟨xs, e, q⟩
    obtain ⟨ys, e2, e3⟩ := asLst_ref.mp e
    subst e3
    exact ⟨_, e2, q⟩
  · rintro ⟨xs, e, q⟩
    exact ⟨xs, asLst_ref.mpr ⟨xs, e, rfl⟩, q⟩
@[simp] theorem o_ixTd {i xs} : opIx (.tpl xs) (.int i) h Q = ∃ v, L2.atI xs i = some v ∧ Q v h := by
  show (∃ xs' v, some xs = some xs' ∧ L2.atI xs' i = some v ∧ Q v h) = _
  simp
@[simp] theorem o_slTd {m xs lo hi} : opSl m (.tpl xs) lo hi h Q = Q (.tup (cutP xs lo hi)) h := rfl
@[simp] theorem o_itTd {xs} : itemsOf h (.tpl xs) = some xs := rfl
@[simp] theorem isTup_tpl {xs} : isTupP (.tpl xs) = True := rfl
theorem FP.tpl {k w : Nat} {xs : List PV} (f : FPL k w xs) : FP (k + 1) w (.tpl xs) := by
  obtain ⟨ds, e, z⟩ := f
  exact ⟨_, fun g => by simp only [datV, e g]; rfl, .tup z⟩
theorem cut_tail {xs : List PV} (hx : 1 ≤ xs.length) : cutP xs (some 1) none = xs.drop 1 := by
  unfold cutP
  have e : HT.sIx xs.length 0 (some 1) = 1 := (HT.sIx_nat xs.length 0 1).trans (by omega)
  rw [e, HT.sIx_none, List.take_of_length_le (by rw [List.length_drop]; omega)]
end
end Ev

namespace Ev.Sv
/-! ### determinants of rows told by a function: expanded along the first column -/
abbrev Row := Nat → Int
def sk (i a : Nat) : Nat := if a < i then a else a + 1
def sg (i : Nat) : Int := if i % 2 = 0 then 1 else -1
def sumN : Nat → (Nat → Int) → Int
  | 0, _ => 0
  | n + 1, g => sumN n g + g n
def mnr (M : Nat → Row) (i : Nat) : Nat → Row := fun a b => M (sk i a) (b + 1)
def det : Nat → (Nat → Row) → Int
  | 0, _ => 1
  | n + 1, M => sumN (n + 1) fun i => sg i * M i 0 * det n (mnr M i)
theorem sumN_congr {g k : Nat → Int} : ∀ {n : Nat}, (∀ i, i < n → g i = k i) → sumN n g = sumN n k
  | 0, _ => rfl
  | n + 1, h => by
    show sumN n g + g n = sumN n k + k n
    rw [sumN_congr fun i hi => h i (Nat.lt_succ_of_lt hi), h n (Nat.lt_succ_self n)]
theorem sumN_add {g k : Nat → Int} : ∀ n : Nat, sumN n (fun i => g i + k i) = sumN n g + sumN n k
  | 0 => rfl
  | n + 1 => by
    show sumN n _ + (g n + k n) = sumN n g + g n + (sumN n k + k n)
    rw [sumN_add n]; omega
theorem sumN_mul {c : Int} {g : Nat → Int} : ∀ n : Nat, sumN n (fun i => c * g i) = c * sumN n g
  | 0 => by show (0 : Int) = c * 0; rw [Int.mul_zero]
  | n + 1 => by
    show sumN n _ + c * g n = c * (sumN n g + g n)
    rw [sumN_mul n, Int.mul_add]
theorem sumN_zero {g : Nat → Int} : ∀ {n : Nat}, (∀ i, i < n → g i = 0) → sumN n g = 0
  | 0, _ => rfl
  | n + 1, h => by
    show sumN n g + g n = 0
    rw [sumN_zero fun i hi => h i (Nat.lt_succ_of_lt hi), h n (Nat.lt_succ_self n)]; rfl
/-- just one counts -/
theorem sumN_one {g : Nat → Int} {j : Nat} : ∀ {n : Nat}, j < n → (∀ i, i < n → i ≠ j → g i = 0) → sumN n g = g j
  | 0, h, _ => absurd h (Nat.not_lt_zero _)
  | n + 1, h, z => by
    show sumN n g + g n = g j
    by_cases e : j = n
    · subst e
      rw [sumN_zero fun i hi => z i (by omega) (by omega)]; omega
    · rw [sumN_one (by omega) fun i hi ne => z i (by omega) ne, z n (by omega) (by omega)]; omega
/-- just two count -/
theorem sumN_two {g : Nat → Int} {j k : Nat} (hjk : j ≠ k) : ∀ {n : Nat}, j < n → k < n → (∀ i, i < n → i ≠ j → i ≠ k → g i = 0) → sumN n g = g j + g k
  | 0, h, _, _ => absurd h (Nat.not_lt_zero _)
  | n + 1, h1, h2, z => by
    show sumN n g + g n = g j + g k
    by_cases e : j = n
    · subst e
      rw [sumN_one (j := k) (by omega) fun i hi ne => z i (by omega) (by omega) ne]; omega
    · by_cases e2 : k = n
      · subst e2
        rw [sumN_one (j := j) (by omega) fun i hi ne => z i (by omega) ne (by omega)]
      · rw [sumN_two hjk (by omega) (by omega) fun i hi a b => z i (by omega) a b, z n (by omega) (by omega) (by omega)]; omega
theorem det_congr : ∀ {n : Nat} {M L : Nat → Row}, (∀ a b, a < n → b < n → M a b = L a b) → det n M = det n L
  | 0, _, _, _ => rfl
  | n + 1, M, L, h => by
    refine sumN_congr fun i hi => ?_
    rw [h i 0 hi (by omega), det_congr (M := mnr M i) (L := mnr L i) fun a b ha hb => h _ _ (by unfold sk; split <;> omega) (by omega)]
/-- row k another one -/
def put (M : Nat → Row) (k : Nat) (v : Row) : Nat → Row := fun a => if a = k then v else M a
theorem put_at {M : Nat → Row} {k : Nat} {v : Row} : put M k v k = v := if_pos rfl
theorem put_ne {M : Nat → Row} {k a : Nat} {v : Row} (h : a ≠ k) : put M k v a = M a := if_neg h
theorem put_put {M : Nat → Row} {k : Nat} {u v : Row} : put (put M k u) k v = put M k v := by
  funext a; unfold put; split <;> rfl
theorem put_self {M : Nat → Row} {k : Nat} : put M k (M k) = M := by
  funext a; unfold put; split
  · rename_i e; rw [e]
  · rfl
theorem put_comm {M : Nat → Row} {j k : Nat} {u v : Row} (h : j ≠ k) : put (put M j u) k v = put (put M k v) j u := by
  funext a; unfold put; split
  · rename_i e; rw [if_neg (by omega)]
  · rfl
theorem sk_ne {i a : Nat} : sk i a ≠ i := by unfold sk; split <;> omega
/-- where row k stands with row i left out -/
def uk (i k : Nat) : Nat := if k < i then k else k - 1
theorem sk_uk {i k : Nat} (h : k ≠ i) : sk i (uk i k) = k := by
  unfold sk uk
  by_cases e : k < i
  · rw [if_pos e, if_pos e]
  · rw [if_neg e, if_neg (by omega)]; omega
theorem uk_sk {i a : Nat} : uk i (sk i a) = a := by
  unfold sk uk
  by_cases e : a < i
  · rw [if_pos e, if_pos e]
  · rw [if_neg e, if_neg (by omega)]; omega
theorem uk_lt {n i k : Nat} (h : k < n + 1) (hi : i < n + 1) (e : k ≠ i) : uk i k < n := by unfold uk; split <;> omega
theorem mnr_put {M : Nat → Row} {i k : Nat} {v : Row} (h : k ≠ i) : mnr (put M k v) i = put (mnr M i) (uk i k) (fun b => v (b + 1)) := by
  funext a b
  unfold mnr put
  by_cases e : a = uk i k
  · subst e
    rw [sk_uk h, if_pos rfl, if_pos rfl]
  · rw [if_neg (fun z : sk i a = k => e (by rw [← z, uk_sk])), if_neg e]
theorem mnr_put_self {M : Nat → Row} {i : Nat} {v : Row} : mnr (put M i v) i = mnr M i := by
  funext a b
  unfold mnr put
  rw [if_neg sk_ne]
theorem det_add : ∀ {n : Nat} (M : Nat → Row) (k : Nat) (u v : Row), k < n → det n (put M k fun b => u b + v b) = det n (put M k u) + det n (put M k v)
  | 0, _, _, _, _, h => absurd h (Nat.not_lt_zero _)
  | n + 1, M, k, u, v, h => by
    show sumN (n + 1) _ = sumN (n + 1) _ + sumN (n + 1) _
    rw [← sumN_add]
    refine sumN_congr fun i hi => ?_
    by_cases e : k = i
    · subst e
      rw [mnr_put_self, mnr_put_self, mnr_put_self, put_at, put_at, put_at]
      grind
    · rw [mnr_put e, mnr_put e, mnr_put e, put_ne (Ne.symm e), put_ne (Ne.symm e), put_ne (Ne.symm e)]
      rw [det_add (mnr M i) (uk i k) (fun b => u (b + 1)) (fun b => v (b + 1)) (uk_lt h hi e)]
      grind
theorem det_mul : ∀ {n : Nat} (M : Nat → Row) (k : Nat) (c : Int) (v : Row), k < n → det n (put M k fun b => c * v b) = c * det n (put M k v)
  | 0, _, _, _, _, h => absurd h (Nat.not_lt_zero _)
  | n + 1, M, k, c, v, h => by
    show sumN (n + 1) _ = c * sumN (n + 1) _
    rw [← sumN_mul]
    refine sumN_congr fun i hi => ?_
    by_cases e : k = i
    · subst e
      rw [mnr_put_self, mnr_put_self, put_at, put_at]
      grind
    · rw [mnr_put e, mnr_put e, put_ne (Ne.symm e), put_ne (Ne.symm e)]
      rw [det_mul (mnr M i) (uk i k) c (fun b => v (b + 1)) (uk_lt h hi e)]
      grind
theorem sg_succ (i : Nat) : sg (i + 1) = - sg i := by
  unfold sg
  by_cases h : i % 2 = 0
  · rw [if_neg (by omega), if_pos h]
  · rw [if_pos (by omega), if_neg h]; rfl
/-- two neighbours alike -/
theorem det_adj : ∀ {n : Nat} (M : Nat → Row) (k : Nat), k + 1 < n → M k = M (k + 1) → det n M = 0
  | 0, _, _, h, _ => absurd h (Nat.not_lt_zero _)
  | n + 1, M, k, h, e => by
    show sumN (n + 1) _ = 0
    rw [sumN_two (j := k) (k := k + 1) (by omega) (by omega) h]
    · have em : mnr M k = mnr M (k + 1) := by
        funext a b
        unfold mnr sk
        by_cases z : a < k
        · rw [if_pos z, if_pos (by omega)]
        · by_cases z2 : a = k
          · subst z2
            rw [if_neg z, if_pos (by omega), ← e]
          · rw [if_neg z, if_neg (by omega)]
      rw [em, ← e, sg_succ]
      grind
    · intro i hi h1 h2
      have e2 : det n (mnr M i) = 0 := by
        refine det_adj (mnr M i) (uk i k) (by unfold uk; split <;> omega) ?_
        funext b
        show M (sk i (uk i k)) (b + 1) = M (sk i (uk i k + 1)) (b + 1)
        have : sk i (uk i k + 1) = k + 1 := by unfold sk uk; split <;> split <;> omega
        rw [sk_uk (by omega), this, e]
      rw [e2, Int.mul_zero]
/-- additive in two places: the sum of both orders is 0 where alike rows give 0 -/
theorem det_swap_of {n : Nat} {M : Nat → Row} {j k : Nat} (hj : j < n) (hk : k < n) (hjk : j ≠ k) (al : ∀ w : Row, det n (put (put M j w) k w) = 0) (u v : Row) : det n (put (put M j u) k v) = - det n (put (put M j v) k u) := by
  have h := al fun b => u b + v b
  rw [det_add (put M j fun b => u b + v b) k u v hk] at h
  rw [put_comm hjk, put_comm hjk, det_add (put M k u) j u v hj, det_add (put M k v) j u v hj] at h
  rw [← put_comm hjk, ← put_comm hjk, ← put_comm hjk, ← put_comm hjk, al u, al v] at h
  omega
theorem det_same : ∀ (d : Nat) {n : Nat} (M : Nat → Row) (j k : Nat), k = j + d + 1 → k < n → M j = M k → det n M = 0
  | 0, n, M, j, k, hd, h, e => by
    subst hd
    exact det_adj M j h e
  | d + 1, n, M, j, k, hd, h, e => by
    -- rows k - 1 and k exchanged
    have hk : k - 1 + 1 = k := by omega
    have al : ∀ w : Row, det n (put (put M (k - 1) w) k w) = 0 := fun w => by
      refine det_adj _ (k - 1) (by omega) ?_
      rw [hk, put_at, put_ne (by omega), put_at]
    have s := det_swap_of (j := k - 1) (k := k) (by omega) h (by omega) al (M (k - 1)) (M k)
    have z : det n (put (put M (k - 1) (M k)) k (M (k - 1))) = 0 := by
      refine det_same d _ j (k - 1) (by omega) (by omega) ?_
      rw [put_ne (by omega), put_ne (by omega), put_ne (by omega), put_at, e]
    rw [put_self, put_self, z] at s
    omega
theorem det_alike {n : Nat} (M : Nat → Row) {j k : Nat} (hj : j < n) (hk : k < n) (hjk : j ≠ k) (e : M j = M k) : det n M = 0 := by
  by_cases h : j < k
  · exact det_same (k - j - 1) M j k (by omega) hk e
  · exact det_same (j - k - 1) M k j (by omega) hj e.symm
theorem det_swap {n : Nat} {M : Nat → Row} {j k : Nat} (hj : j < n) (hk : k < n) (hjk : j ≠ k) (u v : Row) : det n (put (put M j u) k v) = - det n (put (put M j v) k u) :=
  det_swap_of hj hk hjk (fun w => det_alike _ hj hk hjk (by rw [put_at, put_ne hjk, put_at])) u v
/-- a sum of rows -/
theorem det_sum {n : Nat} (M : Nat → Row) (k : Nat) (hk : k < n) (c : Nat → Int) (R : Nat → Row) : ∀ m : Nat, det n (put M k fun b => sumN m fun i => c i * R i b) = sumN m fun i => c i * det n (put M k (R i))
  | 0 => by
    have := det_mul M k 0 (fun _ => 0) hk
    show det n (put M k fun _ => (0 : Int)) = 0
    simpa using this
  | m + 1 => by
    show det n (put M k fun b => (sumN m fun i => c i * R i b) + c m * R m b) = (sumN m fun i => c i * det n (put M k (R i))) + c m * det n (put M k (R m))
    rw [det_add M k (fun b => sumN m fun i => c i * R i b) (fun b => c m * R m b) hk, det_sum M k hk c R m, det_mul M k (c m) (R m) hk]
/-- the unit rows -/
def un : Nat → Row := fun a b => if a = b then 1 else 0
theorem det_un : ∀ n : Nat, det n un = 1
  | 0 => rfl
  | n + 1 => by
    show sumN (n + 1) _ = 1
    rw [sumN_one (j := 0) (by omega)]
    · have e : det n (mnr un 0) = det n un := det_congr fun a b _ _ => by
        show (if sk 0 a = b + 1 then (1 : Int) else 0) = if a = b then 1 else 0
        have : sk 0 a = a + 1 := by unfold sk; rw [if_neg (by omega)]
        rw [this]
        by_cases e : a = b
        · rw [if_pos (by omega), if_pos e]
        · rw [if_neg (by omega), if_neg e]
      rw [e, det_un n]
      rfl
    · intro i _ hi
      have : un i 0 = 0 := if_neg hi
      rw [this, Int.mul_zero, Int.zero_mul]
/-- a row put among the unit rows -/
theorem det_un_put {n k : Nat} (hk : k < n) (v : Row) : det n (put un k v) = v k := by
  have e : det n (put un k v) = det n (put un k fun b => sumN n fun i => v i * un i b) := det_congr fun a b ha hb => by
    unfold put
    split
    · show v b = sumN n fun i => v i * un i b
      rw [sumN_one (j := b) hb]
      · show v b = v b * un b b
        rw [show un b b = 1 from if_pos rfl, Int.mul_one]
      · intro i _ ne
        show v i * un i b = 0
        rw [show un i b = 0 from if_neg ne, Int.mul_zero]
    · rfl
  rw [e, det_sum un k hk v un n, sumN_one (j := k) hk]
  · rw [put_self, det_un, Int.mul_one]
  · intro i hi ne
    rw [det_alike (put un k (un i)) hk hi (Ne.symm ne) (by rw [put_at, put_ne ne]), Int.mul_zero]
/-! ### how great -/
def fac : Nat → Nat
  | 0 => 1
  | n + 1 => (n + 1) * fac n
theorem sumN_abs {g : Nat → Int} {b : Nat} : ∀ {n : Nat}, (∀ i, i < n → (g i).natAbs ≤ b) → (sumN n g).natAbs ≤ n * b
  | 0, _ => by simp [sumN]
  | n + 1, h => by
    have a := sumN_abs (n := n) fun i hi => h i (by omega)
    have c := h n (by omega)
    have e : (sumN (n + 1) g).natAbs ≤ (sumN n g).natAbs + (g n).natAbs := Int.natAbs_add_le _ _
    rw [Nat.succ_mul]; omega
theorem det_abs {c : Nat} : ∀ {n : Nat} {M : Nat → Row}, (∀ a b, a < n → b < n → (M a b).natAbs ≤ c) → (det n M).natAbs ≤ fac n * c ^ n
  | 0, _, _ => by simp [det, fac]
  | n + 1, M, h => by
    have : (det (n + 1) M).natAbs ≤ (n + 1) * (c * (fac n * c ^ n)) := by
      refine sumN_abs fun i hi => ?_
      have d := det_abs (c := c) (n := n) (M := mnr M i) fun a b ha hb => h _ _ (by unfold sk; split <;> omega) (by omega)
      have s : (sg i).natAbs = 1 := by unfold sg; split <;> rfl
      rw [Int.natAbs_mul, Int.natAbs_mul, s, Nat.one_mul]
      exact Nat.mul_le_mul (h i 0 hi (by omega)) d
    refine Nat.le_trans this (Nat.le_of_eq ?_)
    simp only [fac, Nat.pow_succ]
    grind
end Ev.Sv

namespace Ev.Sv
/-! ### dictionaries and their exchange -/
theorem sumN_but {g : Nat → Int} {k : Nat} {a : Int} : ∀ {n : Nat}, k < n → sumN n (fun l => if l = k then a else g l) = sumN n g - g k + a
  | 0, h => absurd h (Nat.not_lt_zero _)
  | n + 1, h => by
    show sumN n _ + (if n = k then a else g n) = sumN n g + g n - g k + a
    by_cases e : n = k
    · subst e
      rw [if_pos rfl, sumN_congr (k := g) fun i hi => if_neg (by omega)]
      omega
    · rw [if_neg e, sumN_but (by omega)]
      omega
/-- basic rows w, each (the sum of its entries times the frame's rows) / below -/
structure Dic (n m : Nat) (f w : Nat → Row) (E : Nat → Nat → Int) (s below : Int) : Prop where
  sgn : s = 1 ∨ s = -1
  pos : 0 < below
  dt : below = s * det n f
  ent : ∀ r k, r < m → k < n → E r k = s * det n (put f k (w r))
  rel : ∀ r b, r < m → b < n → below * w r b = sumN n fun k => E r k * f k b
def newE (E : Nat → Nat → Int) (r k : Nat) (below sg : Int) : Nat → Nat → Int := fun u j =>
  if u = r then (if j = k then sg * below else 0 - sg * E r j)
  else if j = k then sg * E u k else sg * (E u j * E r k - E u k * E r j) / below
def newW (f w : Nat → Row) (r k : Nat) : Nat → Row := fun u => if u = r then f k else w u
theorem Dic.three {n m : Nat} {f w : Nat → Row} {E : Nat → Nat → Int} {s below : Int} (d : Dic n m f w E s below) {r u j k : Nat} (hr : r < m) (hu : u < m) (hj : j < n) (hk : k < n) (hjk : j ≠ k) :
    below * (s * det n (put (put f k (w r)) j (w u))) = E u j * E r k - E u k * E r j := by
  have e1 : det n (put (put f k (w r)) j fun b => below * w u b) = det n (put (put f k (w r)) j fun b => sumN n fun l => E u l * f l b) := det_congr fun a b ha hb => by
    by_cases e : a = j
    · subst e
      rw [put_at, put_at]
      exact d.rel u b hu hb
    · rw [put_ne e, put_ne e]
  rw [det_mul _ j below (w u) hj, det_sum _ j hj (E u) f n, sumN_two (j := j) (k := k) hjk hj hk] at e1
  · have e2 : put (put f k (w r)) j (f j) = put f k (w r) := by
      have := put_self (M := put f k (w r)) (k := j)
      rw [put_ne hjk] at this
      exact this
    have e3 : det n (put (put f k (w r)) j (f k)) = - det n (put f j (w r)) := by
      rw [det_swap hk hj (Ne.symm hjk), put_self]
    rw [e2, e3] at e1
    rw [d.ent r k hr hk, d.ent r j hr hj]
    grind
  · intro i hi h1 h2
    rw [det_alike (put (put f k (w r)) j (f i)) hj hi (Ne.symm h1) (by rw [put_at, put_ne h1, put_ne h2]), Int.mul_zero]
theorem Dic.pivot {n m : Nat} {f w : Nat → Row} {E : Nat → Nat → Int} {s below : Int} (d : Dic n m f w E s below) {r k : Nat} (hr : r < m) (hk : k < n) {sg : Int} (h : (sg = 1 ∧ 0 < E r k) ∨ (sg = -1 ∧ E r k < 0)) :
    Dic n m (put f k (w r)) (newW f w r k) (newE E r k below sg) (sg * s) (sg * E r k) := by
  have sq : sg * sg = 1 := by rcases h with ⟨e, _⟩ | ⟨e, _⟩ <;> subst e <;> rfl
  have ss : s * s = 1 := by rcases d.sgn with e | e <;> subst e <;> rfl
  have b0 : below ≠ 0 := by have := d.pos; omega
  have ent : ∀ u j, u < m → j < n → newE E r k below sg u j = sg * s * det n (put (put f k (w r)) j (newW f w r k u)) := by
    intro u j hu hj
    unfold newE newW
    by_cases e : u = r
    · subst e
      rw [if_pos rfl, if_pos rfl]
      by_cases e2 : j = k
      · subst e2
        rw [if_pos rfl, put_put, put_self, d.dt]
        grind
      · rw [if_neg e2, det_swap hk hj (Ne.symm e2), put_self, d.ent u j hu hj]
        grind
    · rw [if_neg e, if_neg e]
      by_cases e2 : j = k
      · subst e2
        rw [if_pos rfl, put_put, d.ent u j hu hj]
        grind
      · rw [if_neg e2]
        have t := d.three hr hu hj hk e2
        have e3 : sg * (E u j * E r k - E u k * E r j) = below * (sg * s * det n (put (put f k (w r)) j (w u))) := by
          rw [← t]; grind
        rw [e3, Int.mul_ediv_cancel_left _ b0]
  refine ⟨?_, ?_, ?_, ent, ?_⟩
  · rcases h with ⟨e, _⟩ | ⟨e, _⟩ <;> rcases d.sgn with e2 | e2 <;> subst e <;> subst e2 <;> decide
  · rcases h with ⟨e, h⟩ | ⟨e, h⟩ <;> subst e <;> omega
  · rw [d.ent r k hr hk]; grind
  · intro u b hu hb
    have ru := d.rel u b hu hb
    have rr := d.rel r b hr hb
    by_cases e : u = r
    · subst e
      have e1 : (sumN n fun l => newE E u k below sg u l * put f k (w u) l b) = sumN n fun l => if l = k then sg * below * w u b else (-sg) * (E u l * f l b) := sumN_congr fun l hl => by
        unfold newE
        rw [if_pos rfl]
        by_cases e2 : l = k
        · subst e2
          rw [if_pos rfl, put_at, if_pos rfl]
        · rw [if_neg e2, put_ne e2, if_neg e2]
          grind
      rw [e1, sumN_but hk, sumN_mul, ← rr]
      have : newW f w u k u = f k := if_pos rfl
      rw [this]
      grind
    · have e1 : below * (sumN n fun l => newE E r k below sg u l * put f k (w r) l b) = sumN n fun l => if l = k then below * sg * E u k * w r b else sg * E r k * (E u l * f l b) + (- sg * E u k) * (E r l * f l b) := by
        rw [← sumN_mul]
        refine sumN_congr fun l hl => ?_
        unfold newE
        rw [if_neg e]
        by_cases e2 : l = k
        · subst e2
          rw [if_pos rfl, put_at, if_pos rfl]
          grind
        · rw [if_neg e2, put_ne e2, if_neg e2]
          have t := d.three hr hu hl hk e2
          have e3 : sg * (E u l * E r k - E u k * E r l) = below * (sg * s * det n (put (put f k (w r)) l (w u))) := by
            rw [← t]; grind
          have e4 : below * (sg * (E u l * E r k - E u k * E r l) / below) = sg * (E u l * E r k - E u k * E r l) := by
            rw [e3, Int.mul_ediv_cancel_left _ b0]
          grind
      have : newW f w r k u = w u := if_neg e
      rw [this]
      refine Int.eq_of_mul_eq_mul_left b0 ?_
      rw [e1, sumN_but hk, sumN_add, sumN_mul, sumN_mul, ← ru, ← rr]
      grind
end Ev.Sv

namespace Ev.Sv
theorem Dic.congr {n m : Nat} {f w w' : Nat → Row} {E E' : Nat → Nat → Int} {s below : Int} (d : Dic n m f w E s below) (hE : ∀ r k, r < m → k < n → E' r k = E r k) (hw : ∀ r, r < m → w' r = w r) : Dic n m f w' E' s below :=
  ⟨d.sgn, d.pos, d.dt, fun r k hr hk => by rw [hE r k hr hk, hw r hr]; exact d.ent r k hr hk, fun r b hr hb => by
    rw [hw r hr, d.rel r b hr hb]
    exact sumN_congr fun k hk => by rw [hE r k hr hk]⟩
/-! ### the tableau -/
structure Tab where
  basic : List Nat
  free : List Nat
  ent : List (List Int)
  below : Int
def Tab.E (T : Tab) (r k : Nat) : Int := (T.ent[r]?.getD [])[k]?.getD 0
def Tab.b (T : Tab) (r : Nat) : Nat := T.basic[r]?.getD 0
def Tab.fr (T : Tab) (c : Nat) : Nat := T.free[c]?.getD 0
def Tab.frm (W : Nat → Row) (T : Tab) : Nat → Row := fun k => if k = 0 then un 0 else W (T.fr (k - 1))
def pvRow (row : List Int) (k : Nat) (below sg : Int) : List Int := (row.map fun e => 0 - sg * e).set k (sg * below)
def otRow (row top : List Int) (k : Nat) (below sg : Int) : List Int := (List.zipWith (fun e o => sg * (e * top[k]?.getD 0 - row[k]?.getD 0 * o) / below) row top).set k (sg * row[k]?.getD 0)
def Tab.sg (T : Tab) (r c : Nat) : Int := if 0 < T.E r (c + 1) then 1 else -1
def Tab.newRow (T : Tab) (r c u : Nat) : List Int := if u = r then pvRow (T.ent[u]?.getD []) (c + 1) T.below (T.sg r c) else otRow (T.ent[u]?.getD []) (T.ent[r]?.getD []) (c + 1) T.below (T.sg r c)
def Tab.pivot (T : Tab) (r c : Nat) : Tab where
  basic := T.basic.set r (T.fr c)
  free := T.free.set c (T.b r)
  ent := (List.range T.ent.length).map (T.newRow r c)
  below := T.sg r c * T.E r (c + 1)
/-- N free, m basic -/
structure Shp (N m : Nat) (T : Tab) : Prop where
  lb : T.basic.length = m
  lf : T.free.length = N
  le : T.ent.length = m
  lr : ∀ r, r < m → (T.ent[r]?.getD []).length = N + 1
  frI : ∀ c c', c < N → c' < N → T.fr c = T.fr c' → c = c'
  bI : ∀ r r', r < m → r' < m → T.b r = T.b r' → r = r'
  dis : ∀ c r, c < N → r < m → T.fr c ≠ T.b r
  cov : ∀ v, v < N + m → (∃ c, c < N ∧ T.fr c = v) ∨ ∃ r, r < m ∧ T.b r = v
  frL : ∀ c, c < N → T.fr c < N + m
  bL : ∀ r, r < m → T.b r < N + m
structure Ok (W : Nat → Row) (N m : Nat) (T : Tab) (s : Int) : Prop where
  shp : Shp N m T
  dic : Dic (N + 1) m (T.frm W) (fun r => W (T.b r)) T.E s T.below
theorem getD_set {α : Type} {l : List α} {i j : Nat} {x d : α} (h : i < l.length) : (l.set i x)[j]?.getD d = if j = i then x else l[j]?.getD d := by
  by_cases e : j = i
  · subst e
    rw [List.getElem?_set_self h, if_pos rfl]; rfl
  · rw [List.getElem?_set_ne (Ne.symm e), if_neg e]
section
variable {W : Nat → Row} {N m : Nat} {T : Tab} {s : Int} {r c : Nat}
theorem fr_pivot (h : Shp N m T) (hc : c < N) (j : Nat) : (T.pivot r c).fr j = if j = c then T.b r else T.fr j := getD_set (by rw [h.lf]; exact hc)
theorem b_pivot (h : Shp N m T) (hr : r < m) (u : Nat) : (T.pivot r c).b u = if u = r then T.fr c else T.b u := getD_set (by rw [h.lb]; exact hr)
theorem ent_pivot (h : Shp N m T) {u : Nat} (hu : u < m) : (T.pivot r c).ent[u]?.getD [] = T.newRow r c u := by
  show ((List.range T.ent.length).map (T.newRow r c))[u]?.getD [] = _
  rw [List.getElem?_map, List.getElem?_range (by rw [h.le]; exact hu)] <;> rfl
theorem row_get {row : List Int} {k : Nat} (h : k < row.length) : row[k]? = some (row[k]?.getD 0) := by
  rw [List.getElem?_eq_getElem h]; rfl
theorem len_newRow (h : Shp N m T) (hr : r < m) {u : Nat} (hu : u < m) : (T.newRow r c u).length = N + 1 := by
  unfold Tab.newRow pvRow otRow
  split
  · rw [List.length_set, List.length_map, h.lr u hu]
  · rw [List.length_set, List.length_zipWith, h.lr u hu, h.lr r hr, Nat.min_self]
theorem E_pivot (h : Shp N m T) (hr : r < m) (hc : c < N) {u j : Nat} (hu : u < m) (hj : j < N + 1) : (T.pivot r c).E u j = newE T.E r (c + 1) T.below (T.sg r c) u j := by
  unfold Tab.E
  rw [ent_pivot h hu]
  unfold Tab.newRow newE
  have lu := h.lr u hu
  have lr := h.lr r hr
  by_cases e : u = r
  · subst e
    rw [if_pos rfl, if_pos rfl]
    unfold pvRow
    rw [getD_set (by rw [List.length_map, lu]; omega)]
    by_cases e2 : j = c + 1
    · rw [if_pos e2, if_pos e2]
    · rw [if_neg e2, if_neg e2, List.getElem?_map, row_get (by rw [lu]; exact hj)]
      rfl
  · rw [if_neg e, if_neg e]
    unfold otRow
    rw [getD_set (by rw [List.length_zipWith, lu, lr]; omega)]
    by_cases e2 : j = c + 1
    · rw [if_pos e2, if_pos e2]
    · rw [if_neg e2, if_neg e2, List.getElem?_zipWith, row_get (row := T.ent[u]?.getD []) (k := j) (by rw [lu]; exact hj), row_get (row := T.ent[r]?.getD []) (k := j) (by rw [lr]; exact hj)]
      rfl
theorem shp_pivot (h : Shp N m T) (hr : r < m) (hc : c < N) : Shp N m (T.pivot r c) := by
  refine ⟨by show (T.basic.set r _).length = m; rw [List.length_set, h.lb], by show (T.free.set c _).length = N; rw [List.length_set, h.lf],
    by show ((List.range _).map _).length = m; rw [List.length_map, List.length_range, h.le], fun u hu => by rw [ent_pivot h hu]; exact len_newRow h hr hu, ?_, ?_, ?_, ?_, ?_, ?_⟩
  · intro i j hi hj e
    rw [fr_pivot h hc, fr_pivot h hc] at e
    by_cases e1 : i = c <;> by_cases e2 : j = c
    · omega
    · rw [if_pos e1, if_neg e2] at e
      exact absurd e.symm (h.dis j r hj hr)
    · rw [if_neg e1, if_pos e2] at e
      exact absurd e (h.dis i r hi hr)
    · rw [if_neg e1, if_neg e2] at e
      exact h.frI i j hi hj e
  · intro i j hi hj e
    rw [b_pivot h hr, b_pivot h hr] at e
    by_cases e1 : i = r <;> by_cases e2 : j = r
    · omega
    · rw [if_pos e1, if_neg e2] at e
      exact absurd e (h.dis c j hc hj)
    · rw [if_neg e1, if_pos e2] at e
      exact absurd e.symm (h.dis c i hc hi)
    · rw [if_neg e1, if_neg e2] at e
      exact h.bI i j hi hj e
  · intro i j hi hj
    rw [fr_pivot h hc, b_pivot h hr]
    by_cases e1 : i = c <;> by_cases e2 : j = r
    · rw [if_pos e1, if_pos e2]
      exact fun z => h.dis c r hc hr z.symm
    · rw [if_pos e1, if_neg e2]
      exact fun z => e2 (h.bI j r hj hr z.symm)
    · rw [if_neg e1, if_pos e2]
      exact fun z => e1 (h.frI i c hi hc z)
    · rw [if_neg e1, if_neg e2]
      exact h.dis i j hi hj
  · intro v hv
    rcases h.cov v hv with ⟨i, hi, e⟩ | ⟨i, hi, e⟩
    · by_cases e1 : i = c
      · exact .inr ⟨r, hr, by rw [b_pivot h hr, if_pos rfl, ← e, e1]⟩
      · exact .inl ⟨i, hi, by rw [fr_pivot h hc, if_neg e1, e]⟩
    · by_cases e1 : i = r
      · exact .inl ⟨c, hc, by rw [fr_pivot h hc, if_pos rfl, ← e, e1]⟩
      · exact .inr ⟨i, hi, by rw [b_pivot h hr, if_neg e1, e]⟩
  · intro i hi
    rw [fr_pivot h hc]
    split
    · exact h.bL r hr
    · exact h.frL i hi
  · intro i hi
    rw [b_pivot h hr]
    split
    · exact h.frL c hc
    · exact h.bL i hi
theorem frm_pivot (h : Shp N m T) (hc : c < N) : (T.pivot r c).frm W = put (T.frm W) (c + 1) (W (T.b r)) := by
  funext k
  show (if k = 0 then un 0 else W ((T.pivot r c).fr (k - 1))) = if k = c + 1 then W (T.b r) else if k = 0 then un 0 else W (T.fr (k - 1))
  by_cases e : k = 0
  · rw [if_pos e, if_neg (by omega), if_pos e]
  · rw [if_neg e, fr_pivot h hc]
    by_cases e2 : k = c + 1
    · rw [if_pos e2, if_pos (by omega)]
    · rw [if_neg e2, if_neg (by omega), if_neg e]
theorem sg_or (hp : T.E r (c + 1) ≠ 0) : (T.sg r c = 1 ∧ 0 < T.E r (c + 1)) ∨ (T.sg r c = -1 ∧ T.E r (c + 1) < 0) := by
  unfold Tab.sg
  split
  · rename_i h; exact .inl ⟨rfl, h⟩
  · exact .inr ⟨rfl, by omega⟩
theorem ok_pivot (o : Ok W N m T s) (hr : r < m) (hc : c < N) (hp : T.E r (c + 1) ≠ 0) : Ok W N m (T.pivot r c) (T.sg r c * s) := by
  refine ⟨shp_pivot o.shp hr hc, ?_⟩
  have d := o.dic.pivot (r := r) (k := c + 1) hr (by omega) (sg_or hp)
  rw [frm_pivot o.shp hc]
  refine Dic.congr d (fun u k hu hk => E_pivot o.shp hr hc hu hk) fun u hu => ?_
  show W ((T.pivot r c).b u) = newW (T.frm W) (fun r => W (T.b r)) r (c + 1) u
  rw [b_pivot o.shp hr]
  unfold newW
  by_cases e : u = r
  · rw [if_pos e, if_pos e]
    rfl
  · rw [if_neg e, if_neg e]
/-! ### the corner -/
/-- a row's value at the corner, times below -/
def Tab.phi (W : Nat → Row) (N : Nat) (T : Tab) (s : Int) (v : Row) : Int := s * det (N + 1) (put (T.frm W) 0 v)
theorem phi_one (o : Ok W N m T s) : T.phi W N s (un 0) = T.below := by
  unfold Tab.phi
  have : put (T.frm W) 0 (un 0) = T.frm W := put_self (M := T.frm W) (k := 0)
  rw [this, o.dic.dt]
theorem phi_free (hc : c < N) : T.phi W N s (W (T.fr c)) = 0 := by
  unfold Tab.phi
  rw [det_alike (j := 0) (k := c + 1) _ (by omega) (by omega) (by omega), Int.mul_zero]
  rw [put_at, put_ne (by omega)]
  rfl
theorem phi_basic (o : Ok W N m T s) (hr : r < m) : T.phi W N s (W (T.b r)) = T.E r 0 := (o.dic.ent r 0 hr (by omega)).symm
theorem phi_sum {k : Nat} (cs : Nat → Int) (R : Nat → Row) : T.phi W N s (fun b => sumN k fun i => cs i * R i b) = sumN k fun i => cs i * T.phi W N s (R i) := by
  unfold Tab.phi
  rw [det_sum _ 0 (by omega), ← sumN_mul]
  exact sumN_congr fun i _ => by grind
theorem phi_mul {k : Int} {v : Row} : T.phi W N s (fun b => k * v b) = k * T.phi W N s v := by
  unfold Tab.phi
  rw [det_mul _ 0 _ _ (by omega)]; grind
theorem phi_congr {u v : Row} (h : ∀ b, b < N + 1 → u b = v b) : T.phi W N s u = T.phi W N s v := by
  unfold Tab.phi
  rw [det_congr (L := put (T.frm W) 0 v)]
  intro a b ha hb
  unfold put
  split
  · exact h b hb
  · rfl
end
/-! ### the rule of the least -/
def IsBad (m : Nat) (T : Tab) (r : Nat) : Prop := r < m ∧ T.E r 0 < 0 ∧ ∀ u, u < m → T.E u 0 < 0 → T.b r ≤ T.b u
def IsGrow (N : Nat) (T : Tab) (r c : Nat) : Prop := c < N ∧ 0 < T.E r (c + 1) ∧ ∀ j, j < N → 0 < T.E r (j + 1) → T.fr c ≤ T.fr j
theorem pigeon : ∀ (M K : Nat) (g : Nat → Nat), (∀ i, i < K → g i < M) → (∀ i j, i < K → j < K → g i = g j → i = j) → K ≤ M
  | 0, K, g, h, _ => by
    by_cases e : K = 0
    · omega
    · exact absurd (h 0 (by omega)) (Nat.not_lt_zero _)
  | M + 1, K, g, h, inj => by
    by_cases ex : ∃ i, i < K ∧ g i = M
    · obtain ⟨i0, hi0, e0⟩ := ex
      have := pigeon M (K - 1) (fun i => g (sk i0 i)) (fun i hi => by
        have h1 := h (sk i0 i) (by unfold sk; split <;> omega)
        have h2 : g (sk i0 i) ≠ M := fun z => sk_ne (inj _ _ (by unfold sk; split <;> omega) hi0 (z.trans e0.symm))
        show g (sk i0 i) < M
        omega) fun i j hi hj e => by
        have := inj _ _ (by unfold sk; split <;> omega) (by unfold sk; split <;> omega) e
        have a := uk_sk (i := i0) (a := i)
        have b := uk_sk (i := i0) (a := j)
        rw [this] at a
        omega
      omega
    · have := pigeon M K g (fun i hi => by
        have := h i hi
        have : g i ≠ M := fun z => ex ⟨i, hi, z⟩
        omega) inj
      omega
/-- a row of steps told by its entering and leaving variables: what it wants to be without a circle -/
structure Walk (N : Nat) (k : Nat) (F : Nat → Nat → Prop) (en lv : Nat → Nat) : Prop where
  out : ∀ i v, i < k → (F (i + 1) v ↔ (F i v ∧ v ≠ en i) ∨ v = lv i)
  enF : ∀ i, i < k → F i (en i)
  lvB : ∀ i, i < k → ¬ F i (lv i)
section
variable {N k : Nat} {F : Nat → Nat → Prop} {en lv : Nat → Nat}
theorem Walk.fwd (w : Walk N k F en lv) {v a : Nat} : ∀ d, a + d ≤ k → F a v → (∀ i, a ≤ i → i < a + d → en i ≠ v) → F (a + d) v
  | 0, _, h, _ => h
  | d + 1, hd, h, ne => (w.out (a + d) v (by omega)).mpr (.inl ⟨w.fwd d (by omega) h fun i h1 h2 => ne i h1 (by omega), fun e => ne (a + d) (by omega) (by omega) e.symm⟩)
theorem Walk.bwd (w : Walk N k F en lv) {v a : Nat} : ∀ d, a + d ≤ k → F (a + d) v → (∀ i, a ≤ i → i < a + d → lv i ≠ v) → F a v
  | 0, _, h, _ => h
  | d + 1, hd, h, ne => by
    rcases (w.out (a + d) v (by omega)).mp h with z | z
    · exact w.bwd d (by omega) z.1 fun i h1 h2 => ne i h1 (by omega)
    · exact absurd z.symm (ne (a + d) (by omega) (by omega))
theorem Walk.bwd_not (w : Walk N k F en lv) {v a d : Nat} (hd : a + d ≤ k) (h : ¬ F a v) (ne : ∀ i, a ≤ i → i < a + d → lv i ≠ v) : ¬ F (a + d) v := fun z => h (w.bwd d hd z ne)
/-- what leaves comes in again -/
theorem Walk.ent_of (w : Walk N k F en lv) (cyc : ∀ v, F k v ↔ F 0 v) {i : Nat} (hi : i < k) : ∃ j, j < k ∧ en j = lv i := by
  refine Classical.byContradiction fun no => ?_
  have no : ∀ j, j < k → en j ≠ lv i := fun j hj e => no ⟨j, hj, e⟩
  have h1 : F (i + 1) (lv i) := (w.out i _ hi).mpr (.inr rfl)
  have h2 : F k (lv i) := by
    have := w.fwd (k - (i + 1)) (by omega) h1 fun j _ hj => no j (by omega)
    rwa [show i + 1 + (k - (i + 1)) = k by omega] at this
  have h3 := (cyc _).mp h2
  have h4 := w.fwd i (by omega) h3 fun j _ hj => no j (by omega)
  rw [Nat.zero_add] at h4
  exact w.lvB i hi h4
theorem Walk.lv_of (w : Walk N k F en lv) (cyc : ∀ v, F k v ↔ F 0 v) {i : Nat} (hi : i < k) : ∃ j, j < k ∧ lv j = en i := by
  refine Classical.byContradiction fun no => ?_
  have no : ∀ j, j < k → lv j ≠ en i := fun j hj e => no ⟨j, hj, e⟩
  have h0 : F 0 (en i) := by
    have := w.bwd (a := 0) i (by omega) (by rw [Nat.zero_add]; exact w.enF i hi) fun j _ hj => no j (by omega)
    exact this
  have hk := (cyc _).mpr h0
  have h1 : F (i + 1) (en i) := by
    refine w.bwd (k - (i + 1)) (by omega) (by rw [show i + 1 + (k - (i + 1)) = k by omega]; exact hk) fun j _ hj => no j (by omega)
  rcases (w.out i _ hi).mp h1 with z | z
  · exact z.2 rfl
  · exact no i hi z.symm
/-- what neither comes nor leaves -/
theorem Walk.still (w : Walk N k F en lv) {v a b : Nat} (ha : a ≤ k) (hb : b ≤ k) (h : F a v) (ne : ∀ i, i < k → en i ≠ v) (nl : ∀ i, i < k → lv i ≠ v) : F b v := by
  by_cases e : a ≤ b
  · have := w.fwd (b - a) (by omega) h fun i _ hi => ne i (by omega)
    rwa [show a + (b - a) = b by omega] at this
  · exact w.bwd (a - b) (by omega) (by rw [show b + (a - b) = a by omega]; exact h) fun i _ hi => nl i (by omega)
theorem max_ex {g : Nat → Nat} : ∀ {k : Nat}, 0 < k → ∃ i, i < k ∧ ∀ j, j < k → g j ≤ g i
  | 0, h => absurd h (Nat.not_lt_zero _)
  | 1, _ => ⟨0, by omega, fun j hj => by rw [show j = 0 by omega]; exact Nat.le_refl _⟩
  | k + 2, _ => by
    obtain ⟨i, hi, h⟩ := max_ex (g := g) (k := k + 1) (by omega)
    by_cases e : g (k + 1) ≤ g i
    · exact ⟨i, by omega, fun j hj => by
        by_cases e2 : j = k + 1
        · rw [e2]; exact e
        · exact h j (by omega)⟩
    · exact ⟨k + 1, by omega, fun j hj => by
        by_cases e2 : j = k + 1
        · rw [e2]; exact Nat.le_refl _
        · have := h j (by omega); omega⟩
end
theorem sumN_neg {g : Nat → Int} : ∀ {n : Nat}, (∀ i, i < n → g i ≤ 0) → sumN n g ≤ 0
  | 0, _ => Int.le_refl 0
  | n + 1, h => by
    have a := sumN_neg (n := n) fun i hi => h i (by omega)
    have b := h n (by omega)
    show sumN n g + g n ≤ 0
    omega
theorem sumN_shift {g : Nat → Int} : ∀ n : Nat, sumN (n + 1) g = g 0 + sumN n fun i => g (i + 1)
  | 0 => by show (0 : Int) + g 0 = g 0 + 0; omega
  | n + 1 => by
    show sumN (n + 1) g + g (n + 1) = g 0 + (sumN n (fun i => g (i + 1)) + g (n + 1))
    rw [sumN_shift n]; omega
def isF (N : Nat) (T : Tab) (v : Nat) : Prop := ∃ c, c < N ∧ T.fr c = v
theorem mul_np {a b : Int} (ha : a ≤ 0) (hb : 0 ≤ b) : a * b ≤ 0 := Int.mul_nonpos_of_nonpos_of_nonneg ha hb
/-- steps of settle -/
structure Steps (W : Nat → Row) (N m k : Nat) (T : Nat → Tab) (r c : Nat → Nat) (s : Nat → Int) : Prop where
  ok : ∀ i, i ≤ k → Ok W N m (T i) (s i)
  bad : ∀ i, i < k → IsBad m (T i) (r i)
  gro : ∀ i, i < k → IsGrow N (T i) (r i) (c i)
  nxt : ∀ i, i < k → T (i + 1) = (T i).pivot (r i) (c i)
theorem isF_pivot {N m : Nat} {T : Tab} {r c : Nat} (h : Shp N m T) (hr : r < m) (hc : c < N) (v : Nat) : isF N (T.pivot r c) v ↔ (isF N T v ∧ v ≠ T.fr c) ∨ v = T.b r := by
  constructor
  · rintro ⟨j, hj, e⟩
    rw [fr_pivot h hc] at e
    by_cases e1 : j = c
    · rw [if_pos e1] at e; exact .inr e.symm
    · rw [if_neg e1] at e
      exact .inl ⟨⟨j, hj, e⟩, fun z => e1 (h.frI j c hj hc (e.trans z))⟩
  · rintro (⟨⟨j, hj, e⟩, ne⟩ | e)
    · exact ⟨j, hj, by rw [fr_pivot h hc, if_neg (fun z => ne (by rw [← e, z])), e]⟩
    · exact ⟨c, hc, by rw [fr_pivot h hc, if_pos rfl, e]⟩
theorem Steps.walk {W : Nat → Row} {N m k : Nat} {T : Nat → Tab} {r c : Nat → Nat} {s : Nat → Int} (st : Steps W N m k T r c s) : Walk N k (fun i => isF N (T i)) (fun i => (T i).fr (c i)) (fun i => (T i).b (r i)) := by
  refine ⟨fun i v hi => ?_, fun i hi => ⟨c i, (st.gro i hi).1, rfl⟩, fun i hi => ?_⟩
  · show isF N (T (i + 1)) v ↔ _
    rw [st.nxt i hi]
    exact isF_pivot (st.ok i (by omega)).shp (st.bad i hi).1 (st.gro i hi).1 v
  · rintro ⟨j, hj, e⟩
    exact (st.ok i (by omega)).shp.dis j (r i) hj (st.bad i hi).1 e
/-- the rule goes in no circle -/
theorem Steps.no_circle {W : Nat → Row} {N m k : Nat} {T : Nat → Tab} {r c : Nat → Nat} {s : Nat → Int} (st : Steps W N m k T r c s) (hk : 0 < k) : ¬ ∀ v, isF N (T k) v ↔ isF N (T 0) v := by
  intro cyc
  have w := st.walk
  obtain ⟨i0, hi0, mx⟩ := max_ex (g := fun i => (T i).b (r i)) hk
  have mxE : ∀ i, i < k → (T i).fr (c i) ≤ (T i0).b (r i0) := fun i hi => by
    obtain ⟨j, hj, e⟩ := w.lv_of cyc hi
    have := mx j hj
    have e : (T j).b (r j) = (T i).fr (c i) := e
    omega
  obtain ⟨j0, hj0, et⟩ := w.ent_of cyc hi0
  have et : (T j0).fr (c j0) = (T i0).b (r i0) := et
  have oD := st.ok i0 (by omega)
  have oS := st.ok j0 (by omega)
  obtain ⟨hb1, hb2, hb3⟩ := st.bad i0 hi0
  obtain ⟨hs1, hs2, _⟩ := st.bad j0 hj0
  obtain ⟨hg1, hg2, hg3⟩ := st.gro j0 hj0
  -- the value of a fickle variable other than the greatest one
  have val : ∀ v, v < N + m → v < (T i0).b (r i0) → 0 ≤ (T i0).phi W N (s i0) (W v) := fun v hv hlt => by
    rcases oD.shp.cov v hv with ⟨a, ha, e⟩ | ⟨a, ha, e⟩
    · rw [← e, phi_free ha]; exact Int.le_refl 0
    · rw [← e, phi_basic oD ha]
      refine Int.not_lt.mp fun neg => ?_
      have := hb3 a ha neg
      omega
  have rel := phi_congr (W := W) (N := N) (T := T i0) (s := s i0) (u := fun b => (T j0).below * W ((T j0).b (r j0)) b) (v := fun b => sumN (N + 1) fun k => (T j0).E (r j0) k * (T j0).frm W k b) fun b hb => oS.dic.rel (r j0) b hs1 hb
  rw [phi_mul, phi_sum, sumN_shift] at rel
  have h0 : (T i0).phi W N (s i0) ((T j0).frm W 0) = (T i0).below := phi_one oD
  rw [h0] at rel
  have neg0 : (T j0).E (r j0) 0 * (T i0).below < 0 := Int.mul_neg_of_neg_of_pos hs2 oD.dic.pos
  have rest : sumN N (fun i => (T j0).E (r j0) (i + 1) * (T i0).phi W N (s i0) ((T j0).frm W (i + 1))) ≤ 0 := by
    refine sumN_neg fun a ha => ?_
    have ef : (T j0).frm W (a + 1) = W ((T j0).fr a) := rfl
    rw [ef]
    by_cases e : a = c j0
    · subst e
      rw [et, phi_basic oD hb1]
      exact Int.mul_nonpos_of_nonneg_of_nonpos (Int.le_of_lt hg2) (Int.le_of_lt hb2)
    · have vne : (T j0).fr a ≠ (T i0).b (r i0) := fun z => e (oS.shp.frI a (c j0) ha hg1 (z.trans et.symm))
      by_cases fick : (∃ i, i < k ∧ (T i).fr (c i) = (T j0).fr a) ∨ ∃ i, i < k ∧ (T i).b (r i) = (T j0).fr a
      · have le : (T j0).fr a ≤ (T i0).b (r i0) := by
          rcases fick with ⟨i, hi, e2⟩ | ⟨i, hi, e2⟩
          · rw [← e2]; exact mxE i hi
          · rw [← e2]; exact mx i hi
        have np : (T j0).E (r j0) (a + 1) ≤ 0 := Int.not_lt.mp fun pos => by
          have := hg3 a ha pos
          omega
        exact mul_np np (val _ (oS.shp.frL a ha) (by omega))
      · have st2 := w.still (a := j0) (b := i0) (v := (T j0).fr a) (by omega) (by omega) ⟨a, ha, rfl⟩ (fun i hi e2 => fick (.inl ⟨i, hi, e2⟩)) fun i hi e2 => fick (.inr ⟨i, hi, e2⟩)
        obtain ⟨a', ha', e2⟩ := st2
        rw [← e2, phi_free ha', Int.mul_zero]
        exact Int.le_refl 0
  have lne : (T j0).b (r j0) ≠ (T i0).b (r i0) := fun z => oS.shp.dis (c j0) (r j0) hg1 hs1 (et.trans z.symm)
  have lle : (T j0).b (r j0) ≤ (T i0).b (r i0) := mx j0 hj0
  have v := val _ (oS.shp.bL (r j0) hs1) (by omega)
  have : 0 ≤ (T j0).below * (T i0).phi W N (s i0) (W ((T j0).b (r j0))) := Int.mul_nonneg (Int.le_of_lt oS.dic.pos) v
  omega
end Ev.Sv

namespace Ev.Sv
section
variable {W : Nat → Row} {N m : Nat} {T T0 T' : Tab} {s s0 : Int} {r c u j : Nat}
theorem IsBad.uniq (h : Shp N m T) (a : IsBad m T r) (b : IsBad m T u) : r = u := by
  have h1 := a.2.2 u b.1 b.2.1
  have h2 := b.2.2 r a.1 a.2.1
  exact h.bI r u a.1 b.1 (by omega)
theorem IsGrow.uniq (h : Shp N m T) (a : IsGrow N T r c) (b : IsGrow N T r j) : c = j := by
  have h1 := a.2.2 j b.1 b.2.1
  have h2 := b.2.2 c a.1 a.2.1
  exact h.frI c j a.1 b.1 (by omega)
/-- the least of some -/
theorem least_ex (P : Nat → Prop) (g : Nat → Nat) : ∀ n : Nat, (∃ i, i < n ∧ P i) → ∃ i, i < n ∧ P i ∧ ∀ j, j < n → P j → g i ≤ g j
  | 0, ⟨i, h, _⟩ => absurd h (Nat.not_lt_zero _)
  | n + 1, ⟨i, hi, pi⟩ => by
    by_cases ex : ∃ i, i < n ∧ P i
    · obtain ⟨a, ha, pa, la⟩ := least_ex P g n ex
      by_cases pn : P n ∧ g n < g a
      · exact ⟨n, by omega, pn.1, fun j hj pj => by
          by_cases e : j = n
          · rw [e]; exact Nat.le_refl _
          · have := la j (by omega) pj; omega⟩
      · exact ⟨a, by omega, pa, fun j hj pj => by
          by_cases e : j = n
          · subst e
            exact Nat.not_lt.mp fun z => pn ⟨pj, z⟩
          · exact la j (by omega) pj⟩
    · have e : i = n := by
        refine Classical.byContradiction fun ne => ex ⟨i, by omega, pi⟩
      subst e
      exact ⟨i, by omega, pi, fun j hj pj => by
        by_cases e : j = i
        · rw [e]; exact Nat.le_refl _
        · exact absurd ⟨j, by omega, pj⟩ ex⟩
theorem bad_ex (h : ∃ r, r < m ∧ T.E r 0 < 0) : ∃ r, IsBad m T r := by
  obtain ⟨i, h1, h2, h3⟩ := least_ex (fun r => T.E r 0 < 0) T.b m h
  exact ⟨i, h1, h2, h3⟩
theorem grow_ex (h : ∃ c, c < N ∧ 0 < T.E r (c + 1)) : ∃ c, IsGrow N T r c := by
  obtain ⟨i, h1, h2, h3⟩ := least_ex (fun c => 0 < T.E r (c + 1)) T.fr N h
  exact ⟨i, h1, h2, h3⟩
/-- some steps of settle -/
inductive Ch (N m : Nat) (T0 : Tab) : Nat → Tab → Prop
  | nil : Ch N m T0 0 T0
  | cons {i : Nat} {T : Tab} {r c : Nat} : Ch N m T0 i T → IsBad m T r → IsGrow N T r c → Ch N m T0 (i + 1) (T.pivot r c)
theorem Ch.ok (o : Ok W N m T0 s0) {i : Nat} (ch : Ch N m T0 i T) : ∃ s, Ok W N m T s := by
  induction ch with
  | nil => exact ⟨s0, o⟩
  | cons _ b g ih =>
    obtain ⟨s, o⟩ := ih
    exact ⟨_, ok_pivot o b.1 g.1 (by have := g.2.1; omega)⟩
theorem Ch.steps (o : Ok W N m T0 s0) {k : Nat} (ch : Ch N m T0 k T) : ∃ f r c s, f 0 = T0 ∧ f k = T ∧ Steps W N m k f r c s := by
  induction ch with
  | nil => exact ⟨fun _ => T0, fun _ => 0, fun _ => 0, fun _ => s0, rfl, rfl, fun _ _ => o, fun i h => absurd h (Nat.not_lt_zero _), fun i h => absurd h (Nat.not_lt_zero _), fun i h => absurd h (Nat.not_lt_zero _)⟩
  | @cons k T r0 c0 ch b g ih =>
    obtain ⟨f, r, c, s, e0, ek, st⟩ := ih
    have ok := st.ok k (Nat.le_refl _)
    rw [ek] at ok
    refine ⟨fun i => if i = k + 1 then T.pivot r0 c0 else f i, fun i => if i = k then r0 else r i, fun i => if i = k then c0 else c i, fun i => if i = k + 1 then T.sg r0 c0 * s k else s i, ?_, if_pos rfl, ?_, ?_, ?_, ?_⟩
    · show (if 0 = k + 1 then T.pivot r0 c0 else f 0) = T0
      rw [if_neg (by omega)]; exact e0
    · intro i hi
      by_cases e : i = k + 1
      · simp only [e, if_true]
        exact ok_pivot ok b.1 g.1 (by have := g.2.1; omega)
      · simp only [e, if_false]
        exact st.ok i (by omega)
    · intro i hi
      have e1 : ¬ i = k + 1 := by omega
      by_cases e : i = k
      · simp only [e1, e, if_true, if_false]
        rw [if_neg (by omega), ek]; exact b
      · simp only [e1, e, if_false]
        exact st.bad i (by omega)
    · intro i hi
      have e1 : ¬ i = k + 1 := by omega
      by_cases e : i = k
      · simp only [e, if_true]
        rw [if_neg (by omega), ek]; exact g
      · simp only [e1, e, if_false]
        exact st.gro i (by omega)
    · intro i hi
      by_cases e : i = k
      · simp only [e, if_true]
        rw [if_neg (by omega), ek]
      · have e1 : ¬ i + 1 = k + 1 := by omega
        have e2 : ¬ i = k + 1 := by omega
        simp only [e1, e, e2, if_false]
        exact st.nxt i (by omega)
/-- the free variables as a number -/
def encN (V : Nat) : Nat → (Nat → Nat) → Nat
  | 0, _ => 0
  | n + 1, g => encN V n g + g n * V ^ n
theorem enc_lt {V : Nat} {g : Nat → Nat} : ∀ {n : Nat}, (∀ i, i < n → g i < V) → encN V n g < V ^ n
  | 0, _ => by simp [encN]
  | n + 1, h => by
    have a := enc_lt (n := n) fun i hi => h i (by omega)
    have b := h n (by omega)
    show encN V n g + g n * V ^ n < V ^ (n + 1)
    rw [Nat.pow_succ]
    have c : (g n + 1) * V ^ n ≤ V * V ^ n := Nat.mul_le_mul_right _ b
    rw [Nat.succ_mul] at c
    rw [Nat.mul_comm (V ^ n)]
    omega
theorem enc_inj {V : Nat} {g k : Nat → Nat} : ∀ {n : Nat}, (∀ i, i < n → g i < V) → (∀ i, i < n → k i < V) → encN V n g = encN V n k → ∀ i, i < n → g i = k i
  | 0, _, _, _, i, h => absurd h (Nat.not_lt_zero _)
  | n + 1, hg, hk, e, i, hi => by
    have a := enc_lt (n := n) fun i hi => hg i (by omega)
    have b := enc_lt (n := n) fun i hi => hk i (by omega)
    have e : encN V n g + g n * V ^ n = encN V n k + k n * V ^ n := e
    have en : g n = k n := by
      have d1 : (encN V n g + g n * V ^ n) / V ^ n = g n := by
        rw [Nat.add_mul_div_right _ _ (by omega), Nat.div_eq_of_lt a, Nat.zero_add]
      have d2 : (encN V n k + k n * V ^ n) / V ^ n = k n := by
        rw [Nat.add_mul_div_right _ _ (by omega), Nat.div_eq_of_lt b, Nat.zero_add]
      rw [← d1, ← d2, e]
    by_cases z : i = n
    · rw [z, en]
    · exact enc_inj (n := n) (fun i hi => hg i (by omega)) (fun i hi => hk i (by omega)) (by rw [en] at e; omega) i (by omega)
theorem Steps.sub {f : Nat → Tab} {r c : Nat → Nat} {s : Nat → Int} {k a b : Nat} (st : Steps W N m k f r c s) (h1 : a + b ≤ k) : Steps W N m b (fun i => f (a + i)) (fun i => r (a + i)) (fun i => c (a + i)) (fun i => s (a + i)) :=
  ⟨fun i hi => st.ok _ (by omega), fun i hi => st.bad _ (by omega), fun i hi => st.gro _ (by omega), fun i hi => st.nxt (a + i) (by omega)⟩
theorem Steps.bound {f : Nat → Tab} {r c : Nat → Nat} {s : Nat → Int} {k : Nat} (st : Steps W N m k f r c s) : k < (N + m) ^ N := by
  refine pigeon _ (k + 1) (fun i => encN (N + m) N (f i).fr) (fun i hi => enc_lt fun j hj => (st.ok i (by omega)).shp.frL j hj) ?_
  have key : ∀ i j, i < j → j < k + 1 → encN (N + m) N (f i).fr ≠ encN (N + m) N (f j).fr := by
    intro i j hij hj e
    have same := enc_inj (fun a ha => (st.ok i (by omega)).shp.frL a ha) (fun a ha => (st.ok j (by omega)).shp.frL a ha) e
    refine (st.sub (a := i) (b := j - i) (by omega)).no_circle (by omega) fun v => ?_
    show isF N (f (i + (j - i))) v ↔ isF N (f i) v
    rw [show i + (j - i) = j by omega]
    exact ⟨fun ⟨a, ha, e⟩ => ⟨a, ha, by rw [same a ha]; exact e⟩, fun ⟨a, ha, e⟩ => ⟨a, ha, by rw [← same a ha]; exact e⟩⟩
  intro i j hi hj e
  rcases Nat.lt_trichotomy i j with h | h | h
  · exact absurd e (key i j h hj)
  · exact h
  · exact absurd e.symm (key j i h hi)
theorem Ch.bound (o : Ok W N m T0 s0) {k : Nat} (ch : Ch N m T0 k T) : k < (N + m) ^ N := by
  obtain ⟨f, r, c, s, _, _, st⟩ := ch.steps o
  exact st.bound
/-! ### the end -/
def Ends (N m : Nat) (T : Tab) : Option Nat → Prop
  | none => ∀ r, r < m → 0 ≤ T.E r 0
  | some r => IsBad m T r ∧ ∀ c, c < N → T.E r (c + 1) ≤ 0
theorem Ch.front {i : Nat} (ch : Ch N m T0 (i + 1) T) : ∃ r c, IsBad m T0 r ∧ IsGrow N T0 r c ∧ Ch N m (T0.pivot r c) i T := by
  generalize hj : i + 1 = j at ch
  induction ch generalizing i with
  | nil => omega
  | @cons k T r c ch b g ih =>
    cases k with
    | zero =>
      cases ch
      obtain rfl : i = 0 := by omega
      exact ⟨r, c, b, g, .nil⟩
    | succ k =>
      obtain ⟨r', c', b', g', ch'⟩ := ih (i := k) rfl
      obtain rfl : i = k + 1 := by omega
      exact ⟨r', c', b', g', .cons ch' b g⟩
theorem Ends.noStep (h : Shp N m T) {o : Option Nat} (e : Ends N m T o) (b : IsBad m T r) (g : IsGrow N T r c) : False := by
  cases o with
  | none =>
    have := e r b.1
    have := b.2.1
    omega
  | some u =>
    have eu := e.1.uniq h b
    subst eu
    have := e.2 c g.1
    have := g.2.1
    omega
theorem Ends.uniq (h : Shp N m T) {o o' : Option Nat} (e : Ends N m T o) (e' : Ends N m T o') : o = o' := by
  cases o with
  | none =>
    cases o' with
    | none => rfl
    | some u =>
      have := e u e'.1.1
      have := e'.1.2.1
      omega
  | some r =>
    cases o' with
    | none =>
      have := e' r e.1.1
      have := e.1.2.1
      omega
    | some u => rw [e.1.uniq h e'.1]
theorem Ch.uniq (o : Ok W N m T0 s0) : ∀ {i j : Nat} {T T' : Tab} {e e' : Option Nat}, Ch N m T0 i T → Ends N m T e → Ch N m T0 j T' → Ends N m T' e' → T = T' ∧ e = e' := by
  intro i
  induction i generalizing T0 s0 with
  | zero =>
    intro j T T' e e' c1 h1 c2 h2
    cases c1
    cases j with
    | zero => cases c2; exact ⟨rfl, h1.uniq o.shp h2⟩
    | succ j =>
      obtain ⟨r, c, b, g, _⟩ := c2.front
      exact (h1.noStep o.shp b g).elim
  | succ i ih =>
    intro j T T' e e' c1 h1 c2 h2
    obtain ⟨r, c, b, g, c1⟩ := c1.front
    cases j with
    | zero => cases c2; exact (h2.noStep o.shp b g).elim
    | succ j =>
      obtain ⟨r', c', b', g', c2⟩ := c2.front
      have er := b.uniq o.shp b'
      subst er
      have ec := g.uniq o.shp g'
      subst ec
      exact ih (ok_pivot o b.1 g.1 (by have := g.2.1; omega)) c1 h1 c2 h2
theorem ends_or (N m : Nat) (T : Tab) : (∃ o, Ends N m T o) ∨ ∃ r c, IsBad m T r ∧ IsGrow N T r c := by
  by_cases hb : ∃ r, r < m ∧ T.E r 0 < 0
  · obtain ⟨r, b⟩ := bad_ex hb
    by_cases hg : ∃ c, c < N ∧ 0 < T.E r (c + 1)
    · obtain ⟨c, g⟩ := grow_ex hg
      exact .inr ⟨r, c, b, g⟩
    · exact .inl ⟨some r, b, fun c hc => Int.not_lt.mp fun z => hg ⟨c, hc, z⟩⟩
  · exact .inl ⟨none, fun r hr => Int.not_lt.mp fun z => hb ⟨r, hr, z⟩⟩
theorem end_ex (o : Ok W N m T0 s0) : ∃ i T e, Ch N m T0 i T ∧ Ends N m T e := by
  refine Classical.byContradiction fun no => ?_
  have all : ∀ i, ∃ T, Ch N m T0 i T := by
    intro i
    induction i with
    | zero => exact ⟨T0, .nil⟩
    | succ i ih =>
      obtain ⟨T, ch⟩ := ih
      rcases ends_or N m T with ⟨e, he⟩ | ⟨r, c, b, g⟩
      · exact (no ⟨i, T, e, ch, he⟩).elim
      · exact ⟨_, .cons ch b g⟩
  obtain ⟨T, ch⟩ := all ((N + m) ^ N)
  exact absurd (ch.bound o) (Nat.lt_irrefl _)
/-! ### what the end says -/
/-- the value of a variable at the corner, times below -/
def Tab.value (T : Tab) (v : Nat) : Int := if v ∈ T.basic then T.E (T.basic.idxOf v) 0 else 0
theorem b_get (h : Shp N m T) (hr : r < m) : T.basic[r]? = some (T.b r) := by
  unfold Tab.b
  rw [List.getElem?_eq_getElem (by rw [h.lb]; exact hr)]; rfl
theorem idx_b (h : Shp N m T) (hr : r < m) : T.b r ∈ T.basic ∧ T.basic.idxOf (T.b r) = r := by
  have hm : T.b r ∈ T.basic := List.mem_of_getElem? (b_get h hr)
  refine ⟨hm, ?_⟩
  have hi := List.idxOf_lt_length_of_mem hm
  have e := List.getElem_idxOf hi
  have hi2 : T.basic.idxOf (T.b r) < m := by rw [← h.lb]; exact hi
  refine h.bI _ _ hi2 hr ?_
  have := b_get h hi2
  rw [List.getElem?_eq_getElem hi, e] at this
  exact (Option.some.inj this).symm
theorem value_b (h : Shp N m T) (hr : r < m) : T.value (T.b r) = T.E r 0 := by
  obtain ⟨h1, h2⟩ := idx_b h hr
  unfold Tab.value
  rw [if_pos h1, h2]
theorem not_b (h : Shp N m T) (hc : c < N) : T.fr c ∉ T.basic := fun hm => by
  obtain ⟨i, hi, e⟩ := List.mem_iff_getElem.mp hm
  have hi2 : i < m := by rw [← h.lb]; exact hi
  have := b_get h hi2
  rw [List.getElem?_eq_getElem hi, e] at this
  exact h.dis c i hc hi2 (Option.some.inj this)
theorem value_f (h : Shp N m T) (hc : c < N) : T.value (T.fr c) = 0 := by
  unfold Tab.value
  rw [if_neg (not_b h hc)]
theorem value_phi (o : Ok W N m T s) {v : Nat} (hv : v < N + m) : T.value v = T.phi W N s (W v) := by
  rcases o.shp.cov v hv with ⟨i, hi, rfl⟩ | ⟨i, hi, rfl⟩
  · rw [value_f o.shp hi, phi_free hi]
  · rw [value_b o.shp hi, phi_basic o hi]
theorem value_pos (o : Ok W N m T s) (e : Ends N m T none) {v : Nat} (hv : v < N + m) : 0 ≤ T.value v := by
  rcases o.shp.cov v hv with ⟨i, hi, rfl⟩ | ⟨i, hi, rfl⟩
  · rw [value_f o.shp hi]; exact Int.le_refl 0
  · rw [value_b o.shp hi]; exact e i hi
/-- a row as the sum of its parts -/
theorem row_sum {n : Nat} {v : Row} {b : Nat} (hb : b < n) : v b = sumN n fun i => v i * un i b := by
  rw [sumN_one (j := b) hb]
  · show v b = v b * un b b
    rw [show un b b = 1 from if_pos rfl, Int.mul_one]
  · intro i hi ne
    show v i * un i b = 0
    rw [show un i b = 0 from if_neg ne, Int.mul_zero]
/-- the structural variables come first -/
def Std (W : Nat → Row) (N : Nat) : Prop := ∀ j b, j < N → b < N + 1 → W j b = un (j + 1) b
theorem value_row (o : Ok W N m T s) (st : Std W N) {v : Nat} (hv : v < N + m) : T.value v = W v 0 * T.below + sumN N fun j => W v (j + 1) * T.value j := by
  rw [value_phi o hv, phi_congr (v := fun b => sumN (N + 1) fun i => W v i * un i b) fun b hb => row_sum hb, phi_sum, sumN_shift, phi_one o]
  congr 1
  refine sumN_congr fun j hj => ?_
  rw [value_phi o (by omega), phi_congr (u := un (j + 1)) (v := W j) fun b hb => (st j b hj hb).symm]
/-- the sum that shows that there is nothing -/
theorem farkas (o : Ok W N m T s) (hr : r < m) {b : Nat} (hb : b < N + 1) : T.below * W (T.b r) b + sumN N (fun c => (0 - T.E r (c + 1)) * W (T.fr c) b) = if b = 0 then T.E r 0 else 0 := by
  have d := o.dic.rel r b hr hb
  rw [sumN_shift] at d
  have e1 : sumN N (fun c => (0 - T.E r (c + 1)) * W (T.fr c) b) = -1 * sumN N fun i => T.E r (i + 1) * T.frm W (i + 1) b := by
    rw [← sumN_mul]
    refine sumN_congr fun c hc => ?_
    show (0 - T.E r (c + 1)) * W (T.fr c) b = -1 * (T.E r (c + 1) * W (T.fr c) b)
    grind
  have e0 : T.frm W 0 b = if b = 0 then 1 else 0 := by
    show un 0 b = _
    unfold un
    by_cases z : b = 0
    · rw [if_pos z.symm, if_pos z]
    · rw [if_neg fun q => z q.symm, if_neg z]
  rw [e0] at d
  rw [e1]
  by_cases z : b = 0
  · rw [if_pos z] at d ⊢
    grind
  · rw [if_neg z] at d ⊢
    grind
/-! ### how great the numbers are -/
theorem Ok.small (o : Ok W N m T s) {C : Nat} (h1 : 1 ≤ C) (h : ∀ v b, v < N + m → b < N + 1 → (W v b).natAbs ≤ C) : T.below.natAbs ≤ fac (N + 1) * C ^ (N + 1) ∧ ∀ r k, r < m → k < N + 1 → (T.E r k).natAbs ≤ fac (N + 1) * C ^ (N + 1) := by
  have hs : ∀ x : Int, (s * x).natAbs = x.natAbs := fun x => by
    rcases o.dic.sgn with e | e <;> subst e <;> rw [Int.natAbs_mul] <;> simp
  have fm : ∀ a b, a < N + 1 → b < N + 1 → (T.frm W a b).natAbs ≤ C := fun a b ha hb => by
    unfold Tab.frm
    split
    · unfold un; split <;> simp <;> omega
    · exact h _ b (o.shp.frL _ (by omega)) hb
  constructor
  · rw [o.dic.dt, hs]
    exact det_abs fm
  · intro r k hr hk
    rw [o.dic.ent r k hr hk, hs]
    refine det_abs fun a b ha hb => ?_
    unfold put
    split
    · exact h _ b (o.shp.bL r hr) hb
    · exact fm a b ha hb
end
/-! ### the beginning -/
def rowW (row : List Int × Int) : Row := fun b => if b = 0 then row.2 else 0 - row.1[b - 1]?.getD 0
def stW (rows : List (List Int × Int)) (N : Nat) : Nat → Row := fun v => if v < N then un (v + 1) else rowW (rows[v - N]?.getD ([], 0))
def Tab.init (rows : List (List Int × Int)) (N : Nat) : Tab where
  basic := (List.range rows.length).map fun i => N + i
  free := List.range N
  ent := rows.map fun p => p.2 :: p.1.map fun x => 0 - x
  below := 1
theorem st_std {rows : List (List Int × Int)} {N : Nat} : Std (stW rows N) N := fun j b hj _ => by
  unfold stW; rw [if_pos hj]
theorem init_fr {rows : List (List Int × Int)} {N c : Nat} (h : c < N) : (Tab.init rows N).fr c = c := by
  show (List.range N)[c]?.getD 0 = c
  rw [List.getElem?_range h]; rfl
theorem init_b {rows : List (List Int × Int)} {N r : Nat} (h : r < rows.length) : (Tab.init rows N).b r = N + r := by
  show ((List.range rows.length).map fun i => N + i)[r]?.getD 0 = N + r
  rw [List.getElem?_map, List.getElem?_range h]; rfl
theorem init_E {rows : List (List Int × Int)} {N r k : Nat} (h : ∀ p ∈ rows, p.1.length = N) (hr : r < rows.length) (hk : k < N + 1) : (Tab.init rows N).E r k = rowW (rows[r]?.getD ([], 0)) k := by
  show ((rows.map fun p => p.2 :: p.1.map fun x => 0 - x)[r]?.getD [])[k]?.getD 0 = _
  have e : rows[r]? = some rows[r] := List.getElem?_eq_getElem hr
  rw [List.getElem?_map, e]
  show (rows[r].2 :: rows[r].1.map fun x => 0 - x)[k]?.getD 0 = rowW rows[r] k
  unfold rowW
  have l := h rows[r] (List.getElem_mem hr)
  cases k with
  | zero => rfl
  | succ k =>
    rw [if_neg (by omega), List.getElem?_cons_succ, List.getElem?_map, Nat.add_sub_cancel, List.getElem?_eq_getElem (by omega)]
    rfl
theorem init_ok {rows : List (List Int × Int)} {N : Nat} (h : ∀ p ∈ rows, p.1.length = N) : Ok (stW rows N) N rows.length (Tab.init rows N) 1 := by
  have fm : ∀ k, k < N + 1 → (Tab.init rows N).frm (stW rows N) k = un k := fun k hk => by
    unfold Tab.frm
    split
    · rename_i e; rw [e]
    · rename_i e
      rw [init_fr (by omega)]
      unfold stW
      rw [if_pos (by omega), show k - 1 + 1 = k by omega]
  have wb : ∀ r, r < rows.length → stW rows N ((Tab.init rows N).b r) = rowW (rows[r]?.getD ([], 0)) := fun r hr => by
    rw [init_b hr]
    unfold stW
    rw [if_neg (by omega), Nat.add_sub_cancel_left]
  refine ⟨⟨?_, ?_, ?_, ?_, ?_, ?_, ?_, ?_, ?_, ?_⟩, Or.inl rfl, (show (0 : Int) < 1 by decide), ?_, ?_, ?_⟩
  · show ((List.range rows.length).map _).length = _; rw [List.length_map, List.length_range]
  · exact List.length_range
  · show (rows.map _).length = _; rw [List.length_map]
  · intro r hr
    show ((rows.map fun p => p.2 :: p.1.map fun x => 0 - x)[r]?.getD []).length = N + 1
    rw [List.getElem?_map, List.getElem?_eq_getElem hr]
    show (rows[r].2 :: rows[r].1.map fun x => 0 - x).length = N + 1
    rw [List.length_cons, List.length_map, h _ (List.getElem_mem hr)]
  · intro i j hi hj e
    rw [init_fr hi, init_fr hj] at e; exact e
  · intro i j hi hj e
    rw [init_b hi, init_b hj] at e; omega
  · intro i j hi hj
    rw [init_fr hi, init_b hj]; omega
  · intro v hv
    by_cases e : v < N
    · exact .inl ⟨v, e, init_fr e⟩
    · exact .inr ⟨v - N, by omega, by rw [init_b (by omega)]; omega⟩
  · intro i hi
    rw [init_fr hi]; omega
  · intro i hi
    rw [init_b hi]; omega
  · show (1 : Int) = 1 * det (N + 1) _
    rw [det_congr (L := un) fun a b ha _ => by rw [fm a ha], det_un]; rfl
  · intro r k hr hk
    rw [init_E h hr hk, wb r hr, Int.one_mul]
    rw [det_congr (L := put un k (rowW (rows[r]?.getD ([], 0)))) fun a b ha _ => ?_, det_un_put hk]
    unfold put
    split
    · rfl
    · rw [fm a ha]
  · intro r b hr hb
    show 1 * stW rows N ((Tab.init rows N).b r) b = _
    rw [Int.one_mul, wb r hr]
    rw [sumN_congr (k := fun k => rowW (rows[r]?.getD ([], 0)) k * un k b) fun k hk => by rw [init_E h hr hk, fm k hk]]
    exact row_sum hb
end Ev.Sv

namespace Ev.Sv
/-! ### unknowns, forms, kinds -/
/-- none: the radius -/
abbrev U := Option (Nat × Nat)
abbrev FU := List (Int × U)
/-- a fact: whether it says less than, its form -/
abbrev Fc := Bool × FU
def UOk (n : Nat) : U → Prop
  | none => True
  | some (i, j) => i < n ∧ j < n ∧ i ≠ j
def pairsK (b : Bool) (n : Nat) : List (Nat × Nat) := (List.range n).flatMap fun x => (List.range n).flatMap fun y => if x ≠ y ∧ (x < y ∨ b = false) then [(x, y)] else []
theorem mem_pairsK {b : Bool} {n x y : Nat} : (x, y) ∈ pairsK b n ↔ x < n ∧ y < n ∧ x ≠ y ∧ (x < y ∨ b = false) := by
  unfold pairsK
  simp only [List.mem_flatMap, List.mem_range]
  constructor
  · rintro ⟨a, ha, c, hc, hm⟩
    split at hm
    · rename_i h
      cases List.mem_singleton.mp hm
      exact ⟨ha, hc, h.1, h.2⟩
    · cases hm
  · rintro ⟨ha, hb, h1, h2⟩
    exact ⟨x, ha, y, hb, by rw [if_pos ⟨h1, h2⟩]; exact List.mem_singleton.mpr rfl⟩
def normK (b : Bool) (p : Nat × Nat) : Nat × Nat := if b then (min p.1 p.2, max p.1 p.2) else p
def posU (b : Bool) (n : Nat) : U → Nat
  | none => (pairsK b n).length
  | some p => (pairsK b n).idxOf (normK b p)
def NU (b : Bool) (n : Nat) : Nat := (pairsK b n).length + 1
theorem norm_mem {b : Bool} {n i j : Nat} (h : UOk n (some (i, j))) : normK b (i, j) ∈ pairsK b n := by
  obtain ⟨h1, h2, h3⟩ := h
  unfold normK
  cases b with
  | true => exact mem_pairsK.mpr ⟨by simp only; omega, by simp only; omega, by simp only; omega, .inl (by simp only; omega)⟩
  | false => exact mem_pairsK.mpr ⟨h1, h2, h3, .inr rfl⟩
theorem pos_lt {b : Bool} {n : Nat} {u : U} (h : UOk n u) : posU b n u < NU b n := by
  unfold posU NU
  cases u with
  | none => exact Nat.lt_succ_self _
  | some p => exact Nat.lt_succ_of_lt (List.idxOf_lt_length_of_mem (norm_mem h))
def coefU (b : Bool) (n : Nat) (f : FU) (k : Nat) : Int := (f.map fun p => if posU b n p.2 = k then p.1 else 0).sum
def vecU (b : Bool) (n : Nat) (f : FU) : List Int := (List.range (NU b n)).map (coefU b n f)
def FOk (n : Nat) (f : FU) : Prop := ∀ p ∈ f, UOk n p.2
/-- the value at numbers -/
theorem vec_dot {b : Bool} {n : Nat} {x : Nat → Int} : ∀ {f : FU}, FOk n f → sumN (NU b n) (fun k => coefU b n f k * x k) = (f.map fun p => p.1 * x (posU b n p.2)).sum
  | [], _ => by
    rw [sumN_zero]
    · rfl
    · intro i _
      show (0 : Int) * _ = 0
      rw [Int.zero_mul]
  | p :: f, h => by
    have ih := vec_dot (b := b) (x := x) (f := f) fun q hq => h q (List.mem_cons_of_mem _ hq)
    have hp := pos_lt (b := b) (h p List.mem_cons_self)
    rw [sumN_congr (k := fun k => (if posU b n p.2 = k then p.1 else 0) * x k + coefU b n f k * x k) fun k _ => by
      show ((if posU b n p.2 = k then p.1 else 0) + coefU b n f k) * x k = _
      rw [Int.add_mul], sumN_add, ih, sumN_one (j := posU b n p.2) hp]
    · simp
    · intro i _ ne
      rw [if_neg (Ne.symm ne), Int.zero_mul]
def valU (f : FU) (T : Nat → Nat → Int) (r : Int) : Int := (f.map fun p => p.1 * (match p.2 with
  | none => r
  | some (i, j) => T i j)).sum
def tblU (b : Bool) (n : Nat) (x : Nat → Int) : Nat → Nat → Int := fun i j => if i = j then 0 else x (posU b n (some (i, j)))
def numU (b : Bool) (n : Nat) (T : Nat → Nat → Int) (r : Int) : Nat → Int := fun k => match (pairsK b n)[k]? with
  | some (i, j) => T i j
  | none => r
theorem val_tbl {b : Bool} {n : Nat} {x : Nat → Int} {f : FU} (h : FOk n f) : valU f (tblU b n x) (x (pairsK b n).length) = sumN (NU b n) fun k => coefU b n f k * x k := by
  rw [vec_dot h]
  unfold valU
  refine congrArg List.sum (List.map_congr_left fun p hp => ?_)
  have := h p hp
  obtain ⟨c, u⟩ := p
  cases u with
  | none => rfl
  | some q =>
    obtain ⟨i, j⟩ := q
    show c * tblU b n x i j = c * x (posU b n (some (i, j)))
    unfold tblU
    rw [if_neg this.2.2]
theorem num_pos {b : Bool} {n : Nat} {T : Nat → Nat → Int} {r : Int} (sy : b = true → ∀ i j, i < n → j < n → T i j = T j i) {i j : Nat} (h : UOk n (some (i, j))) : numU b n T r (posU b n (some (i, j))) = T i j := by
  have hm := norm_mem (b := b) h
  have hl := List.idxOf_lt_length_of_mem hm
  have e : (pairsK b n)[posU b n (some (i, j))]? = some (normK b (i, j)) := by
    show (pairsK b n)[(pairsK b n).idxOf (normK b (i, j))]? = _
    rw [List.getElem?_eq_getElem hl, List.getElem_idxOf hl]
  unfold numU
  rw [e]
  unfold normK
  cases b with
  | false => rfl
  | true =>
    show T (min i j) (max i j) = T i j
    by_cases c : i ≤ j
    · rw [Nat.min_eq_left c, Nat.max_eq_right c]
    · rw [Nat.min_eq_right (by omega), Nat.max_eq_left (by omega)]
      exact sy rfl j i h.2.1 h.1
theorem val_num {b : Bool} {n : Nat} {T : Nat → Nat → Int} {r : Int} (sy : b = true → ∀ i j, i < n → j < n → T i j = T j i) {f : FU} (h : FOk n f) : valU f T r = sumN (NU b n) fun k => coefU b n f k * numU b n T r k := by
  rw [vec_dot h]
  unfold valU
  refine congrArg List.sum (List.map_congr_left fun p hp => ?_)
  have := h p hp
  obtain ⟨c, u⟩ := p
  cases u with
  | none =>
    show c * r = c * numU b n T r (pairsK b n).length
    unfold numU
    rw [List.getElem?_eq_none (Nat.le_refl _)]
  | some q =>
    obtain ⟨i, j⟩ := q
    show c * T i j = c * numU b n T r (posU b n (some (i, j)))
    rw [num_pos sy this]
/-- a table of a kind: by factor, both, far -/
structure KT (f : Int) (b fr : Bool) (n : Nat) (T : Nat → Nat → Int) : Prop where
  nn : ∀ i j, i < n → j < n → 0 ≤ T i j
  dg : ∀ i, i < n → T i i = 0
  sy : b = true → ∀ i j, i < n → j < n → T i j = T j i
  fa : fr = true → ∀ i j, i < n → j < n → i ≠ j → 1 ≤ T i j
  tr : f ≠ 0 → ∀ x y z, x < n → y < n → z < n → x ≠ y → y ≠ z → x ≠ z → T x z ≤ f * (T x y + T y z)
def MetU (p : Fc) (T : Nat → Nat → Int) (r : Int) : Prop := if p.1 then valU p.2 T r < 0 else valU p.2 T r ≤ 0
/-! ### rules -/
inductive Nm where
  | least (x y : Nat) | radius | way (x y z : Nat) | fact (i : Nat)
  deriving DecidableEq
def triK (n : Nat) : List (Nat × Nat × Nat) := (List.range n).flatMap fun x => (List.range n).flatMap fun y => (List.range n).flatMap fun z => [(x, y, z)]
def waysK (f : Int) (b : Bool) (n : Nat) : List (Nat × Nat × Nat) := if f = 0 then [] else (triK n).filter fun p => decide (p.1 ≠ p.2.1 ∧ p.1 ≠ p.2.2 ∧ p.2.1 ≠ p.2.2) && (decide (p.1 < p.2.2) || !b)
theorem mem_triK {n x y z : Nat} : (x, y, z) ∈ triK n ↔ x < n ∧ y < n ∧ z < n := by
  unfold triK
  simp only [List.mem_flatMap, List.mem_range, List.mem_singleton, Prod.mk.injEq]
  constructor
  · rintro ⟨a, ha, b, hb, c, hc, rfl, rfl, rfl⟩
    exact ⟨ha, hb, hc⟩
  · rintro ⟨ha, hb, hc⟩
    exact ⟨x, ha, y, hb, z, hc, rfl, rfl, rfl⟩
theorem mem_waysK {f : Int} {b : Bool} {n x y z : Nat} : (x, y, z) ∈ waysK f b n ↔ f ≠ 0 ∧ x < n ∧ y < n ∧ z < n ∧ x ≠ y ∧ x ≠ z ∧ y ≠ z ∧ (x < z ∨ b = false) := by
  unfold waysK
  by_cases e : f = 0
  · rw [if_pos e]
    simp [e]
  · rw [if_neg e, List.mem_filter, mem_triK]
    simp [e]
    constructor
    · rintro ⟨⟨h1, h2, h3⟩, ⟨h4, h5, h6⟩, h7⟩; exact ⟨h1, h2, h3, h4, h5, h6, h7⟩
    · rintro ⟨h1, h2, h3, h4, h5, h6, h7⟩; exact ⟨⟨h1, h2, h3⟩, ⟨h4, h5, h6⟩, h7⟩
def leastR (fr : Bool) (p : Nat × Nat) : Nm × Fc := (.least p.1 p.2, fr, [(-1, some p)])
def wayR (f : Int) (p : Nat × Nat × Nat) : Nm × Fc := (.way p.1 p.2.1 p.2.2, false, [(1, some (p.1, p.2.2)), (0 - f, some (p.1, p.2.1)), (0 - f, some (p.2.1, p.2.2))])
def rulesK (f : Int) (b fr : Bool) (n : Nat) : List (Nm × Fc) := (pairsK b n).map (leastR fr) ++ [(.radius, false, [(-1, none)])] ++ (waysK f b n).map (wayR f)
def factsK (fs : List Fc) : List (Nm × Fc) := (List.range fs.length).map fun i => (.fact i, fs[i]?.getD (false, []))
def namedK (f : Int) (b fr : Bool) (n : Nat) (fs : List Fc) : List (Nm × Fc) := rulesK f b fr n ++ factsK fs
def plainK (p : Nm × Fc) : Bool := match p.1 with
  | .radius => true
  | .least _ _ => !p.2.1
  | _ => false
def rowK (b : Bool) (n : Nat) (p : Nm × Fc) : List Int × Int := (vecU b n p.2.2, if p.2.1 then -1 else 0)
def someK (f : Int) (b fr : Bool) (n : Nat) (fs : List Fc) : List (Nm × Fc) := (namedK f b fr n fs).filter fun p => !plainK p
def rowsK (f : Int) (b fr : Bool) (n : Nat) (fs : List Fc) : List (List Int × Int) := (someK f b fr n fs).map (rowK b n)
theorem rows_len {f : Int} {b fr : Bool} {n : Nat} {fs : List Fc} : ∀ p ∈ rowsK f b fr n fs, p.1.length = NU b n := by
  intro p hp
  obtain ⟨q, _, rfl⟩ := List.mem_map.mp hp
  show (vecU b n q.2.2).length = _
  unfold vecU
  rw [List.length_map, List.length_range]
theorem rules_ok {f : Int} {b fr : Bool} {n : Nat} : ∀ p ∈ rulesK f b fr n, FOk n p.2.2 := by
  intro p hp
  unfold rulesK at hp
  simp only [List.mem_append, List.mem_map, List.mem_singleton] at hp
  rcases hp with (⟨q, hq, rfl⟩ | rfl) | ⟨q, hq, rfl⟩
  · intro r hr
    cases List.mem_singleton.mp hr
    obtain ⟨x, y⟩ := q
    have := mem_pairsK.mp hq
    exact ⟨this.1, this.2.1, this.2.2.1⟩
  · intro r hr
    cases List.mem_singleton.mp hr
    trivial
  · obtain ⟨x, y, z⟩ := q
    obtain ⟨_, h1, h2, h3, h4, h5, h6, _⟩ := mem_waysK.mp hq
    intro r hr
    simp only [wayR, List.mem_cons, List.not_mem_nil, or_false] at hr
    rcases hr with rfl | rfl | rfl
    · exact ⟨h1, h3, h5⟩
    · exact ⟨h1, h2, h4⟩
    · exact ⟨h2, h3, h6⟩
theorem facts_mem {fs : List Fc} {p : Nm × Fc} (hp : p ∈ factsK fs) : p.2 ∈ fs := by
  obtain ⟨i, hi, rfl⟩ := List.mem_map.mp hp
  have hi := List.mem_range.mp hi
  show fs[i]?.getD (false, []) ∈ fs
  rw [List.getElem?_eq_getElem hi]
  exact List.getElem_mem hi
theorem facts_has {fs : List Fc} {q : Fc} (hq : q ∈ fs) : ∃ p ∈ factsK fs, p.2 = q ∧ plainK p = false := by
  obtain ⟨i, hi, e⟩ := List.mem_iff_getElem.mp hq
  refine ⟨(.fact i, fs[i]?.getD (false, [])), List.mem_map.mpr ⟨i, List.mem_range.mpr hi, rfl⟩, ?_, rfl⟩
  show fs[i]?.getD (false, []) = q
  rw [List.getElem?_eq_getElem hi]
  exact e
theorem named_ok {f : Int} {b fr : Bool} {n : Nat} {fs : List Fc} (hf : ∀ q ∈ fs, FOk n q.2) : ∀ p ∈ namedK f b fr n fs, FOk n p.2.2 := by
  intro p hp
  rcases List.mem_append.mp hp with h | h
  · exact rules_ok p h
  · exact hf _ (facts_mem h)
/-- a table of the kind and a radius meet the rules -/
theorem rules_met {f : Int} {b fr : Bool} {n : Nat} {T : Nat → Nat → Int} {r : Int} (k : KT f b fr n T) (h0 : 0 ≤ r) : ∀ p ∈ rulesK f b fr n, MetU p.2 T r := by
  intro p hp
  unfold rulesK at hp
  simp only [List.mem_append, List.mem_map, List.mem_singleton] at hp
  rcases hp with (⟨q, hq, rfl⟩ | rfl) | ⟨q, hq, rfl⟩
  · obtain ⟨x, y⟩ := q
    obtain ⟨h1, h2, h3, _⟩ := mem_pairsK.mp hq
    have e : valU [(-1, some (x, y))] T r = - T x y := by simp [valU]
    show if fr = true then valU [(-1, some (x, y))] T r < 0 else valU [(-1, some (x, y))] T r ≤ 0
    rw [e]
    split
    · rename_i hf
      have := k.fa hf x y h1 h2 h3
      omega
    · have := k.nn x y h1 h2
      omega
  · show valU [(-1, none)] T r ≤ 0
    have e : valU [(-1, none)] T r = - r := by simp [valU]
    omega
  · obtain ⟨x, y, z⟩ := q
    obtain ⟨h0, h1, h2, h3, h4, h5, h6, _⟩ := mem_waysK.mp hq
    show valU [(1, some (x, z)), (0 - f, some (x, y)), (0 - f, some (y, z))] T r ≤ 0
    have e : valU [(1, some (x, z)), (0 - f, some (x, y)), (0 - f, some (y, z))] T r = T x z - f * (T x y + T y z) := by
      simp [valU]; grind
    have := k.tr h0 x y z h1 h2 h3 h4 h6 h5
    omega
theorem named_met {f : Int} {b fr : Bool} {n : Nat} {fs : List Fc} {T : Nat → Nat → Int} {r : Int} (k : KT f b fr n T) (h0 : 0 ≤ r) (hm : ∀ q ∈ fs, MetU q T r) : ∀ p ∈ namedK f b fr n fs, MetU p.2 T r := by
  intro p hp
  rcases List.mem_append.mp hp with h | h
  · exact rules_met k h0 p h
  · exact hm _ (facts_mem h)
section
variable {f : Int} {b fr : Bool} {n : Nat} {fs : List Fc} {T : Tab} {s : Int}
/-- the numbers of a row at the corner -/
theorem row_value (o : Ok (stW (rowsK f b fr n fs) (NU b n)) (NU b n) (rowsK f b fr n fs).length T s) {p : Nm × Fc} (hp : p ∈ someK f b fr n fs) (e : Ends (NU b n) (rowsK f b fr n fs).length T none) :
    sumN (NU b n) (fun k => coefU b n p.2.2 k * T.value k) ≤ (if p.2.1 then -1 else 0) * T.below := by
  obtain ⟨i, hi, ep⟩ := List.mem_iff_getElem.mp hp
  have hi2 : i < (rowsK f b fr n fs).length := by unfold rowsK; rw [List.length_map]; exact hi
  have er : (rowsK f b fr n fs)[i]? = some (rowK b n p) := by
    unfold rowsK
    rw [List.getElem?_map, List.getElem?_eq_getElem hi, ep]; rfl
  have v := value_row o st_std (v := NU b n + i) (by omega)
  have w : stW (rowsK f b fr n fs) (NU b n) (NU b n + i) = rowW (rowK b n p) := by
    unfold stW
    rw [if_neg (by omega), Nat.add_sub_cancel_left, er]; rfl
  rw [w] at v
  have pos := value_pos o e (v := NU b n + i) (by omega)
  have e0 : rowW (rowK b n p) 0 = if p.2.1 then -1 else 0 := rfl
  have e1 : sumN (NU b n) (fun j => rowW (rowK b n p) (j + 1) * T.value j) = -1 * sumN (NU b n) fun k => coefU b n p.2.2 k * T.value k := by
    rw [← sumN_mul]
    refine sumN_congr fun j hj => ?_
    have : rowW (rowK b n p) (j + 1) = 0 - coefU b n p.2.2 j := by
      unfold rowW
      rw [if_neg (by omega), Nat.add_sub_cancel]
      show 0 - (vecU b n p.2.2)[j]?.getD 0 = _
      unfold vecU
      rw [List.getElem?_map, List.getElem?_range hj]; rfl
    rw [this]; grind
  rw [e0, e1] at v
  omega
/-- .. tell a table of the kind, and a radius, that meet all -/
theorem corner_ok (o : Ok (stW (rowsK f b fr n fs) (NU b n)) (NU b n) (rowsK f b fr n fs).length T s) (e : Ends (NU b n) (rowsK f b fr n fs).length T none) (hf : ∀ q ∈ fs, FOk n q.2) :
    KT f b fr n (tblU b n T.value) ∧ 0 ≤ T.value (pairsK b n).length ∧ ∀ q ∈ fs, MetU q (tblU b n T.value) (T.value (pairsK b n).length) := by
  have bp := o.dic.pos
  have met : ∀ p ∈ someK f b fr n fs, valU p.2.2 (tblU b n T.value) (T.value (pairsK b n).length) ≤ (if p.2.1 then -1 else 0) * T.below := fun p hp => by
    rw [val_tbl (named_ok hf p (List.mem_filter.mp hp).1)]
    exact row_value o hp e
  have nonneg : ∀ k, k < NU b n → 0 ≤ T.value k := fun k hk => value_pos o e (by omega)
  have tnn : ∀ i j, i < n → j < n → 0 ≤ tblU b n T.value i j := fun i j hi hj => by
    unfold tblU
    split
    · exact Int.le_refl 0
    · rename_i ne
      exact nonneg _ (pos_lt (u := some (i, j)) ⟨hi, hj, ne⟩)
  have tsy : b = true → ∀ i j, tblU b n T.value i j = tblU b n T.value j i := fun hb i j => by
    unfold tblU
    by_cases h : i = j
    · rw [if_pos h, if_pos h.symm]
    · rw [if_neg h, if_neg (Ne.symm h)]
      have : posU b n (some (i, j)) = posU b n (some (j, i)) := by
        show (pairsK b n).idxOf (normK b (i, j)) = (pairsK b n).idxOf (normK b (j, i))
        unfold normK
        rw [hb]
        simp only [if_true]
        rw [Nat.min_comm, Nat.max_comm]
      rw [this]
  refine ⟨⟨tnn, fun i _ => by unfold tblU; rw [if_pos rfl], fun hb i j _ _ => tsy hb i j, ?_, ?_⟩, nonneg _ (Nat.lt_succ_self _), ?_⟩
  · intro hfr i j hi hj ne
    have key : ∀ x y, (x, y) ∈ pairsK b n → 1 ≤ tblU b n T.value x y := fun x y hm => by
      have hp : leastR fr (x, y) ∈ someK f b fr n fs := by
        refine List.mem_filter.mpr ⟨?_, by simp [plainK, leastR, hfr]⟩
        unfold namedK rulesK
        simp only [List.mem_append]
        exact .inl (.inl (.inl (List.mem_map.mpr ⟨(x, y), hm, rfl⟩)))
      have := met _ hp
      have e1 : valU (leastR fr (x, y)).2.2 (tblU b n T.value) (T.value (pairsK b n).length) = - tblU b n T.value x y := by simp [leastR, valU]
      rw [e1] at this
      have e2 : (leastR fr (x, y)).2.1 = true := hfr
      rw [e2] at this
      simp only [if_true] at this
      omega
    by_cases c : i < j ∨ b = false
    · exact key i j (mem_pairsK.mpr ⟨hi, hj, ne, c⟩)
    · have hb : b = true := by cases b <;> simp_all
      rw [tsy hb]
      exact key j i (mem_pairsK.mpr ⟨hj, hi, Ne.symm ne, .inl (by omega)⟩)
  · intro hf0 x y z hx hy hz h1 h2 h3
    have key : ∀ x z, (x, y, z) ∈ waysK f b n → tblU b n T.value x z ≤ f * (tblU b n T.value x y + tblU b n T.value y z) := fun x z hm => by
      have hp : wayR f (x, y, z) ∈ someK f b fr n fs := by
        refine List.mem_filter.mpr ⟨?_, rfl⟩
        unfold namedK rulesK
        simp only [List.mem_append]
        exact .inl (.inr (List.mem_map.mpr ⟨(x, y, z), hm, rfl⟩))
      have := met _ hp
      have e1 : valU (wayR f (x, y, z)).2.2 (tblU b n T.value) (T.value (pairsK b n).length) = tblU b n T.value x z - f * (tblU b n T.value x y + tblU b n T.value y z) := by
        simp [wayR, valU]; grind
      rw [e1] at this
      have e2 : (if (wayR f (x, y, z)).2.1 then (-1 : Int) else 0) = 0 := rfl
      rw [e2] at this
      omega
    by_cases c : x < z ∨ b = false
    · exact key x z (mem_waysK.mpr ⟨hf0, hx, hy, hz, h1, h3, h2, c⟩)
    · have hb : b = true := by cases b <;> simp_all
      have := key z x (mem_waysK.mpr ⟨hf0, hz, hy, hx, Ne.symm h2, Ne.symm h3, Ne.symm h1, .inl (by omega)⟩)
      rw [tsy hb x z, tsy hb x y, tsy hb y z, Int.add_comm]
      exact this
  · intro q hq
    obtain ⟨p, hp, e1, e2⟩ := facts_has hq
    have hp : p ∈ someK f b fr n fs := List.mem_filter.mpr ⟨List.mem_append_right _ hp, by rw [e2]; rfl⟩
    have := met p hp
    rw [e1] at this
    unfold MetU
    cases hs : q.1 with
    | true =>
      rw [hs] at this
      simp only [if_true] at this ⊢
      omega
    | false =>
      rw [hs] at this
      simp only [Bool.false_eq_true, if_false] at this ⊢
      omega
/-- the other end shows that nothing meets all -/
theorem none_ok (o : Ok (stW (rowsK f b fr n fs) (NU b n)) (NU b n) (rowsK f b fr n fs).length T s) {r0 : Nat} (e : Ends (NU b n) (rowsK f b fr n fs).length T (some r0)) (hf : ∀ q ∈ fs, FOk n q.2) {D : Nat → Nat → Int} {r : Int}
    (k : KT f b fr n D) (h0 : 0 ≤ r) (hm : ∀ q ∈ fs, MetU q D r) : False := by
  obtain ⟨⟨hr0, neg, _⟩, np⟩ := e
  -- the value of a row at the table's numbers
  let x := numU b n D r
  let L : Row → Int := fun v => v 0 + sumN (NU b n) fun j => v (j + 1) * x j
  have xnn : ∀ j, 0 ≤ x j := fun j => by
    show 0 ≤ numU b n D r j
    unfold numU
    split
    · rename_i i' j' e
      obtain ⟨h1, h2, _⟩ := mem_pairsK.mp (List.mem_of_getElem? e)
      exact k.nn _ _ h1 h2
    · exact h0
  have Lnn : ∀ v, v < NU b n + (rowsK f b fr n fs).length → 0 ≤ L (stW (rowsK f b fr n fs) (NU b n) v) := fun v hv => by
    show 0 ≤ stW (rowsK f b fr n fs) (NU b n) v 0 + sumN (NU b n) fun j => stW (rowsK f b fr n fs) (NU b n) v (j + 1) * x j
    by_cases c : v < NU b n
    · have e1 : stW (rowsK f b fr n fs) (NU b n) v = un (v + 1) := by unfold stW; rw [if_pos c]
      rw [e1, sumN_one (j := v) c]
      · show 0 ≤ un (v + 1) 0 + un (v + 1) (v + 1) * x v
        have a : un (v + 1) 0 = 0 := if_neg (by omega)
        have d : un (v + 1) (v + 1) = 1 := if_pos rfl
        rw [a, d]
        have := xnn v
        omega
      · intro i _ ne
        have : un (v + 1) (i + 1) = 0 := if_neg (by omega)
        rw [this, Int.zero_mul]
    · have hi : v - NU b n < (rowsK f b fr n fs).length := by omega
      have hi3 : v - NU b n < (someK f b fr n fs).length := by unfold rowsK at hi; rwa [List.length_map] at hi
      obtain ⟨p, hp, er⟩ : ∃ p ∈ someK f b fr n fs, (rowsK f b fr n fs)[v - NU b n]? = some (rowK b n p) := by
        refine ⟨(someK f b fr n fs)[v - NU b n], List.getElem_mem hi3, ?_⟩
        unfold rowsK
        rw [List.getElem?_map, List.getElem?_eq_getElem hi3]; rfl
      have w : stW (rowsK f b fr n fs) (NU b n) v = rowW (rowK b n p) := by
        unfold stW
        rw [if_neg c, er]; rfl
      rw [w]
      have e1 : sumN (NU b n) (fun j => rowW (rowK b n p) (j + 1) * x j) = -1 * sumN (NU b n) fun k => coefU b n p.2.2 k * x k := by
        rw [← sumN_mul]
        refine sumN_congr fun j hj => ?_
        have : rowW (rowK b n p) (j + 1) = 0 - coefU b n p.2.2 j := by
          unfold rowW
          rw [if_neg (by omega), Nat.add_sub_cancel]
          show 0 - (vecU b n p.2.2)[j]?.getD 0 = _
          unfold vecU
          rw [List.getElem?_map, List.getElem?_range hj]; rfl
        rw [this]; grind
      have e2 := val_num (r := r) k.sy (named_ok hf p (List.mem_filter.mp hp).1)
      have mt := named_met k h0 hm p (List.mem_filter.mp hp).1
      rw [e1, show sumN (NU b n) (fun k => coefU b n p.2.2 k * x k) = valU p.2.2 D r from e2.symm]
      unfold MetU at mt
      have e0 : rowW (rowK b n p) 0 = if p.2.1 then -1 else 0 := rfl
      rw [e0]
      cases hs : p.2.1 with
      | true => rw [hs] at mt; simp only [if_true] at mt ⊢; omega
      | false => rw [hs] at mt; simp only [Bool.false_eq_true, if_false] at mt ⊢; omega
  -- the shown sum, at these numbers
  have fk := fun bb (hb : bb < NU b n + 1) => farkas o (r := r0) hr0 hb
  have tot : T.below * L (stW (rowsK f b fr n fs) (NU b n) (T.b r0)) + sumN (NU b n) (fun c => (0 - T.E r0 (c + 1)) * L (stW (rowsK f b fr n fs) (NU b n) (T.fr c))) = T.E r0 0 := by
    let W := stW (rowsK f b fr n fs) (NU b n)
    let y : Nat → Int := fun k => if k = 0 then 1 else x (k - 1)
    have Ly : ∀ v : Row, L v = sumN (NU b n + 1) fun k => y k * v k := fun v => by
      rw [sumN_shift]
      show v 0 + _ = y 0 * v 0 + _
      have : y 0 = 1 := rfl
      rw [this, Int.one_mul]
      congr 1
      refine sumN_congr fun j _ => ?_
      show v (j + 1) * x j = y (j + 1) * v (j + 1)
      have : y (j + 1) = x j := rfl
      rw [this, Int.mul_comm]
    have swap : ∀ (N M : Nat) (g : Nat → Nat → Int), sumN N (fun i => sumN M fun j => g i j) = sumN M fun j => sumN N fun i => g i j := by
      intro N M g
      induction N with
      | zero => exact (sumN_zero fun _ _ => rfl).symm
      | succ N ih =>
        show sumN N _ + sumN M (fun j => g N j) = sumN M fun j => sumN N (fun i => g i j) + g N j
        rw [ih, sumN_add]
    have e1 : T.below * L (W (T.b r0)) + sumN (NU b n) (fun c => (0 - T.E r0 (c + 1)) * L (W (T.fr c))) = sumN (NU b n + 1) fun k => y k * (T.below * W (T.b r0) k + sumN (NU b n) fun c => (0 - T.E r0 (c + 1)) * W (T.fr c) k) := by
      rw [Ly, ← sumN_mul]
      have : (fun c => (0 - T.E r0 (c + 1)) * L (W (T.fr c))) = fun c => sumN (NU b n + 1) fun k => y k * ((0 - T.E r0 (c + 1)) * W (T.fr c) k) := by
        funext c
        rw [Ly, ← sumN_mul]
        exact sumN_congr fun k _ => by grind
      rw [this, swap, ← sumN_add]
      refine sumN_congr fun k _ => ?_
      rw [sumN_mul]; grind
    show T.below * L (W (T.b r0)) + _ = _
    rw [e1, sumN_one (j := 0) (by omega)]
    · rw [fk 0 (by omega), if_pos rfl]
      show y 0 * _ = _
      have : y 0 = 1 := rfl
      rw [this, Int.one_mul]
    · intro i hi ne
      rw [fk i hi, if_neg ne, Int.mul_zero]
  have t1 : 0 ≤ T.below * L (stW (rowsK f b fr n fs) (NU b n) (T.b r0)) := Int.mul_nonneg (Int.le_of_lt o.dic.pos) (Lnn _ (o.shp.bL r0 hr0))
  have t2 : 0 ≤ sumN (NU b n) (fun c => (0 - T.E r0 (c + 1)) * L (stW (rowsK f b fr n fs) (NU b n) (T.fr c))) := by
    have : ∀ N, N ≤ NU b n → 0 ≤ sumN N (fun c => (0 - T.E r0 (c + 1)) * L (stW (rowsK f b fr n fs) (NU b n) (T.fr c))) := by
      intro N
      induction N with
      | zero => intro _; exact Int.le_refl 0
      | succ N ih =>
        intro hN
        have a := ih (by omega)
        have c : 0 ≤ (0 - T.E r0 (N + 1)) * L (stW (rowsK f b fr n fs) (NU b n) (T.fr N)) := Int.mul_nonneg (by have := np N (by omega); omega) (Lnn _ (o.shp.frL N (by omega)))
        exact Int.add_nonneg a c
    exact this _ (Nat.le_refl _)
  omega
end
/-! ### the answer -/
open Classical in
/-- the tableau at the end -/
noncomputable def endT (f : Int) (b fr : Bool) (n : Nat) (fs : List Fc) : Tab × Option Nat :=
  if h : ∃ p : Tab × Option Nat, ∃ i, Ch (NU b n) (rowsK f b fr n fs).length (Tab.init (rowsK f b fr n fs) (NU b n)) i p.1 ∧ Ends (NU b n) (rowsK f b fr n fs).length p.1 p.2 then h.choose else (Tab.init (rowsK f b fr n fs) (NU b n), none)
section
variable {f : Int} {b fr : Bool} {n : Nat} {fs : List Fc}
theorem init_okK : Ok (stW (rowsK f b fr n fs) (NU b n)) (NU b n) (rowsK f b fr n fs).length (Tab.init (rowsK f b fr n fs) (NU b n)) 1 := init_ok rows_len
theorem endT_spec : ∃ i, Ch (NU b n) (rowsK f b fr n fs).length (Tab.init (rowsK f b fr n fs) (NU b n)) i (endT f b fr n fs).1 ∧ Ends (NU b n) (rowsK f b fr n fs).length (endT f b fr n fs).1 (endT f b fr n fs).2 := by
  have h : ∃ p : Tab × Option Nat, ∃ i, Ch (NU b n) (rowsK f b fr n fs).length (Tab.init (rowsK f b fr n fs) (NU b n)) i p.1 ∧ Ends (NU b n) (rowsK f b fr n fs).length p.1 p.2 := by
    obtain ⟨i, T, e, c, h⟩ := end_ex (init_okK (f := f) (b := b) (fr := fr) (n := n) (fs := fs))
    exact ⟨(T, e), i, c, h⟩
  unfold endT
  rw [dif_pos h]
  exact h.choose_spec
theorem endT_ok : ∃ s, Ok (stW (rowsK f b fr n fs) (NU b n)) (NU b n) (rowsK f b fr n fs).length (endT f b fr n fs).1 s := by
  obtain ⟨i, c, _⟩ := endT_spec (f := f) (b := b) (fr := fr) (n := n) (fs := fs)
  exact c.ok init_okK
theorem endT_is {i : Nat} {T : Tab} {e : Option Nat} (c : Ch (NU b n) (rowsK f b fr n fs).length (Tab.init (rowsK f b fr n fs) (NU b n)) i T) (h : Ends (NU b n) (rowsK f b fr n fs).length T e) : (T, e) = endT f b fr n fs := by
  obtain ⟨j, c2, h2⟩ := endT_spec (f := f) (b := b) (fr := fr) (n := n) (fs := fs)
  obtain ⟨e1, e2⟩ := Ch.uniq init_okK c h c2 h2
  rw [e1, e2]
/-- a table and a radius that meet facts, or nothing -/
noncomputable def openK (f : Int) (b fr : Bool) (n : Nat) (fs : List Fc) : Option (Nat → Int) := match (endT f b fr n fs).2 with
  | none => some (endT f b fr n fs).1.value
  | some _ => none
/-- what meets facts -/
def Sat (f : Int) (b fr : Bool) (n : Nat) (fs : List Fc) (T : Nat → Nat → Int) (r : Int) : Prop := KT f b fr n T ∧ 0 ≤ r ∧ ∀ q ∈ fs, MetU q T r
theorem open_some {x : Nat → Int} (hf : ∀ q ∈ fs, FOk n q.2) (h : openK f b fr n fs = some x) : Sat f b fr n fs (tblU b n x) (x (pairsK b n).length) := by
  obtain ⟨s, o⟩ := endT_ok (f := f) (b := b) (fr := fr) (n := n) (fs := fs)
  obtain ⟨_, _, e⟩ := endT_spec (f := f) (b := b) (fr := fr) (n := n) (fs := fs)
  unfold openK at h
  split at h
  · rename_i e2
    rw [e2] at e
    cases h
    exact corner_ok o e hf
  · cases h
theorem open_none (hf : ∀ q ∈ fs, FOk n q.2) (h : openK f b fr n fs = none) {T : Nat → Nat → Int} {r : Int} (st : Sat f b fr n fs T r) : False := by
  obtain ⟨s, o⟩ := endT_ok (f := f) (b := b) (fr := fr) (n := n) (fs := fs)
  obtain ⟨_, _, e⟩ := endT_spec (f := f) (b := b) (fr := fr) (n := n) (fs := fs)
  unfold openK at h
  split at h
  · cases h
  · rename_i r0 e2
    rw [e2] at e
    exact none_ok o e hf st.1 st.2.1 st.2.2
/-- it finds something just where there is something -/
theorem open_iff (hf : ∀ q ∈ fs, FOk n q.2) : (openK f b fr n fs).isSome = true ↔ ∃ T r, Sat f b fr n fs T r := by
  cases h : openK f b fr n fs with
  | none => exact ⟨fun z => (by cases z), fun ⟨T, r, st⟩ => (open_none hf h st).elim⟩
  | some x => exact ⟨fun _ => ⟨_, _, open_some hf h⟩, fun _ => rfl⟩
end
end Ev.Sv

set_option Elab.async false
set_option linter.all false
set_option maxRecDepth 100000
set_option maxHeartbeats 0
namespace Ev.Lw
open PySem PySem.Spec PyProof.Rows L2
def top (i : Nat) : Stmt := PySem.Challenge.pw_anydistance_k02_whole_kinds_within.main.body.getD i (.Pass ⟨0, 0, 0, 0⟩)
def mth (i j : Nat) : Stmt := match top i with
  | .ClassDef _ _ _ body _ _ _ _ _ _ _ => body.getD j (.Pass ⟨0, 0, 0, 0⟩)
  | _ => .Pass ⟨0, 0, 0, 0⟩
def dd (n q : Str) (s : Stmt) : He.DefD := ⟨(n, none), n, q, C8.fnArgs s, C8.fnBody s, C8.fnScope s, [], []⟩
/-- is_distance -/
def s_is_distance : Ss := (.cons (.ret (.and (.isi (.var 0) .int) (.and (.not (.isi (.var 0) .bool)) (.cmp .ge (.var 0) (.int 0)))))
 .nil)
def d_is_distance : DefE := ⟨dd "is_distance" "is_distance" (top 6), ["value"], ["value"], s_is_distance, .glo "is_distance", "is_distance", none⟩
/-- is_square -/
def s_is_square : Ss := (.cons (.ifs (.or (.not (.val (.isi (.var 0) .tuple))) (.val (.cmp .lt (.bi false .len (.cons (.var 0) .nil)) (.int 2))))
 (.cons (.ret (.bl false))
 .nil)
 .nil)
 (.cons (.for_ (.tup (.cons (.name 1) (.cons (.name 2) .nil))) (.enum (.var 0))
 (.cons (.ifs (.or (.not (.val (.isi (.var 2) .tuple))) (.or (.val (.cmp .ne (.bi false .len (.cons (.var 2) .nil)) (.bi false .len (.cons (.var 0) .nil)))) (.not (.val (.bi false .all (.cons (.comp false [("part", 3)] (.name 3) (.seq (.var 2)) .tt (.fn "is_distance" (.cons (.var 3) .nil))) .nil))))))
 (.cons (.ret (.bl false))
 .nil)
 .nil)
 (.cons (.ifs (.val (.cmp .ne (.ix (.var 2) (.var 1)) (.int 0)))
 (.cons (.ret (.bl false))
 .nil)
 .nil)
 .nil)))
 (.cons (.ret (.bl true))
 .nil)))
def d_is_square : DefE := ⟨dd "is_square" "is_square" (top 7), ["value", "x", "row", "part"], ["value"], s_is_square, .glo "is_square", "is_square", none⟩
/-- ways_round -/
def s_ways_round : Ss := (.cons (.ifs (.val (.cmp .eq (.prp "Kind" "factor" "Kind.factor" (.var 0)) (.int 0)))
 (.cons (.ret (.lst false .nil))
 .nil)
 .nil)
 (.cons (.set 2 (.compN false [("x", 3), ("y", 4), ("z", 5)] (.name 3) (.rng1 (.var 1)) .tt (.cons [4, 5] (.name 4) (.rng1 (.var 1)) .tt (.cons [5] (.name 5) (.rng1 (.var 1)) .tt .nil)) (.tup (.cons (.var 3) (.cons (.var 4) (.cons (.var 5) .nil))))))
 (.cons (.ret (.comp false [("x", 3), ("y", 4), ("z", 5)] (.tup (.cons (.name 3) (.cons (.name 4) (.cons (.name 5) .nil)))) (.seq (.var 2)) (.and (.val (.cmp .eq (.lens (.cons (.var 3) (.cons (.var 4) (.cons (.var 5) .nil)))) (.int 3))) (.or (.val (.cmp .lt (.var 3) (.var 5))) (.val (.cmp .notIn (.str "both") (.prp "Kind" "words" "Kind.words" (.var 0)))))) (.tup (.cons (.var 3) (.cons (.var 4) (.cons (.var 5) .nil))))))
 .nil)))
def d_ways_round : DefE := ⟨dd "ways_round" "ways_round" (top 8), ["kind", "places", "some", "x", "y", "z"], ["kind", "places"], s_ways_round, .glo "ways_round", "ways_round", none⟩
/-- is_table -/
def s_is_table : Ss := (.cons (.ifs (.not (.val (.fn "is_square" (.cons (.var 1) .nil))))
 (.cons (.ret (.bl false))
 .nil)
 .nil)
 (.cons (.set 2 (.compN false [("x", 3), ("y", 4)] (.name 3) (.rng1 (.bi false .len (.cons (.var 1) .nil))) .tt (.cons [4] (.name 4) (.rng1 (.bi false .len (.cons (.var 1) .nil))) (.val (.cmp .ne (.var 3) (.var 4))) .nil) (.tup (.cons (.var 3) (.cons (.var 4) .nil)))))
 (.cons (.ifs (.and (.val (.cmp .in_ (.str "both") (.prp "Kind" "words" "Kind.words" (.var 0)))) (.val (.cmp .neE (.comp false [("x", 3), ("y", 4)] (.tup (.cons (.name 3) (.cons (.name 4) .nil))) (.seq (.var 2)) (.val (.cmp .ne (.ix (.ix (.var 1) (.var 3)) (.var 4)) (.ix (.ix (.var 1) (.var 4)) (.var 3)))) (.int 1)) (.lst false .nil))))
 (.cons (.ret (.bl false))
 .nil)
 .nil)
 (.cons (.ifs (.and (.val (.cmp .in_ (.str "far") (.prp "Kind" "words" "Kind.words" (.var 0)))) (.val (.cmp .neE (.comp false [("x", 3), ("y", 4)] (.tup (.cons (.name 3) (.cons (.name 4) .nil))) (.seq (.var 2)) (.val (.cmp .eq (.ix (.ix (.var 1) (.var 3)) (.var 4)) (.int 0))) (.int 1)) (.lst false .nil))))
 (.cons (.ret (.bl false))
 .nil)
 .nil)
 (.cons (.set 5 (.fn "ways_round" (.cons (.var 0) (.cons (.bi false .len (.cons (.var 1) .nil)) .nil))))
 (.cons (.ret (.bi false .all (.cons (.comp false [("x", 3), ("y", 4), ("z", 6)] (.tup (.cons (.name 3) (.cons (.name 4) (.cons (.name 6) .nil)))) (.seq (.var 5)) .tt (.cmp .le (.ix (.ix (.var 1) (.var 3)) (.var 6)) (.bin false .mul (.prp "Kind" "factor" "Kind.factor" (.var 0)) (.bin false .add (.ix (.ix (.var 1) (.var 3)) (.var 4)) (.ix (.ix (.var 1) (.var 4)) (.var 6)))))) .nil)))
 .nil))))))
def d_is_table : DefE := ⟨dd "is_table" "is_table" (top 9), ["kind", "value", "pairs", "x", "y", "some", "z"], ["kind", "value"], s_is_table, .glo "is_table", "is_table", none⟩
/-- _law_draws -/
def s__law_draws : Ss := (.cons (.par 1 2 (.int 0) (.bin true .add (.int 29290) (.bin true .mul (.int 43) (.bi true .len (.cons (.var 0) .nil)))))
 (.cons (.for_ (.name 3) (.seq (.sl false (.var 0) .omit (.part (.int 60))))
 (.cons (.set 2 (.bin true .mod (.bin true .add (.bin true .add (.bin true .add (.bin true .mul (.var 2) (.int 1000003)) (.bin true .mul (.int 2) (.bi true .abs (.cons (.var 3) .nil)))) (.bi true .int (.cons (.cmp .lt (.var 3) (.int 0)) .nil))) (.int 31)) (.int 2305843009213693951)))
 (.cons (.ifs (.val (.cmp .ge (.bi false .abs (.cons (.var 3) .nil)) (.bin false .pow (.int 10) (.int 18))))
 (.cons (.set 1 (.bin true .add (.bin true .mul (.var 1) (.int 31)) (.bi true .abs (.cons (.var 3) .nil))))
 .nil)
 .nil)
 .nil)))
 (.cons (.ret (.lst true (.cons (.var 1) (.cons (.var 2) (.cons (.int 0) .nil)))))
 .nil)))
def d__law_draws : DefE := ⟨dd "_law_draws" "_law_draws" (top 11), ["_law_script", "_law_large", "_law_mixed", "_law_cell"], ["_law_script"], s__law_draws, .glo "_law_draws", "_law_draws", none⟩
/-- _law_next -/
def s__law_next : Ss := (.cons (.ifs (.val (.cmp .gt (.ix (.var 0) (.int 0)) (.int 0)))
 (.cons (.set 2 (.bin false .mod (.bi false .int (.cons (.ix (.var 0) (.int 0)) .nil)) (.var 1)))
 (.cons (.sub (.var 0) (.int 0) (.bin false .fdiv (.ix (.var 0) (.int 0)) (.var 1)))
 (.cons (.ret (.var 2))
 .nil)))
 .nil)
 (.cons (.sub (.var 0) (.int 2) (.bin false .add (.ix (.var 0) (.int 2)) (.int 1)))
 (.cons (.set 3 (.bin false .mod (.bin false .add (.bi false .int (.cons (.ix (.var 0) (.int 1)) .nil)) (.bin false .mul (.int 11400714819323198485) (.ix (.var 0) (.int 2)))) (.int 18446744073709551557)))
 (.cons (.set 3 (.bin false .mod (.bin false .mul (.var 3) (.bin false .add (.bin false .mod (.var 3) (.int 4294967291)) (.int 11))) (.int 2305843009213693951)))
 (.cons (.ret (.bin false .mod (.bin false .fdiv (.bin false .mod (.bin false .mul (.var 3) (.var 3)) (.int 2305843009213693921)) (.int 512)) (.var 1)))
 .nil)))))
def d__law_next : DefE := ⟨dd "_law_next" "_law_next" (top 12), ["_law_drawn", "_law_many", "_law_digit", "_law_mixed"], ["_law_drawn", "_law_many"], s__law_next, .glo "_law_next", "_law_next", none⟩
/-- _law_one -/
def s__law_one : Ss := (.cons (.ret (.ix (.var 1) (.fn "_law_next" (.cons (.var 0) (.cons (.bi false .len (.cons (.var 1) .nil)) .nil)))))
 .nil)
def d__law_one : DefE := ⟨dd "_law_one" "_law_one" (top 13), ["_law_drawn", "_law_items"], ["_law_drawn", "_law_items"], s__law_one, .glo "_law_one", "_law_one", none⟩
/-- _law_words -/
def s__law_words : Ss := (.cons (.ret (.ix (.lst false (.cons (.tup .nil) (.cons (.tup (.cons (.str "both") .nil)) (.cons (.tup (.cons (.str "far") .nil)) (.cons (.tup (.cons (.str "both") (.cons (.str "far") .nil))) .nil))))) (.var 0)))
 .nil)
def d__law_words : DefE := ⟨dd "_law_words" "_law_words" (top 14), ["_law_number"], ["_law_number"], s__law_words, .glo "_law_words", "_law_words", none⟩
/-- _law_kind -/
def s__law_kind : Ss := (.cons (.ret (.tup (.cons (.fn "_law_one" (.cons (.var 0) (.cons (.lst false (.cons (.int 1) (.cons (.int 1) (.cons (.int 1) (.cons (.int 2) (.cons (.int 2) (.cons (.int 3) (.cons (.int 0) (.cons (.fn "_law_next" (.cons (.var 0) (.cons (.int 10) .nil))) .nil))))))))) .nil))) (.cons (.fn "_law_words" (.cons (.fn "_law_one" (.cons (.var 0) (.cons (.lst false (.cons (.int 3) (.cons (.int 3) (.cons (.int 1) (.cons (.int 2) (.cons (.int 0) .nil)))))) .nil))) .nil)) .nil))))
 .nil)
def d__law_kind : DefE := ⟨dd "_law_kind" "_law_kind" (top 15), ["_law_drawn"], ["_law_drawn"], s__law_kind, .glo "_law_kind", "_law_kind", none⟩
/-- _law_lowered -/
def s__law_lowered : Ss := (.cons (.for_ (.name 2) (.rng1 (.bi false .len (.cons (.var 1) .nil)))
 (.cons (.for_ (.name 3) (.rng1 (.bi false .len (.cons (.var 1) .nil)))
 (.cons (.for_ (.name 4) (.rng1 (.bi false .len (.cons (.var 1) .nil)))
 (.cons (.for_ (.name 5) (.rng1 (.bi false .len (.cons (.var 1) .nil)))
 (.cons (.ifs (.and (.val (.cmp .ne (.var 4) (.var 3))) (.and (.val (.cmp .ne (.var 3) (.var 5))) (.val (.cmp .ne (.var 4) (.var 5)))))
 (.cons (.sub (.ix (.var 1) (.var 4)) (.var 5) (.bi false .min (.cons (.ix (.ix (.var 1) (.var 4)) (.var 5)) (.cons (.bin false .mul (.var 0) (.bin false .add (.ix (.ix (.var 1) (.var 4)) (.var 3)) (.ix (.ix (.var 1) (.var 3)) (.var 5)))) .nil))))
 .nil)
 .nil)
 .nil))
 .nil))
 .nil))
 .nil))
 (.cons (.ret (.var 1))
 .nil))
def d__law_lowered : DefE := ⟨dd "_law_lowered" "_law_lowered" (top 16), ["_law_factor", "_law_rows", "_law_turn", "_law_y", "_law_x", "_law_z"], ["_law_factor", "_law_rows"], s__law_lowered, .glo "_law_lowered", "_law_lowered", none⟩
/-- _law_table -/
def s__law_table : Ss := (.cons (.unp (.tup (.cons (.name 4) (.cons (.name 5) .nil))) (.tup (.cons (.fn "_law_one" (.cons (.var 0) (.cons (.lst false (.cons (.int 2) (.cons (.int 3) (.cons (.int 6) (.cons (.int 20) (.cons (.int 100) (.cons (.int 1000) .nil))))))) .nil))) (.cons (.lst true .nil) .nil))))
 (.cons (.for_ (.name 6) (.rng1 (.var 1))
 (.cons (.expr (.app (.var 5) (.comp true [("_law_y", 7)] (.name 7) (.rng1 (.var 1)) .tt (.ite (.val (.cmp .eq (.var 6) (.var 7))) (.int 0) (.bin true .add (.bi true .int (.cons (.cmp .in_ (.str "far") (.var 3)) .nil)) (.fn "_law_next" (.cons (.var 0) (.cons (.var 4) .nil))))))))
 .nil))
 (.cons (.ifs (.val (.cmp .in_ (.str "both") (.var 3)))
 (.cons (.set 5 (.comp true [("_law_x", 6)] (.name 6) (.rng1 (.var 1)) .tt (.comp true [("_law_y", 7)] (.name 7) (.rng1 (.var 1)) .tt (.ix (.ix (.var 5) (.bi false .min (.cons (.var 6) (.cons (.var 7) .nil)))) (.bi false .max (.cons (.var 6) (.cons (.var 7) .nil)))))))
 .nil)
 .nil)
 (.cons (.ifs (.val (.cmp .gt (.var 2) (.int 0)))
 (.cons (.set 5 (.fn "_law_lowered" (.cons (.var 2) (.cons (.var 5) .nil))))
 .nil)
 .nil)
 (.cons (.ret (.bi true .tuple (.cons (.comp false [("_law_row", 8)] (.name 8) (.seq (.var 5)) .tt (.bi false .tuple (.cons (.var 8) .nil))) .nil)))
 .nil)))))
def d__law_table : DefE := ⟨dd "_law_table" "_law_table" (top 17), ["_law_drawn", "_law_places", "_law_factor", "_law_words_here", "_law_most", "_law_rows", "_law_x", "_law_y", "_law_row"], ["_law_drawn", "_law_places", "_law_factor", "_law_words_here"], s__law_table, .glo "_law_table", "_law_table", none⟩
/-- _law_shown -/
def s__law_shown : Ss := (.cons (.set 5 (.bin false .add (.int 1) (.bin false .mul (.int 100) (.var 4))))
 (.cons (.ifs (.and (.val (.cmp .in_ (.str "far") (.var 3))) (.val (.cmp .notIn (.str "far") (.var 1))))
 (.cons (.set 6 (.comp true [("_law_x", 8)] (.name 8) (.rng1 (.bin false .add (.int 2) (.var 4))) .tt (.comp true [("_law_y", 7)] (.name 7) (.rng1 (.bin false .add (.int 2) (.var 4))) .tt (.int 0))))
 .nil)
 (.cons (.ifs (.and (.val (.cmp .in_ (.str "both") (.var 3))) (.val (.cmp .notIn (.str "both") (.var 1))))
 (.cons (.set 6 (.comp true [("_law_x", 8)] (.name 8) (.rng1 (.bin false .add (.int 2) (.var 4))) .tt (.comp true [("_law_y", 7)] (.name 7) (.rng1 (.bin false .add (.int 2) (.var 4))) .tt (.ite (.val (.cmp .eq (.var 8) (.var 7))) (.int 0) (.bin true .add (.int 1) (.bi true .int (.cons (.cmp .lt (.var 8) (.var 7)) .nil)))))))
 .nil)
 (.cons (.set 6 (.comp true [("_law_x", 8)] (.name 8) (.rng1 (.bin false .add (.int 3) (.var 4))) .tt (.comp true [("_law_y", 7)] (.name 7) (.rng1 (.bin false .add (.int 3) (.var 4))) .tt (.ite (.val (.cmp .eq (.var 8) (.var 7))) (.int 0) (.var 5)))))
 (.cons (.sub (.ix (.var 6) (.int 0)) (.int 2) (.bin false .mul (.bin false .mul (.int 2) (.var 5)) (.ite (.val (.cmp .gt (.var 0) (.int 0))) (.var 0) (.int 10))))
 (.cons (.sub (.ix (.var 6) (.int 2)) (.int 0) (.ix (.ix (.var 6) (.int 0)) (.int 2)))
 .nil))))
 .nil))
 (.cons (.ret (.bi false .tuple (.cons (.comp false [("_law_row", 9)] (.name 9) (.seq (.var 6)) .tt (.bi false .tuple (.cons (.var 9) .nil))) .nil)))
 .nil)))
def d__law_shown : DefE := ⟨dd "_law_shown" "_law_shown" (top 18), ["_law_factor", "_law_words_here", "_law_other", "_law_more", "_law_wide", "_law_low", "_law_rows", "_law_y", "_law_x", "_law_row"], ["_law_factor", "_law_words_here", "_law_other", "_law_more", "_law_wide"], s__law_shown, .glo "_law_shown", "_law_shown", none⟩
/-- law -/
def s_law : Ss := (.cons (.set 1 (.fn "_law_draws" (.cons (.var 0) .nil)))
 (.cons (.for_ (.name 2) (.rng1 (.int 12))
 (.cons (.par 3 4 (.fn "_law_next" (.cons (.var 1) (.cons (.int 10) .nil))) (.fn "_law_next" (.cons (.var 1) (.cons (.int 10) .nil))))
 (.cons (.ifs (.val (.cmp .eq (.fn "_law_next" (.cons (.var 1) (.cons (.int 3) .nil))) (.int 0)))
 (.cons (.set 4 (.bi false .max (.cons (.int 0) (.cons (.bi false .min (.cons (.int 9) (.cons (.bin false .sub (.bin false .add (.var 3) (.fn "_law_next" (.cons (.var 1) (.cons (.int 3) .nil)))) (.int 1)) .nil))) .nil))))
 .nil)
 .nil)
 (.cons (.unp (.tup (.cons (.name 5) (.cons (.name 6) .nil))) (.tup (.cons (.fn "_law_words" (.cons (.fn "_law_next" (.cons (.var 1) (.cons (.int 4) .nil))) .nil)) (.cons (.fn "_law_words" (.cons (.fn "_law_next" (.cons (.var 1) (.cons (.int 4) .nil))) .nil)) .nil))))
 (.cons (.set 7 (.ite (.val (.cmp .eq (.var 5) (.tup (.cons (.str "far") .nil)))) (.mk "Kind" 1 "Kind.__init__" (.cons (.var 3) (.cons (.str "far") .nil))) (.mk "Kind" 1 "Kind.__init__" (.cons (.var 3) .nil))))
 (.cons (.set 7 (.ite (.val (.cmp .eq (.var 5) (.tup (.cons (.str "both") .nil)))) (.mk "Kind" 1 "Kind.__init__" (.cons (.var 3) (.cons (.str "both") .nil))) (.ite (.val (.cmp .eq (.bi false .len (.cons (.var 5) .nil)) (.int 2))) (.mk "Kind" 1 "Kind.__init__" (.cons (.var 3) (.cons (.str "far") (.cons (.str "both") .nil)))) (.var 7))))
 (.cons (.set 8 (.ite (.val (.cmp .eq (.var 6) (.tup (.cons (.str "far") .nil)))) (.mk "Kind" 1 "Kind.__init__" (.cons (.var 4) (.cons (.str "far") .nil))) (.mk "Kind" 1 "Kind.__init__" (.cons (.var 4) .nil))))
 (.cons (.set 8 (.ite (.val (.cmp .eq (.var 6) (.tup (.cons (.str "both") .nil)))) (.mk "Kind" 1 "Kind.__init__" (.cons (.var 4) (.cons (.str "both") .nil))) (.ite (.val (.cmp .eq (.bi false .len (.cons (.var 6) .nil)) (.int 2))) (.mk "Kind" 1 "Kind.__init__" (.cons (.var 4) (.cons (.str "both") (.cons (.str "far") .nil)))) (.var 8))))
 (.cons (.set 9 (.and (.cmp .eqE (.comp false [("_law_word", 10)] (.name 10) (.seq (.var 6)) (.val (.cmp .notIn (.var 10) (.var 5))) (.var 10)) (.lst false .nil)) (.or (.cmp .eq (.var 4) (.int 0)) (.chain .le .le (.int 1) (.var 3) (.var 4)))))
 (.cons (.ifs (.val (.cmp .ne (.bi false .repr (.cons (.lst false (.cons (.mt "Kind" "within" "Kind.within" (.var 7) (.cons (.var 8) .nil)) (.cons (.mt "Kind" "within" "Kind.within" (.var 7) (.cons (.var 7) .nil)) (.cons (.mt "Kind" "within" "Kind.within" (.var 7) (.cons (.mk "Kind" 1 "Kind.__init__" (.cons (.int 0) .nil)) .nil)) .nil)))) .nil)) (.bi false .repr (.cons (.lst false (.cons (.var 9) (.cons (.bl true) (.cons (.bl true) .nil)))) .nil))))
 (.cons (.ret (.bl false))
 .nil)
 .nil)
 (.cons (.set 11 (.fn "_law_table" (.cons (.var 1) (.cons (.bin false .add (.int 2) (.fn "_law_next" (.cons (.var 1) (.cons (.int 3) .nil)))) (.cons (.var 3) (.cons (.var 5) .nil))))))
 (.cons (.ifs (.or (.val (.cmp .isNot (.fn "is_table" (.cons (.var 7) (.cons (.var 11) .nil))) (.bl true))) (.and (.val (.var 9)) (.val (.cmp .isNot (.fn "is_table" (.cons (.var 8) (.cons (.var 11) .nil))) (.bl true)))))
 (.cons (.ret (.bl false))
 .nil)
 .nil)
 (.cons (.ifs (.not (.val (.var 9)))
 (.cons (.set 12 (.fn "_law_shown" (.cons (.var 3) (.cons (.var 5) (.cons (.var 4) (.cons (.var 6) (.cons (.fn "_law_next" (.cons (.var 1) (.cons (.int 2) .nil))) .nil)))))))
 (.cons (.ifs (.val (.cmp .ne (.bi false .repr (.cons (.lst false (.cons (.fn "is_table" (.cons (.var 7) (.cons (.var 12) .nil))) (.cons (.fn "is_table" (.cons (.var 8) (.cons (.var 12) .nil))) .nil))) .nil)) (.bi false .repr (.cons (.lst false (.cons (.bl true) (.cons (.bl false) .nil))) .nil))))
 (.cons (.ret (.bl false))
 .nil)
 .nil)
 .nil))
 .nil)
 .nil)))))))))))))
 (.cons (.ret (.bl true))
 .nil)))
def d_law : DefE := ⟨dd "law" "law" (top 19), ["_law_script", "_law_drawn", "_law_turn", "_law_factor", "_law_other", "_law_words_here", "_law_more", "_law_one_here", "_law_two", "_law_due", "_law_word", "_law_table_here", "_law_sample"], ["_law_script"], s_law, .glo "law", "law", none⟩
/-- Kind.__init__ -/
def s_Kind___init__ : Ss := (.cons (.for_ (.name 3) (.seq (.var 2))
 (.cons (.ifs (.val (.cmp .notIn (.var 3) (.glob "WORDS")))
 (.cons .nev
 .nil)
 .nil)
 .nil))
 (.cons (.fst "Kind" "number" (.var 0) (.var 1))
 (.cons (.fst "Kind" "names" (.var 0) (.bi false .tuple (.cons (.comp false [("word", 3)] (.name 3) (.seq (.glob "WORDS")) (.val (.cmp .in_ (.var 3) (.var 2))) (.var 3)) .nil)))
 .nil)))
def d_Kind___init__ : DefE := ⟨dd "__init__" "Kind.__init__" (mth 5 0), ["self", "factor", "words", "word"], ["self", "factor"], s_Kind___init__, .meth "Kind" "__init__", "Kind.__init__", some "words"⟩
/-- Kind.factor -/
def s_Kind_factor : Ss := (.cons (.ret (.fld "Kind" "number" (.var 0)))
 .nil)
def d_Kind_factor : DefE := ⟨dd "factor" "Kind.factor" (mth 5 1), ["self"], ["self"], s_Kind_factor, .prop "Kind" "factor", "Kind.factor", none⟩
/-- Kind.within -/
def s_Kind_within : Ss := (.cons (.ifs (.val (.cmp .neE (.comp false [("word", 2)] (.name 2) (.seq (.fld "Kind" "names" (.var 1))) (.val (.cmp .notIn (.var 2) (.fld "Kind" "names" (.var 0)))) (.var 2)) (.lst false .nil)))
 (.cons (.ret (.bl false))
 .nil)
 .nil)
 (.cons (.ret (.or (.cmp .eq (.fld "Kind" "number" (.var 1)) (.int 0)) (.chain .le .le (.int 1) (.fld "Kind" "number" (.var 0)) (.fld "Kind" "number" (.var 1)))))
 .nil))
def d_Kind_within : DefE := ⟨dd "within" "Kind.within" (mth 5 5), ["self", "other", "word"], ["self", "other"], s_Kind_within, .meth "Kind" "within", "Kind.within", none⟩
/-- Kind.words -/
def s_Kind_words : Ss := (.cons (.ret (.fld "Kind" "names" (.var 0)))
 .nil)
def d_Kind_words : DefE := ⟨dd "words" "Kind.words" (mth 5 2), ["self"], ["self"], s_Kind_words, .prop "Kind" "words", "Kind.words", none⟩

def ds : List DefE := [d_is_distance, d_is_square, d_ways_round, d_is_table, d__law_draws, d__law_next, d__law_one, d__law_words, d__law_kind, d__law_lowered, d__law_table, d__law_shown, d_law, d_Kind___init__, d_Kind_factor, d_Kind_within, d_Kind_words]
def lay : Lay where
  free := ["abs", "all", "bool", "enumerate", "int", "isinstance", "len", "max", "min", "range", "repr", "tuple"]
  cst := [("WORDS", .tup [.str "both", .str "far"])]
  kws := []
  flds := [("Kind", "names"), ("Kind", "number")]
  prps := [("Kind", "factor", "Kind.factor"), ("Kind", "words", "Kind.words")]
  mks := [("Kind", 1, "Kind.__init__")]
  mk0s := []
  mts := [("Kind", "within", "Kind.within", ["self", "other"])]
theorem ds_ok : ds.all (DefE.ok lay (fnsOf ds)) = true := by decide +kernel
theorem b_is_distance : d_is_distance.Bs := fun _ _ _ _ _ _ us hl => match us, hl with | [_], _ => rfl
theorem b_is_square : d_is_square.Bs := fun _ _ _ _ _ _ us hl => match us, hl with | [_], _ => rfl
theorem b_ways_round : d_ways_round.Bs := fun _ _ _ _ _ _ us hl => match us, hl with | [_, _], _ => rfl
theorem b_is_table : d_is_table.Bs := fun _ _ _ _ _ _ us hl => match us, hl with | [_, _], _ => rfl
theorem b__law_draws : d__law_draws.Bs := fun _ _ _ _ _ _ us hl => match us, hl with | [_], _ => rfl
theorem b__law_next : d__law_next.Bs := fun _ _ _ _ _ _ us hl => match us, hl with | [_, _], _ => rfl
theorem b__law_one : d__law_one.Bs := fun _ _ _ _ _ _ us hl => match us, hl with | [_, _], _ => rfl
theorem b__law_words : d__law_words.Bs := fun _ _ _ _ _ _ us hl => match us, hl with | [_], _ => rfl
theorem b__law_kind : d__law_kind.Bs := fun _ _ _ _ _ _ us hl => match us, hl with | [_], _ => rfl
theorem b__law_lowered : d__law_lowered.Bs := fun _ _ _ _ _ _ us hl => match us, hl with | [_, _], _ => rfl
theorem b__law_table : d__law_table.Bs := fun _ _ _ _ _ _ us hl => match us, hl with | [_, _, _, _], _ => rfl
theorem b__law_shown : d__law_shown.Bs := fun _ _ _ _ _ _ us hl => match us, hl with | [_, _, _, _, _], _ => rfl
theorem b_law : d_law.Bs := fun _ _ _ _ _ _ us hl => match us, hl with | [_], _ => rfl
theorem b_Kind___init__ : d_Kind___init__.Bs := fun _ _ _ _ _ _ us rest hl => match us, rest, hl with | [_, _], [], _ => rfl | [_, _], _ :: _, _ => rfl
theorem b_Kind_factor : d_Kind_factor.Bs := fun _ _ _ _ _ _ us hl => match us, hl with | [_], _ => rfl
theorem b_Kind_within : d_Kind_within.Bs := fun _ _ _ _ _ _ us hl => match us, hl with | [_, _], _ => rfl
theorem b_Kind_words : d_Kind_words.Bs := fun _ _ _ _ _ _ us hl => match us, hl with | [_], _ => rfl
theorem has : lay.Has ds := by
  refine ⟨?_, ?_, ?_, ?_, ?_⟩
  · exact fun _ h => nomatch (show _ ∈ ([] : List _) from h)
  · intro q hq
    simp only [lay, List.mem_cons, List.not_mem_nil, or_false] at hq
    rcases hq with rfl | rfl
    · exact ⟨d_Kind_factor, by simp [ds], rfl, rfl, rfl, _, rfl⟩
    · exact ⟨d_Kind_words, by simp [ds], rfl, rfl, rfl, _, rfl⟩
  · intro q hq
    simp only [lay, List.mem_cons, List.not_mem_nil, or_false] at hq
    rcases hq with rfl
    · exact ⟨d_Kind___init__, by simp [ds], rfl, rfl, rfl, rfl⟩
  · intro q hq
    simp only [lay, List.mem_cons, List.not_mem_nil, or_false] at hq
    rcases hq with rfl
    · exact ⟨d_Kind_within, by simp [ds], rfl, rfl, rfl, rfl⟩
  · exact fun _ h => nomatch (show _ ∈ ([] : List _) from h)
end Ev.Lw

set_option Elab.async false
set_option linter.all false
set_option maxRecDepth 100000
set_option maxHeartbeats 4000000
namespace Ev.Lw
open PySem PySem.Spec PyProof.Rows L2
section
variable {G : Ctx} {gl : Str → PV} {ρ : Env} {h : MH} {D : PEnds} {Q : PK} {R : XV} {ex : Env → XV} {k : Nat} {as : List PV}
/-! ### the trees -/
def sayT (x : PV) : PV := .tup [.str "say", x]
def askT (i : Int) (t : PV) : PV := .tup [.str "ask", .int i, t]
def ifT (f a b : PV) : PV := .tup [.str "if", f, a, b]
def cmpF (kept item : Int) : PV := .tup [.tup [.int 1, .tup [.int 0, .int kept]], .tup [.int (-1), .tup [.int 0, .int item]]]
def gaF (item : Int) : PV := .tup [.tup [.int 1, .tup [.int 0, .int item]], .tup [.int (-1), .str "r"]]
def farF (f kept item : Int) : PV := .tup [.tup [.int f, .tup [.int 0, .int kept]], .tup [.int (-1), .tup [.int 0, .int 1]], .tup [.int f, .tup [.int 1, .int item]]]
def wideF (f kept item : Int) : PV := .tup [.tup [.int f, .tup [.int 0, .int kept]], .tup [.int (-1), .tup [.int 1, .int item]], .tup [.int f, .tup [.int 0, .int 1]]]
def scT : Nat → Int → Int → PV
  | 0, _, kept => sayT (.int kept)
  | m + 1, item, kept => askT item (ifT (cmpF kept item) (scT m (item + 1) kept) (scT m (item + 1) item))
def gaT : Nat → Int → List PV → PV
  | 0, _, ins => sayT (.tup ins)
  | m + 1, item, ins => askT item (ifT (gaF item) (gaT m (item + 1) (ins ++ [.int item])) (gaT m (item + 1) ins))
def svT (f : Int) : Nat → Int → Int → PV
  | 0, _, kept => sayT (.int kept)
  | m + 1, item, kept => ifT (farF f kept item) (svT f m (item + 1) kept) (ifT (wideF f kept item) (svT f m (item + 1) kept) (askT item (ifT (cmpF kept item) (svT f m (item + 1) kept) (svT f m (item + 1) item))))
/-! ### promises -/
def spCompared : SpM := pureS fun as v => ∃ (i j : Int) (a b : PV), as = [.int i, .int j, a, b] ∧ v = ifT (cmpF i j) a b
def spScanned : Nat → SpM := pureR fun k as v => ∃ (n item kept : Int) (m : Nat), as = [.int n, .int item, .int kept] ∧ m + 2 ≤ k ∧ n + 1 = item + m ∧ v = scT m item kept
def spScan : SpM := pureS fun as v => ∃ n : Nat, as = [.int n] ∧ 1 ≤ n ∧ n ≤ 4 ∧ v = askT 1 (scT (n - 1) 2 1)
def spGathered : Nat → SpM := pureR fun k as v => ∃ (n item : Int) (ins : List PV) (m : Nat), as = [.int n, .int item, .tup ins] ∧ m + 1 ≤ k ∧ ins.length + m ≤ 10 ∧ n + 1 = item + m ∧ v = gaT m item ins
def spGather : SpM := pureS fun as v => ∃ n : Nat, as = [.int n] ∧ 1 ≤ n ∧ n ≤ 4 ∧ v = gaT n 1 []
def spSieved : Nat → SpM := pureR fun k as v => ∃ (n f item kept : Int) (m : Nat), as = [.int n, .int f, .int item, .int kept] ∧ m + 2 ≤ k ∧ n + 1 = item + m ∧ v = svT f m item kept
def spSieve : SpM := pureS fun as v => ∃ (n : Nat) (f : Int), as = [.int n, .int f] ∧ 1 ≤ n ∧ n ≤ 4 ∧ v = askT 1 (svT f (n - 1) 2 1)
/-! ### search trees as a type -/
abbrev Form := List (Int × PV)
inductive Tr
  | say (v : PV)
  | ask (i : Int) (t : Tr)
  | iff (f : Form) (a b : Tr)
def eRow (p : Int × PV) : PV := .tup [.int p.1, p.2]
def eF (f : Form) : PV := .tup (f.map eRow)
def eTr : Tr → PV
  | .say v => sayT v
  | .ask i t => askT i (eTr t)
  | .iff f a b => ifT (eF f) (eTr a) (eTr b)
def Tr.dp : Tr → Nat
  | .say _ => 1
  | .ask _ t => t.dp + 1
  | .iff _ a b => max a.dp b.dp + 1
def Tr.lf : Tr → Nat
  | .say _ => 1
  | .ask _ t => t.lf
  | .iff _ a b => a.lf + b.lf
def Tr.sz : Tr → Nat
  | .say _ => 1
  | .ask _ t => t.sz + 1
  | .iff _ a b => a.sz + b.sz + 1
def negF (f : Form) : Form := f.map fun p => (0 - p.1, p.2)
def eTest (p : Form × Bool) : PV := .tup [eF p.1, .bl p.2]
def eFact (p : Form × Bool) : PV := if p.2 then .tup [.str "<=", eF p.1] else .tup [.str "<", eF (negF p.1)]
abbrev Leaf := List (Form × Bool) × PV × List Int
def lv : Tr → List (Form × Bool) → List Int → List Leaf
  | .say v, ts, as => [(ts, v, as)]
  | .ask i t, ts, as => lv t ts (as ++ [i])
  | .iff f a b, ts, as => lv a (ts ++ [(f, true)]) as ++ lv b (ts ++ [(f, false)]) as
def eBranch (l : Leaf) : PV := .tup [sayT l.2.1, .tup (l.1.map eTest), .tup (l.2.2.map .int)]
def eLeaf (l : Leaf) : PV := .tup [.tup (l.1.map eFact), l.2.1, .tup (l.2.2.map .int)]
/-- a piece of waiting work -/
abbrev Work := Tr × List (Form × Bool) × List Int
def eWork (w : Work) : PV := .tup [eTr w.1, .tup (w.2.1.map eTest), .tup (w.2.2.map .int)]
theorem lf_pos : ∀ t : Tr, 1 ≤ t.lf
  | .say _ => Nat.le_refl _
  | .ask _ t => lf_pos t
  | .iff _ a b => Nat.le_trans (lf_pos a) (Nat.le_add_right _ _)
theorem lv_len : ∀ (t : Tr) (ts as), (lv t ts as).length = t.lf
  | .say _, _, _ => rfl
  | .ask _ t, ts, as => lv_len t ts _
  | .iff f a b, ts, as => by rw [lv, List.length_append, lv_len a, lv_len b]; rfl
theorem lv_tests : ∀ (t : Tr) (ts as) (l : Leaf), l ∈ lv t ts as → l.1.length ≤ ts.length + t.dp ∧ l.2.2.length ≤ as.length + t.dp
  | .say v, ts, as, l, h => by cases List.mem_singleton.mp h; exact ⟨Nat.le_add_right _ _, Nat.le_add_right _ _⟩
  | .ask i t, ts, as, l, h => by
    have := lv_tests t ts _ l h
    simp only [List.length_append, List.length_singleton, Tr.dp] at *
    omega
  | .iff f a b, ts, as, l, h => by
    rcases List.mem_append.mp h with h | h
    · have := lv_tests a _ _ l h
      simp only [List.length_append, List.length_singleton, Tr.dp] at *
      omega
    · have := lv_tests b _ _ l h
      simp only [List.length_append, List.length_singleton, Tr.dp] at *
      omega
def Tr.FL (n : Nat) : Tr → Prop
  | .say _ => True
  | .ask _ t => t.FL n
  | .iff f a b => f.length ≤ n ∧ a.FL n ∧ b.FL n
/-! ### promises about trees -/
def anyS (ok : List PV → Prop) (P : List PV → PV → Prop) : SpM where
  run := fun as h Q _ => ok as ∧ ∀ v, P as v → Q v h
  mono := fun as h P Q R T k _ ⟨o, q⟩ => ⟨o, fun v e => k _ _ (q v e)⟩
def spNegated : SpM := pureS fun as v => ∃ (b : Bool) (f : Form), f.length ≤ 1000 ∧ as = [.tup [.str (if b then "<" else "<="), eF f]] ∧ v = .tup [.str (if !b then "<" else "<="), eF (negF f)]
def spFactsOf : SpM := pureS fun as v => ∃ ts : List (Form × Bool), (∀ p ∈ ts, p.1.length ≤ 1000) ∧ ts.length ≤ 1000 ∧ as = [.tup (ts.map eTest)] ∧ v = .tup (ts.map eFact)
def spBranches : SpM where
  run := fun as h Q _ => ∃ t : Tr, as = [eTr t] ∧ t.dp ≤ 200 ∧ t.lf ≤ 1000 ∧ ∀ (h' : MH) (p : Addr), (∀ b o, h b = some o → h' b = some o) → h' p = some (.lst ((lv t [] []).map eBranch)) → Q (.ref p) h'
  mono := fun as h P Q R T k _ ⟨t, e, z1, z2, q⟩ => ⟨t, e, z1, z2, fun h' p x y => k _ _ (q h' p x y)⟩
def spLeaves : SpM := pureS fun as v => ∃ t : Tr, as = [eTr t] ∧ t.dp ≤ 200 ∧ t.lf ≤ 1000 ∧ t.FL 1000 ∧ v = .tup ((lv t [] []).map eLeaf)
def spLOther : SpM := pureS fun as v => ∃ f : Form, f.length ≤ 1000 ∧ as = [.tup [.str "<=", eF f]] ∧ v = .tup [.str "<", eF (negF f)]
def spLLeaves : Nat → SpM := pureR fun k as v => ∃ (t : Tr) (ts : List (Form × Bool)) (is : List Int), t.dp ≤ k ∧ t.dp + ts.length ≤ 200 ∧ t.dp + is.length ≤ 200 ∧ t.lf ≤ 1000 ∧ t.FL 1000 ∧
  as = [eTr t, .lst (ts.map eFact), .lst (is.map .int)] ∧ v = .lst ((lv t ts is).map eLeaf)
/-! ### what the law draws: unknowns, forms -/
/-- an unknown of a small place -/
def Unk (w : Int) (x : PV) : Prop := x = .str "r" ∨ ∃ i j : Int, x = .tup [.int i, .int j] ∧ 0 ≤ i ∧ i < w ∧ 0 ≤ j ∧ j < w ∧ i ≠ j
def Rws (w : Int) (f : Form) : Prop := f.length ≤ 4 ∧ ∀ p ∈ f, -100 < p.1 ∧ p.1 < 100 ∧ Unk w p.2
def Ask (w : Int) (is : List Int) : Prop := is.length ≤ 10 ∧ ∀ i ∈ is, 1 ≤ i ∧ i < w
/-- known to a search: of the item, what is asked -/
def Kno (tw : Bool) (is : List Int) (x : PV) : Prop := x = .str "r" ∨ ∃ i j : Int, x = .tup [.int i, .int j] ∧ (i = 0 → j ∈ is) ∧ (j = 0 → i ∈ is ∧ tw = true)
def UnkK (w : Int) (tw : Bool) (is : List Int) (x : PV) : Prop := Unk w x ∧ Kno tw is x
def RwsK (w : Int) (tw : Bool) (is : List Int) (f : Form) : Prop := f.length ≤ 4 ∧ ∀ p ∈ f, -100 < p.1 ∧ p.1 < 100 ∧ UnkK w tw is p.2
theorem RwsK.rws {w : Int} {tw : Bool} {is : List Int} {f : Form} (h : RwsK w tw is f) : Rws w f := ⟨h.1, fun p hp => ⟨(h.2 p hp).1, (h.2 p hp).2.1, (h.2 p hp).2.2.1⟩⟩
def Ans (w s : Int) (v : PV) : Prop := if s = 0 then ∃ i : Int, v = .int i ∧ 1 ≤ i ∧ i < w else ∃ is : List Int, v = .tup (is.map .int) ∧ Ask w is ∧ is.Pairwise (· < ·)
def spUnknowns : SpM := anyS (fun as => ∃ (w : Int) (is : List Int) (tw : Bool), as = [.int w, .lst (is.map .int), .bl tw] ∧ 2 ≤ w ∧ w ≤ 10 ∧ Ask w is)
  fun as v => ∃ (w : Int) (is : List Int) (tw : Bool) (xs : List PV), as = [.int w, .lst (is.map .int), .bl tw] ∧ v = .lst xs ∧ xs ≠ [] ∧ xs.length ≤ 1000 ∧ ∀ x ∈ xs, UnkK w tw is x
def spForm : SpM := drawS (fun as v => ∃ (w : Int) (is : List Int) (tw : Bool) (f : Form), as = [.int w, .lst (is.map .int), .bl tw] ∧ v = eF f ∧ RwsK w tw is f) fun as => ∃ (w : Int) (is : List Int) (tw : Bool), as = [.int w, .lst (is.map .int), .bl tw] ∧ 2 ≤ w ∧ w ≤ 10 ∧ Ask w is
def spAnswer : SpM := drawS (fun as v => ∃ w s : Int, as = [.int w, .int s] ∧ Ans w s v) fun as => ∃ w s : Int, as = [.int w, .int s] ∧ 2 ≤ w ∧ w ≤ 10
/-! ### what the law draws: trees -/
/-- the places that are not asked yet -/
def rst (n : Nat) (is : List Int) : List Int := ((List.range n).map fun j : Nat => (1 : Int) + (j : Int)).filter fun i => !is.contains i
def Good (w : Int) : Tr → Prop
  | .say v => (∃ i : Int, v = .int i ∧ 1 ≤ i ∧ i < 100) ∨ ∃ is : List Int, v = .tup (is.map .int) ∧ Ask 100 is
  | .ask i t => 1 ≤ i ∧ i < w ∧ Good w t
  | .iff f a b => Rws w f ∧ Good w a ∧ Good w b
/-- what is_search asks of a search, with the answers' sort -/
def Sch (w : Int) (tw : Bool) (srt : Int) : List Int → Tr → Prop
  | _, .say v => Ans w srt v
  | is, .ask i t => 1 ≤ i ∧ i < w ∧ i ∉ is ∧ Sch w tw srt (is ++ [i]) t
  | is, .iff f a b => RwsK w tw is f ∧ Sch w tw srt is a ∧ Sch w tw srt is b
theorem Ans.good {w s : Int} {v : PV} (h : Ans w s v) (hw : w ≤ 100) : (∃ i : Int, v = .int i ∧ 1 ≤ i ∧ i < 100) ∨ ∃ is : List Int, v = .tup (is.map .int) ∧ Ask 100 is := by
  unfold Ans at h
  split at h
  · obtain ⟨i, rfl, h1, h2⟩ := h
    exact .inl ⟨i, rfl, h1, by omega⟩
  · obtain ⟨is, rfl, ⟨h1, h2⟩, _⟩ := h
    exact .inr ⟨is, rfl, h1, fun i hi => ⟨(h2 i hi).1, by have := (h2 i hi).2; omega⟩⟩
theorem Sch.good {w : Int} {tw : Bool} {s : Int} (hw : w ≤ 100) : ∀ {t : Tr} {is : List Int}, Sch w tw s is t → Good w t
  | .say v, is, h => Ans.good h hw
  | .ask i t, is, h => ⟨h.1, h.2.1, Sch.good hw h.2.2.2⟩
  | .iff f a b, is, h => ⟨h.1.rws, Sch.good hw h.2.1, Sch.good hw h.2.2⟩
def spTree : Nat → SpM := fun k => drawS
  (fun as v => ∃ (n : Nat) (is : List Int) (room tests s : Int) (tw : Bool) (t : Tr), as = [.int (n + 1), .lst (is.map .int), .tup [.int room, .int tests, .bl tw], .int s] ∧ v = eTr t ∧ Sch (n + 1) tw s is t ∧ t.lf ≤ room ∧ t.dp ≤ (rst n is).length + tests + 1)
  fun as => ∃ (n : Nat) (is : List Int) (room tests s : Int) (tw : Bool), as = [.int (n + 1), .lst (is.map .int), .tup [.int room, .int tests, .bl tw], .int s] ∧ 1 ≤ n ∧ n ≤ 9 ∧ Ask (n + 1) is ∧ is.length + (rst n is).length ≤ 10 ∧
    1 ≤ room ∧ room ≤ 30 ∧ 0 ≤ tests ∧ tests ≤ 9 ∧ (rst n is).length + tests + 4 ≤ k
/-! ### a number in a list of numbers -/
theorem ints_lay : ∀ {xs : List Int}, PyData.canLayAll0 (xs.map .int) = true ∧ PyData.depthAll (xs.map .int) = 0
  | [] => ⟨rfl, rfl⟩
  | x :: xs => by
    obtain ⟨i1, i2⟩ := ints_lay (xs := xs)
    exact ⟨by simp only [List.map_cons, PyData.canLayAll0, PyData.canLay0, i1, Bool.and_self], by simp only [List.map_cons, PyData.depthAll, PyData.depth, i2, Nat.max_self]⟩
theorem any_int {a : Int} : ∀ {xs : List Int}, ((xs.map PyData.int).any fun z => PyData.eqv z (.int a)) = xs.any fun z => z == a
  | [] => rfl
  | x :: xs => by
    simp only [List.map_cons, List.any_cons, any_int, PyData.eqv]
theorem o_notInI {h : MH} {Q : PK} {a : Int} {xs : List Int} : cmpOp .notIn (.int a) (.lst (xs.map .int)) h Q = Q (.bl (!xs.any fun z => z == a)) h := by
  have e1 : datL (deref h 5) (xs.map .int) = some (xs.map .int) := datL_map (t := PyData.int) fun _ _ => rfl
  obtain ⟨l1, l2⟩ := ints_lay (xs := xs)
  have s1 : SeqAt.shaped (.int a) = true := by
    unfold SeqAt.shaped
    simp [PyData.canLay0, PyData.depth]
  have s2 : SeqAt.shaped (.list (xs.map .int)) = true := by
    unfold SeqAt.shaped
    simp only [PyData.canLay0, l1, PyData.depth, l2]
    decide
  show (∃ ys d ds, some (xs.map PV.int) = some ys ∧ dat h (.int a) = some d ∧ datL (deref h 5) ys = some ds ∧ SeqAt.shaped d = true ∧ SeqAt.shaped (.list ds) = true ∧ Q (.bl (true != ds.any fun z => PyData.eqv z d)) h) = _
  apply propext
  constructor
  · rintro ⟨ys, d, ds, e, e2, e3, _, _, q⟩
    cases e
    cases e2
    rw [e1] at e3
    cases e3
    rw [any_int, Bool.true_bne] at q
    exact q
  · intro q
    exact ⟨_, _, _, rfl, rfl, e1, s1, s2, by rw [any_int, Bool.true_bne]; exact q⟩
theorem ints_inj : ∀ {a b : List Int}, a.map PV.int = b.map PV.int → a = b
  | [], [], _ => rfl
  | x :: a, y :: b, e => by
    simp only [List.map_cons, List.cons.injEq, PV.int.injEq] at e
    rw [e.1, ints_inj e.2]
def spLaw : SpM where
  run := fun as h Q _ => ∃ ns : List Int, as = [.scr (ns.map .int)] ∧ ns.length ≤ 63 ∧ ∀ h', Q (.bl true) h'
  mono := fun as h P Q R T k _ ⟨ns, e, z, q⟩ => ⟨ns, e, z, fun h' => k _ _ (q h')⟩
/-! ### a table of lists that may change -/
abbrev Tbl := List (List Int)
structure Mat (h : MH) (q : Addr) (qs : List Addr) (t : Tbl) : Prop where
  top : h q = some (.lst (qs.map .ref))
  len : qs.length = t.length
  row : ∀ (i : Nat) (p : Addr) (r : List Int), qs[i]? = some p → t[i]? = some r → h p = some (.lst (r.map .int))
  nd : ∀ (i j : Nat) (p : Addr), qs[i]? = some p → qs[j]? = some p → i = j
  nq : q ∉ qs
/-- n rows of n numbers from 0 to m -/
def Sq (n : Nat) (m : Int) (t : Tbl) : Prop := t.length = n ∧ ∀ r ∈ t, r.length = n ∧ ∀ x ∈ r, 0 ≤ x ∧ x ≤ m
def at2 (t : Tbl) (x y : Nat) : Int := (t[x]?.getD [])[y]?.getD 0
def tot (t : Tbl) : Int := (t.map List.sum).sum
def put2 (t : Tbl) (x y : Nat) (v : Int) : Tbl := t.set x ((t[x]?.getD []).set y v)
theorem sum_set : ∀ (r : List Int) (i : Nat) (v : Int), i < r.length → (r.set i v).sum = r.sum - r[i]?.getD 0 + v
  | [], _, _, h => absurd h (Nat.not_lt_zero _)
  | x :: r, 0, v, _ => by simp only [List.set_cons_zero, List.sum_cons, List.getElem?_cons_zero, Option.getD_some]; omega
  | x :: r, i + 1, v, h => by
    simp only [List.set_cons_succ, List.sum_cons, List.getElem?_cons_succ, sum_set r i v (Nat.lt_of_succ_lt_succ h)]; omega
theorem tot_set : ∀ (t : Tbl) (i : Nat) (r : List Int), i < t.length → tot (t.set i r) = tot t - (t[i]?.getD []).sum + r.sum
  | [], _, _, h => absurd h (Nat.not_lt_zero _)
  | x :: t, 0, r, _ => by simp only [tot, List.set_cons_zero, List.map_cons, List.sum_cons, List.getElem?_cons_zero, Option.getD_some]; omega
  | x :: t, i + 1, r, h => by
    have := tot_set t i r (Nat.lt_of_succ_lt_succ h)
    simp only [tot] at this
    simp only [tot, List.set_cons_succ, List.map_cons, List.sum_cons, List.getElem?_cons_succ, this]; omega
theorem Sq.row {n : Nat} {m : Int} {t : Tbl} (s : Sq n m t) {i : Nat} (hi : i < n) : t[i]? = some (t[i]?.getD []) ∧ (t[i]?.getD []).length = n ∧ t[i]?.getD [] ∈ t := by
  have h1 : i < t.length := by rw [s.1]; exact hi
  have e : t[i]? = some t[i] := List.getElem?_eq_getElem h1
  have e2 : t[i]?.getD [] = t[i] := by rw [e]; rfl
  rw [e2]
  exact ⟨e, (s.2 _ (List.getElem_mem h1)).1, List.getElem_mem h1⟩
theorem Sq.cell {n : Nat} {m : Int} {t : Tbl} (s : Sq n m t) {i j : Nat} (hi : i < n) (hj : j < n) : 0 ≤ at2 t i j ∧ at2 t i j ≤ m := by
  obtain ⟨_, l, me⟩ := s.row hi
  have h1 : j < (t[i]?.getD []).length := by rw [l]; exact hj
  have e : at2 t i j = (t[i]?.getD [])[j] := by unfold at2; rw [List.getElem?_eq_getElem h1]; rfl
  rw [e]
  exact (s.2 _ me).2 _ (List.getElem_mem h1)
theorem Sq.put {n : Nat} {m v : Int} {t : Tbl} (s : Sq n m t) {i j : Nat} (hi : i < n) (h0 : 0 ≤ v) (h1 : v ≤ m) : Sq n m (put2 t i j v) := by
  obtain ⟨_, l, me⟩ := s.row hi
  refine ⟨by unfold put2; rw [List.length_set]; exact s.1, fun r hr => ?_⟩
  rcases List.mem_or_eq_of_mem_set hr with hr | rfl
  · exact s.2 r hr
  · refine ⟨by rw [List.length_set]; exact l, fun x hx => ?_⟩
    rcases List.mem_or_eq_of_mem_set hx with hx | rfl
    · exact (s.2 _ me).2 x hx
    · exact ⟨h0, h1⟩
theorem tot_put {n : Nat} {m v : Int} {t : Tbl} (s : Sq n m t) {i j : Nat} (hi : i < n) (hj : j < n) : tot (put2 t i j v) = tot t - at2 t i j + v := by
  obtain ⟨_, l, me⟩ := s.row hi
  unfold put2 at2
  rw [tot_set _ _ _ (by rw [s.1]; exact hi), sum_set _ _ _ (by rw [l]; exact hj)]
  omega
theorem sum_pos : ∀ (r : List Int), (∀ x ∈ r, 0 ≤ x) → 0 ≤ r.sum
  | [], _ => Int.le_refl 0
  | x :: r, h => by
    have := sum_pos r fun y hy => h y (List.mem_cons_of_mem _ hy)
    have := h x List.mem_cons_self
    rw [List.sum_cons]; omega
theorem tot_pos {n : Nat} {m : Int} {t : Tbl} (s : Sq n m t) : 0 ≤ tot t := by
  refine sum_pos _ fun x hx => ?_
  obtain ⟨r, hr, rfl⟩ := List.mem_map.mp hx
  exact sum_pos r fun y hy => ((s.2 r hr).2 y hy).1
section
variable {q : Addr} {qs : List Addr} {t : Tbl} {n : Nat} {m : Int}
theorem Mat.get (M : Mat h q qs t) (s : Sq n m t) {i : Nat} (hi : i < n) : ∃ p, qs[i]? = some p ∧ L2.atI (qs.map PV.ref) i = some (.ref p) ∧ h p = some (.lst ((t[i]?.getD []).map .int)) := by
  have h1 : i < qs.length := by rw [M.len, s.1]; exact hi
  have e : qs[i]? = some qs[i] := List.getElem?_eq_getElem h1
  refine ⟨qs[i], e, ?_, M.row i _ _ e (s.row hi).1⟩
  rw [atI_nat (n := i) rfl (by rw [List.length_map]; exact h1), List.getElem?_map, e]
  rfl
theorem Mat.at (s : Sq n m t) {i j : Nat} (hi : i < n) (hj : j < n) : L2.atI ((t[i]?.getD []).map PV.int) j = some (.int (at2 t i j)) := by
  have l := (s.row hi).2.1
  have := at_int (r := t[i]?.getD []) (i := j) (by rw [l]; exact hj)
  rw [this]
  rfl
theorem Mat.ne (M : Mat h q qs t) {i : Nat} {p : Addr} (e : qs[i]? = some p) : p ≠ q := fun z => M.nq (z ▸ List.mem_of_getElem? e)
theorem Mat.put (M : Mat h q qs t) (s : Sq n m t) {i : Nat} {p : Addr} (hi : i < n) (e : qs[i]? = some p) (r : List Int) : Mat (mupd h p (.lst (r.map .int))) q qs (t.set i r) := by
  refine ⟨by rw [mupd_ne (Ne.symm (M.ne e))]; exact M.top, by rw [List.length_set]; exact M.len, fun j p2 r2 e1 e2 => ?_, M.nd, M.nq⟩
  by_cases z : j = i
  · subst z
    rw [e] at e1; cases e1
    rw [List.getElem?_set_self (by rw [s.1]; exact hi)] at e2
    cases e2
    exact mupd_same
  · rw [List.getElem?_set_ne (Ne.symm z)] at e2
    have n2 : p2 ≠ p := fun w => z (M.nd j i p2 e1 (w ▸ e))
    rw [mupd_ne n2]
    exact M.row j p2 r2 e1 e2
theorem Mat.other {p : Addr} {o : MO} (M : Mat h q qs t) (h1 : p ≠ q) (h2 : p ∉ qs) : Mat (mupd h p o) q qs t :=
  ⟨by rw [mupd_ne (Ne.symm h1)]; exact M.top, M.len, fun j p2 r2 e1 e2 => by rw [mupd_ne fun z => h2 (by rw [← z]; exact List.mem_of_getElem? e1)]; exact M.row j p2 r2 e1 e2, M.nd, M.nq⟩
theorem Mat.fresh {p : Addr} (M : Mat h q qs t) (hp : h p = none) : p ≠ q ∧ p ∉ qs := by
  refine ⟨fun e => (by rw [e, M.top] at hp; cases hp), fun hm => ?_⟩
  obtain ⟨i, hi, e⟩ := List.mem_iff_getElem.mp hm
  have e1 : qs[i]? = some p := by rw [List.getElem?_eq_getElem hi, e]
  have e2 : t[i]? = some (t[i]'(by rw [← M.len]; exact hi)) := List.getElem?_eq_getElem _
  rw [M.row i p _ e1 e2] at hp
  cases hp
end
/-! ### a number in a pair of numbers -/
theorem o_notInT {h : MH} {Q : PK} {a : Int} {xs : List Int} : cmpOp .notIn (.int a) (.tup (xs.map .int)) h Q = Q (.bl (!xs.any fun z => z == a)) h := by
  have e1 : datL (deref h 5) (xs.map .int) = some (xs.map .int) := datL_map (t := PyData.int) fun _ _ => rfl
  obtain ⟨l1, l2⟩ := ints_lay (xs := xs)
  have s1 : SeqAt.shaped (.int a) = true := by
    unfold SeqAt.shaped
    simp [PyData.canLay0, PyData.depth]
  have s2 : SeqAt.shaped (.list (xs.map .int)) = true := by
    unfold SeqAt.shaped
    simp only [PyData.canLay0, l1, PyData.depth, l2]
    decide
  show (∃ ys d ds, some (xs.map PV.int) = some ys ∧ dat h (.int a) = some d ∧ datL (deref h 5) ys = some ds ∧ SeqAt.shaped d = true ∧ SeqAt.shaped (.list ds) = true ∧ Q (.bl (true != ds.any fun z => PyData.eqv z d)) h) = _
  apply propext
  constructor
  · rintro ⟨ys, d, ds, e, e2, e3, _, _, q⟩
    cases e
    cases e2
    rw [e1] at e3
    cases e3
    rw [any_int, Bool.true_bne] at q
    exact q
  · intro q
    exact ⟨_, _, _, rfl, rfl, e1, s1, s2, by rw [any_int, Bool.true_bne]; exact q⟩
/-! ### tables of a kind -/
theorem at2_put {n : Nat} {m v : Int} {t : Tbl} (s : Sq n m t) {i j : Nat} (hi : i < n) (hj : j < n) (x y : Nat) : at2 (put2 t i j v) x y = if x = i ∧ y = j then v else at2 t x y := by
  obtain ⟨_, l, _⟩ := s.row hi
  unfold at2 put2
  by_cases e : x = i
  · subst e
    rw [List.getElem?_set_self (by rw [s.1]; exact hi), Option.getD_some]
    by_cases e2 : y = j
    · subst e2
      rw [List.getElem?_set_self (by rw [l]; exact hj), Option.getD_some, if_pos ⟨rfl, rfl⟩]
    · rw [List.getElem?_set_ne (Ne.symm e2), if_neg fun z => e2 z.2]
  · rw [List.getElem?_set_ne (Ne.symm e), if_neg fun z => e z.1]
def Tri (f : Int) (n : Nat) (t : Tbl) : Prop := ∀ x y z : Nat, x < n → y < n → z < n → x ≠ y → y ≠ z → x ≠ z → at2 t x z ≤ f * (at2 t x y + at2 t y z)
def Kt (lo : Int) (n : Nat) (t : Tbl) : Prop := ∀ x y : Nat, x < n → y < n → (x = y → at2 t x y = 0) ∧ (x ≠ y → lo ≤ at2 t x y)
def Sym (n : Nat) (t : Tbl) : Prop := ∀ x y : Nat, x < n → y < n → at2 t x y = at2 t y x
theorem Kt.put {lo m v : Int} {n : Nat} {t : Tbl} (k : Kt lo n t) (s : Sq n m t) {i j : Nat} (hi : i < n) (hj : j < n) (ne : i ≠ j) (hv : lo ≤ v) : Kt lo n (put2 t i j v) := by
  intro x y hx hy
  rw [at2_put s hi hj]
  by_cases e : x = i ∧ y = j
  · rw [if_pos e]
    exact ⟨fun z => absurd (e.1.symm.trans (z.trans e.2)) ne, fun _ => hv⟩
  · rw [if_neg e]
    exact k x y hx hy
/-- lowers the table in its place; tells whether it changed -/
def spLowered : SpM where
  run := fun as h Q _ => ∃ (q : Addr) (f : Int) (n : Nat) (m lo : Int) (qs : List Addr) (t : Tbl), as = [.ref q, .int f] ∧ Mat h q qs t ∧ Sq n m t ∧ Kt lo n t ∧ 0 ≤ lo ∧ n < 10 ∧ 1 ≤ f ∧ f < 100 ∧ m < 10000000 ∧
    ∀ (h' : MH) (t' : Tbl) (b : Bool), Mat h' q qs t' → Sq n m t' → Kt lo n t' → (∀ p, p ∉ qs → h' p = h p) → tot t' ≤ tot t → (b = true → tot t' < tot t) → (b = false → t' = t ∧ Tri f n t) → Q (.bl b) h'
  mono := fun as h P Q R T k _ ⟨q, f, n, m, lo, qs, t, e, z1, z2, z2', z2'', z3, z4, z5, z6, z⟩ => ⟨q, f, n, m, lo, qs, t, e, z1, z2, z2', z2'', z3, z4, z5, z6, fun h' t' b x1 x2 x2' x3 x4 x5 x6 => k _ _ (z h' t' b x1 x2 x2' x3 x4 x5 x6)⟩
/-! ### rows that are new since h; the drawn at p goes on -/
structure RN (p : Addr) (h h' : MH) (qs : List Addr) (t : Tbl) : Prop where
  kp : Kp p h h'
  len : qs.length = t.length
  row : ∀ (i : Nat) (a : Addr) (r : List Int), qs[i]? = some a → t[i]? = some r → h' a = some (.lst (r.map .int))
  nd : ∀ (i j : Nat) (a : Addr), qs[i]? = some a → qs[j]? = some a → i = j
  new : ∀ a ∈ qs, h a = none ∧ p ≠ a
structure MN (p : Addr) (h h' : MH) (q : Addr) (qs : List Addr) (t : Tbl) : Prop where
  rn : RN p h h' qs t
  top : h' q = some (.lst (qs.map .ref))
  nq : h q = none
  pq : p ≠ q
  ni : q ∉ qs
section
variable {p q : Addr} {h h' : MH} {qs : List Addr} {t : Tbl} {n : Nat} {m : Int}
theorem RN.nil (k : Kp p h h') : RN p h h' [] [] := ⟨k, rfl, fun i a r e => by simp at e, fun i j a e => by simp at e, fun a z => nomatch z⟩
theorem RN.live (x : RN p h h' qs t) {b : Addr} (hb : b ∈ qs) : ∃ o, h' b = some o := by
  obtain ⟨i, hi, e⟩ := List.mem_iff_getElem.mp hb
  have e1 : qs[i]? = some b := by rw [List.getElem?_eq_getElem hi, e]
  have e2 : t[i]? = some (t[i]'(by rw [← x.len]; exact hi)) := List.getElem?_eq_getElem _
  exact ⟨_, x.row i b _ e1 e2⟩
theorem RN.out (x : RN p h h' qs t) {b : Addr} (hb : h' b = none) : b ∉ qs := fun z => by
  obtain ⟨o, e⟩ := x.live z
  rw [e] at hb; cases hb
theorem RN.dr {a b c : Int} (x : RN p h h' qs t) (ha : 0 ≤ a) : RN p h (mupd h' p (dr a b c)) qs t :=
  ⟨x.kp.dr ha, x.len, fun i a' r e1 e2 => by rw [mupd_ne (Ne.symm (x.new a' (List.mem_of_getElem? e1)).2)]; exact x.row i a' r e1 e2, x.nd, x.new⟩
theorem RN.old {b : Addr} {o : MO} (x : RN p h h' qs t) (hb : h' b = none) : RN p h (mupd h' b o) qs t := by
  have n3 : p ≠ b := x.kp.1.neq hb
  exact ⟨x.kp.upd (x.kp.none hb n3) n3, x.len, fun i a' r e1 e2 => by rw [mupd_ne (fun z : a' = b => x.out hb (by rw [← z]; exact List.mem_of_getElem? e1))]; exact x.row i a' r e1 e2, x.nd, x.new⟩
theorem RN.add {b : Addr} {r : List Int} (x : RN p h h' qs t) (hb : h' b = none) : RN p h (mupd h' b (.lst (r.map .int))) (qs ++ [b]) (t ++ [r]) := by
  have n3 : p ≠ b := x.kp.1.neq hb
  have n4 := x.kp.none hb n3
  have ob := x.out hb
  refine ⟨x.kp.upd n4 n3, by simp [x.len], fun i a' r' e1 e2 => ?_, fun i j a' e1 e2 => ?_, fun a' ha => ?_⟩
  · by_cases z : i < qs.length
    · rw [List.getElem?_append_left z] at e1
      rw [List.getElem?_append_left (by rw [← x.len]; exact z)] at e2
      rw [mupd_ne (fun z : a' = b => ob (by rw [← z]; exact List.mem_of_getElem? e1))]
      exact x.row i a' r' e1 e2
    · rw [List.getElem?_append_right (by omega)] at e1
      rw [List.getElem?_append_right (by rw [← x.len]; omega)] at e2
      have i1 := (List.getElem?_eq_some_iff.mp e1).1
      rw [List.length_singleton] at i1
      have i0 : i - qs.length = 0 := by omega
      have j0 : i - t.length = 0 := by rw [← x.len]; exact i0
      rw [i0] at e1; rw [j0] at e2
      cases e1; cases e2
      exact mupd_same
  · have key : ∀ (i : Nat), (qs ++ [b])[i]? = some a' → (i < qs.length ∧ qs[i]? = some a') ∨ (i = qs.length ∧ a' = b) := fun i e => by
      by_cases z : i < qs.length
      · rw [List.getElem?_append_left z] at e
        exact .inl ⟨z, e⟩
      · rw [List.getElem?_append_right (by omega)] at e
        have i1 := (List.getElem?_eq_some_iff.mp e).1
        rw [List.length_singleton] at i1
        have i0 : i - qs.length = 0 := by omega
        rw [i0] at e
        cases e
        exact .inr ⟨by omega, rfl⟩
    rcases key i e1 with ⟨_, z1⟩ | ⟨z1, rfl⟩
    · rcases key j e2 with ⟨_, z2⟩ | ⟨_, rfl⟩
      · exact x.nd i j a' z1 z2
      · exact absurd (List.mem_of_getElem? z1) ob
    · rcases key j e2 with ⟨_, z2⟩ | ⟨z2, _⟩
      · exact absurd (List.mem_of_getElem? z2) ob
      · omega
  · rcases List.mem_append.mp ha with z | z
    · exact x.new a' z
    · cases List.mem_singleton.mp z
      exact ⟨n4, n3⟩
theorem RN.mn {b : Addr} (x : RN p h h' qs t) (hb : h' b = none) : MN p h (mupd h' b (.lst (qs.map .ref))) b qs t :=
  ⟨x.old hb, mupd_same, x.kp.none hb (x.kp.1.neq hb), x.kp.1.neq hb, x.out hb⟩
theorem MN.mat (x : MN p h h' q qs t) : Mat h' q qs t := ⟨x.top, x.rn.len, x.rn.row, x.rn.nd, x.ni⟩
theorem MN.dr {a b c : Int} (x : MN p h h' q qs t) (ha : 0 ≤ a) : MN p h (mupd h' p (dr a b c)) q qs t :=
  ⟨x.rn.dr ha, by rw [mupd_ne (Ne.symm x.pq)]; exact x.top, x.nq, x.pq, x.ni⟩
theorem MN.step {h2 : MH} {t2 : Tbl} (x : MN p h h' q qs t) (M : Mat h2 q qs t2) (ho : ∀ b, b ∉ qs → h2 b = h' b) : MN p h h2 q qs t2 := by
  refine ⟨⟨⟨?_, fun b o n e => ?_⟩, M.len, M.row, x.rn.nd, x.rn.new⟩, M.top, x.nq, x.pq, x.ni⟩
  · obtain ⟨a, b, c, e, z⟩ := x.rn.kp.1
    exact ⟨a, b, c, by rw [ho p fun w => (x.rn.new p w).2 rfl]; exact e, z⟩
  · have nb : b ∉ qs := fun w => by rw [(x.rn.new b w).1] at e; cases e
    rw [ho b nb]
    exact x.rn.kp.2 b o n e
theorem MN.old {b : Addr} {o : MO} (x : MN p h h' q qs t) (hb : h' b = none) : MN p h (mupd h' b o) q qs t :=
  ⟨x.rn.old hb, by rw [mupd_ne (fun e : q = b => by rw [← e, x.top] at hb; cases hb)]; exact x.top, x.nq, x.pq, x.ni⟩
theorem MN.put (x : MN p h h' q qs t) (s : Sq n m t) {i : Nat} {b : Addr} (hi : i < n) (e : qs[i]? = some b) (r : List Int) : MN p h (mupd h' b (.lst (r.map .int))) q qs (t.set i r) :=
  x.step (x.mat.put s hi e r) fun c hc => mupd_ne fun z => hc (z ▸ List.mem_of_getElem? e)
end
def rowP (h1 : MH) (r : Addr) : PV := match h1 r with
  | some (.lst xs) => .tup xs
  | _ => .non
theorem row_map {h1 : MH} : ∀ {qs : List Addr} {t : Tbl}, qs.length = t.length → (∀ (i : Nat) (a : Addr) (r : List Int), qs[i]? = some a → t[i]? = some r → h1 a = some (.lst (r.map .int))) →
    qs.map (rowP h1) = t.map fun r => .tup (r.map .int)
  | [], [], _, _ => rfl
  | p :: qs, r :: t, l, hp => by
    have z := row_map (qs := qs) (t := t) (by simpa using l) fun i a r e1 e2 => hp (i + 1) a r (by simpa using e1) (by simpa using e2)
    have e := hp 0 p r rfl rfl
    rw [List.map_cons, List.map_cons, z, rowP, e]
def eT (t : Tbl) : PV := .tup (t.map fun r => .tup (r.map .int))
def wl (i : Nat) : List Str := ([[], ["both"], ["far"], ["both", "far"]] : List (List Str)).getD i []
def words (i : Nat) : PV := .tup ((wl i).map .str)
def spKind : SpM := drawS (fun as v => ∃ (f : Int) (i : Nat), 0 ≤ f ∧ f < 10 ∧ i < 4 ∧ v = .tup [.int f, words i]) (fun as => as = [])
theorem words_in {i : Nat} (hi : i < 4) {a : Str} (ha : PyData.strOk a = true) : cmpOp .in_ (.str a) (words i) h Q = Q (.bl ((wl i).any fun z => z == a)) h := by
  refine o_inS ha ?_
  have : i = 0 ∨ i = 1 ∨ i = 2 ∨ i = 3 := by omega
  rcases this with rfl | rfl | rfl | rfl <;> decide +kernel
theorem ok_far : PyData.strOk "far" = true := by decide +kernel
theorem ok_both : PyData.strOk "both" = true := by decide +kernel
theorem o_mulR {m : Bool} {q1 : Addr} {xs : List PV} {n : Nat} (e1 : h q1 = some (.lst xs)) (hl : xs.length * n ≤ sizeLine) (hn : n < 1000000) (a : allocL m (List.replicate n xs).flatten h Q) : binOp m .mul (.ref q1) (.int n) h Q := by
  refine ⟨xs, by simp [asLst, e1], by omega, by omega, ?_, ?_⟩
  · rw [Int.toNat_natCast]; exact hl
  · rw [Int.toNat_natCast]; exact a
theorem tab_at {n : Nat} {m : Int} {t : Tbl} (s : Sq n m t) {i : Nat} (hi : i < n) : L2.atI (t.map fun r => PV.tup (r.map .int)) i = some (.tup ((t[i]?.getD []).map .int)) := by
  rw [atI_nat (n := i) rfl (by rw [List.length_map, s.1]; exact hi), List.getElem?_map, (s.row hi).1]
  rfl
theorem o_addRR {m : Bool} {q1 q2 : Addr} {xs ys : List PV} (e1 : h q1 = some (.lst xs)) (e2 : h q2 = some (.lst ys)) (hl : xs.length + ys.length ≤ sizeLine) (a : allocL m (xs ++ ys) h Q) : binOp m .add (.ref q1) (.ref q2) h Q :=
  ⟨xs, ys, by simp [asLst, e1], by simp [asLst, e2], hl, a⟩
theorem o_listT {m : Bool} {ys : List PV} : biOp m .list [.tup ys] h Q = allocL m ys h Q :=
  propext ⟨fun ⟨_, e, q⟩ => by cases e; exact q, fun q => ⟨_, rfl, q⟩⟩
theorem o_reprR {m : Bool} {q : Addr} {k w : Nat} {xs : List PV} (e : h q = some (.lst xs)) (f : FP k w (.lst xs)) (hk : k ≤ 60) (hw : w ≤ 1048576) : biOp m .repr [.ref q] h Q = Q (.str (reprP (.lst xs))) h := by
  obtain ⟨d, ed, z⟩ := f
  have er : reprP (.lst xs) = d.shown := by unfold reprP; rw [ed]
  rw [er]
  have e2 : dat h (.ref q) = some d := by
    show deref h 5 q = some d
    unfold deref
    rw [e]
    have := ed (deref h 4)
    simpa only [datV] using this
  show (∃ d, dat h (.ref q) = some d ∧ Shw d ∧ Q (.str d.shown) h) = _
  rw [e2]
  apply propext
  constructor
  · rintro ⟨_, e3, _, q⟩; cases e3; exact q
  · exact fun q => ⟨_, rfl, z.shw' hk hw, q⟩
/-- the least of some numbers -/
theorem fold_least : ∀ (ns : List Int) (n : Int), (ns.foldl min n ≤ n ∧ ∀ x ∈ ns, ns.foldl min n ≤ x) ∧ (ns.foldl min n = n ∨ ns.foldl min n ∈ ns)
  | [], n => ⟨⟨Int.le_refl _, (fun _ z => nomatch z)⟩, .inl rfl⟩
  | x :: ns, n => by
    rw [List.foldl_cons]
    obtain ⟨⟨h1, h2⟩, h3⟩ := fold_least ns (min n x)
    refine ⟨⟨by omega, fun y hy => ?_⟩, ?_⟩
    · rcases List.mem_cons.mp hy with rfl | hy
      · omega
      · exact h2 y hy
    · rcases h3 with h3 | h3
      · rw [h3]
        by_cases z : n ≤ x
        · exact .inl (by omega)
        · exact .inr (by rw [show min n x = x by omega]; exact List.mem_cons_self)
      · exact .inr (List.mem_cons_of_mem _ h3)
/-! ### values of forms, runs of trees -/
def vU (t : Tbl) (r : Int) : PV → Int
  | .tup [.int i, .int j] => at2 t i.toNat j.toNat
  | _ => r
def val (f : Form) (t : Tbl) (r : Int) : Int := (f.map fun p => p.1 * vU t r p.2).sum
theorem val_snoc {f : Form} {t : Tbl} {r : Int} {p : Int × PV} : val (f ++ [p]) t r = val f t r + p.1 * vU t r p.2 := by
  unfold val
  rw [List.map_append, List.sum_append]
  simp
def runA (t : Tbl) (r : Int) : Tr → List Int → PV × List Int
  | .say v, as => (v, as)
  | .ask i s, as => runA t r s (as ++ [i])
  | .iff f a b, as => if val f t r ≤ 0 then runA t r a as else runA t r b as
def spValueOf : SpM := pureS fun as v => ∃ (f : Form) (t : Tbl) (r w m : Int) (n : Nat), as = [eF f, eT t, .int r] ∧ Rws w f ∧ w ≤ n ∧ Sq n m t ∧ n < 100 ∧ v = .int (val f t r)
def spLeafCount : SpM := pureS fun as v => ∃ s : Tr, as = [eTr s] ∧ s.lf ≤ 1000 ∧ s.dp ≤ 1000 ∧ v = .int s.lf
def spWalked : SpM where
  run := fun as h Q _ => ∃ (s : Tr) (t : Tbl) (r w m : Int) (n : Nat), as = [eTr s, eT t, .int r] ∧ Good w s ∧ w ≤ n ∧ Sq n m t ∧ n < 100 ∧ s.dp ≤ 1000 ∧ s.lf ≤ 1000 ∧
    ∀ (h' : MH) (q : Addr) (c : Int), (∀ b o, h b = some o → h' b = some o) → h q = none → h' q = some (.lst ((runA t r s []).2.map .int)) → Q (.tup [.int c, (runA t r s []).1, .ref q]) h'
  mono := fun as h P Q R T k _ ⟨s, t, r, w, m, n, e, z1, z2, z3, z4, z5, z6, z⟩ => ⟨s, t, r, w, m, n, e, z1, z2, z3, z4, z5, z6, fun h' q c x1 x2 x3 => k _ _ (z h' q c x1 x2 x3)⟩
@[simp] theorem st_as : (Str.ofString "ask" = Str.ofString "say") = False := eq_false (by decide +kernel)
@[simp] theorem st_is : (Str.ofString "if" = Str.ofString "say") = False := eq_false (by decide +kernel)
@[simp] theorem st_ia : (Str.ofString "if" = Str.ofString "ask") = False := eq_false (by decide +kernel)
theorem sub_upd {h h' : MH} {q : Addr} {x : MO} (hh : ∀ b o, h b = some o → h' b = some o) (hn : h q = none) : ∀ b o, h b = some o → mupd h' q x b = some o :=
  fun b o e => by rw [mupd_ne (fun z : b = q => by rw [z, hn] at e; cases e)]; exact hh b o e
theorem sub_none {h h' : MH} {q : Addr} (hh : ∀ b o, h b = some o → h' b = some o) (hn : h' q = none) : h q = none := by
  cases z : h q with
  | none => rfl
  | some o => rw [hh q o z] at hn; cases hn
theorem cut3 {a b c : PV} : cutP [a, b, c] (some 2) none = [c] := rfl
theorem cut4 {a b c d : PV} : cutP [a, b, c, d] (some 2) none = [c, d] := rfl
/-! ### a kind: an instance -/
def kdO (f : Int) (i : Nat) : MO := .ins "Kind" [("number", .int f), ("names", words i)]
def KdO (h : MH) (p : Addr) (f : Int) (i : Nat) : Prop := h p = some (kdO f i) ∧ i < 4 ∧ 0 ≤ f ∧ f < 100
def hasB (i : Nat) : Bool := (wl i).any fun z => z == "both"
def hasF (i : Nat) : Bool := (wl i).any fun z => z == "far"
theorem ne_nn : (("number" : Str) == ("names" : Str)) = false := by decide +kernel
theorem ne_nn2 : (("names" : Str) == ("number" : Str)) = false := by decide +kernel
theorem eq_nn : (("number" : Str) == ("number" : Str)) = true := by decide +kernel
theorem eq_nm : (("names" : Str) == ("names" : Str)) = true := by decide +kernel
def spNo : SpM where
  run := fun _ _ _ _ => False
  mono := fun _ _ _ _ _ _ _ _ z => z
def spInit : SpM where
  run := fun as h Q _ => ∃ (p : Addr) (f : Int) (i : Nat), as = [.ref p, .int f, words i] ∧ i < 4 ∧ h p = some (.ins "Kind" []) ∧ Q .non (mupd h p (kdO f i))
  mono := fun as h P Q R T k _ ⟨p, f, i, e, z1, z2, q⟩ => ⟨p, f, i, e, z1, z2, k _ _ q⟩
def spFac : SpM where
  run := fun as h Q _ => ∃ (p : Addr) (f : Int) (i : Nat), as = [.ref p] ∧ h p = some (kdO f i) ∧ Q (.int f) h
  mono := fun as h P Q R T k _ ⟨p, f, i, e, z1, q⟩ => ⟨p, f, i, e, z1, k _ _ q⟩
def spWrd : SpM where
  run := fun as h Q _ => ∃ (p : Addr) (f : Int) (i : Nat), as = [.ref p] ∧ h p = some (kdO f i) ∧ Q (words i) h
  mono := fun as h P Q R T k _ ⟨p, f, i, e, z1, q⟩ => ⟨p, f, i, e, z1, k _ _ q⟩
def spKindOf : SpM where
  run := fun as h Q _ => ∃ (f : Int) (i : Nat), as = [.int f, words i] ∧ i < 4 ∧ ∀ p, h p = none → Q (.ref p) (mupd h p (kdO f i))
  mono := fun as h P Q R T k _ ⟨f, i, e, z1, q⟩ => ⟨f, i, e, z1, fun p hp => k _ _ (q p hp)⟩
/-! ### unknowns, facts, names as values -/
def encU : Sv.U → PV
  | none => .str "r"
  | some (i, j) => .tup [.int (i : Nat), .int (j : Nat)]
def eRU (p : Int × Sv.U) : PV := .tup [.int p.1, encU p.2]
def eFU (f : Sv.FU) : PV := .tup (f.map eRU)
def sgnS (b : Bool) : PV := .str (if b then "<" else "<=")
def eFc (q : Sv.Fc) : PV := .tup [sgnS q.1, eFU q.2]
def eNm : Sv.Nm → PV
  | .least x y => .tup [.str "least", .int (x : Nat), .int (y : Nat)]
  | .radius => .tup [.str "radius"]
  | .way x y z => .tup [.str "way", .int (x : Nat), .int (y : Nat), .int (z : Nat)]
  | .fact i => .tup [.str "fact", .int (i : Nat)]
def eNamed (p : Sv.Nm × Sv.Fc) : PV := .tup [eNm p.1, eFc p.2]
def unkL (b : Bool) (n : Nat) : List Sv.U := (Sv.pairsK b n).map some ++ [none]
def eRw (p : List Int × Int) : PV := .tup [.lst (p.1.map .int), .int p.2]
def FSm (n : Nat) (f : Sv.FU) : Prop := f.length ≤ 1000 ∧ Sv.FOk n f ∧ ∀ p ∈ f, p.1.natAbs ≤ 2 ^ 40
def FsOk (n : Nat) (fs : List Sv.Fc) : Prop := fs.length ≤ 200 ∧ ∀ q ∈ fs, FSm n q.2
def enc3K (p : Nat × Nat × Nat) : PV := .tup [.int (p.1 : Nat), .int (p.2.1 : Nat), .int (p.2.2 : Nat)]
def tblL (b : Bool) (n : Nat) (x : Nat → Int) : Tbl := (List.range n).map fun i => (List.range n).map fun j => Sv.tblU b n x i j
def eFound (b : Bool) (n : Nat) (x : Nat → Int) : PV := .tup [eT (tblL b n x), .int (x (Sv.pairsK b n).length)]
def optP : Option Nat → PV
  | none => .non
  | some r => .int (r : Nat)
/-! ### promises about kinds -/
/-- a call with a kind and a number of places -/
def kdS (P : Int → Nat → Nat → List PV → PV → Prop) : SpM where
  run := fun as h Q _ => ∃ (p : Addr) (f : Int) (i n : Nat) (bs : List PV) (v : PV), as = .ref p :: .int (n : Nat) :: bs ∧ KdO h p f i ∧ 2 ≤ n ∧ n ≤ 6 ∧ P f i n bs v ∧ Q v h
  mono := fun as h P Q R T k _ ⟨p, f, i, n, bs, v, e, z1, z2, z3, z4, q⟩ => ⟨p, f, i, n, bs, v, e, z1, z2, z3, z4, k _ _ q⟩
def spWaysK : SpM := kdS fun f i n bs v => bs = [] ∧ v = .lst ((Sv.waysK f (hasB i) n).map enc3K)
def spRulesK : SpM := kdS fun f i n bs v => bs = [] ∧ v = .tup ((Sv.rulesK f (hasB i) (hasF i) n).map eNamed)
def spUnkK : SpM := kdS fun f i n bs v => bs = [] ∧ v = .lst ((unkL (hasB i) n).map encU)
def normU (b : Bool) : Sv.U → Sv.U
  | none => none
  | some p => some (Sv.normK b p)
def spSame : SpM where
  run := fun as h Q _ => ∃ (p : Addr) (f : Int) (i : Nat) (u : Sv.U), as = [.ref p, encU u] ∧ KdO h p f i ∧ Q (encU (normU (hasB i) u)) h
  mono := fun as h P Q R T k _ ⟨p, f, i, u, e, z1, q⟩ => ⟨p, f, i, u, e, z1, k _ _ q⟩
def spVector : SpM := kdS fun f i n bs v => ∃ g : Sv.FU, bs = [eFU g] ∧ FSm n g ∧ v = .lst ((Sv.vecU (hasB i) n g).map .int)
def spTableOf : SpM := kdS fun f i n bs v => ∃ x : Nat → Int, bs = [.lst ((List.range (Sv.NU (hasB i) n)).map fun k => .int (x k))] ∧ v = eFound (hasB i) n x
def spNamed : SpM := kdS fun f i n bs v => ∃ fs : List Sv.Fc, bs = [.tup (fs.map eFc)] ∧ FsOk n fs ∧ v = .lst ((Sv.namedK f (hasB i) (hasF i) n fs).map eNamed)
def spPlain : SpM := pureS fun as v => ∃ p : Sv.Nm × Sv.Fc, as = [eNm p.1, eFc p.2] ∧ v = .bl (Sv.plainK p)
def spSystem : SpM := kdS fun f i n bs v => ∃ fs : List Sv.Fc, bs = [.tup (fs.map eFc)] ∧ FsOk n fs ∧ v = .tup [.lst ((Sv.someK f (hasB i) (hasF i) n fs).map fun p : Sv.Nm × Sv.Fc => eNm p.1), .lst ((Sv.rowsK f (hasB i) (hasF i) n fs).map eRw)]
/-! ### the tableau -/
def tbO (qb qf qe : Addr) (T : Sv.Tab) : MO := .ins "Tableau" [("basic", .ref qb), ("free", .ref qf), ("entries", .ref qe), ("below", .int T.below)]
def natL (l : List Nat) : List PV := l.map fun v : Nat => .int (v : Nat)
structure TabAt (h : MH) (p qb qf qe : Addr) (qs : List Addr) (T : Sv.Tab) : Prop where
  ob : h p = some (tbO qb qf qe T)
  bs : h qb = some (.lst (natL T.basic))
  fr : h qf = some (.lst (natL T.free))
  mat : Mat h qe qs T.ent
  bf : qb ≠ qf
  be : qb ≠ qe
  fe : qf ≠ qe
  nb : qb ∉ qs
  nf : qf ∉ qs
def BIG : Nat := 2 ^ 4000
structure Small (m N : Nat) (T : Sv.Tab) : Prop where
  bl : T.below.natAbs < BIG
  en : ∀ r k, r < m → k < N + 1 → (T.E r k).natAbs < BIG
def Fr3 (p qb qf : Addr) (h h' : MH) : Prop := ∀ b o, b ≠ p → b ≠ qb → b ≠ qf → h b = some o → h' b = some o
def spTInit : SpM where
  run := fun as h Q _ => ∃ (p : Addr) (N : Nat) (rows : List (List Int × Int)), as = [.ref p, .lst (rows.map eRw), .int (N : Nat)] ∧ h p = some (.ins "Tableau" []) ∧ rows.length ≤ 1000 ∧ N ≤ 1000 ∧ (∀ r ∈ rows, r.1.length ≤ 1000) ∧
    ∀ h' qb qf qe qs, TabAt h' p qb qf qe qs (Sv.Tab.init rows N) → (∀ b o, b ≠ p → h b = some o → h' b = some o) → h qb = none → h qf = none → Q .non h'
  mono := fun as h P Q R T k _ ⟨p, N, rows, e, z1, z2, z3, z4, q⟩ => ⟨p, N, rows, e, z1, z2, z3, z4, fun h' qb qf qe qs x1 x2 x3 x4 => k _ _ (q h' qb qf qe qs x1 x2 x3 x4)⟩
def BadV (m : Nat) (T : Sv.Tab) (v : PV) : Prop := (v = .non ∧ ∀ r, r < m → 0 ≤ T.E r 0) ∨ ∃ r : Nat, v = .int (r : Nat) ∧ Sv.IsBad m T r
def GroV (N : Nat) (T : Sv.Tab) (r : Nat) (v : PV) : Prop := (v = .non ∧ ∀ c, c < N → T.E r (c + 1) ≤ 0) ∨ ∃ c : Nat, v = .int (c : Nat) ∧ Sv.IsGrow N T r c
def spTBad : SpM where
  run := fun as h Q _ => ∃ (p qb qf qe : Addr) (qs : List Addr) (T : Sv.Tab) (N m : Nat), as = [.ref p] ∧ TabAt h p qb qf qe qs T ∧ Sv.Shp N m T ∧ N ≤ 1000 ∧ m ≤ 1000 ∧ ∀ v, BadV m T v → Q v h
  mono := fun as h P Q R T k _ ⟨p, qb, qf, qe, qs, t, N, m, e, z1, z2, z3, z4, q⟩ => ⟨p, qb, qf, qe, qs, t, N, m, e, z1, z2, z3, z4, fun v x => k _ _ (q v x)⟩
def spTGrow : SpM where
  run := fun as h Q _ => ∃ (p qb qf qe : Addr) (qs : List Addr) (T : Sv.Tab) (N m r : Nat), as = [.ref p, .int (T.b r : Nat)] ∧ TabAt h p qb qf qe qs T ∧ Sv.Shp N m T ∧ N ≤ 1000 ∧ m ≤ 1000 ∧ r < m ∧ ∀ v, GroV N T r v → Q v h
  mono := fun as h P Q R T k _ ⟨p, qb, qf, qe, qs, t, N, m, r, e, z1, z2, z3, z4, z5, q⟩ => ⟨p, qb, qf, qe, qs, t, N, m, r, e, z1, z2, z3, z4, z5, fun v x => k _ _ (q v x)⟩
def spTValue : SpM where
  run := fun as h Q _ => ∃ (p qb qf qe : Addr) (qs : List Addr) (T : Sv.Tab) (N m v : Nat), as = [.ref p, .int (v : Nat)] ∧ TabAt h p qb qf qe qs T ∧ Sv.Shp N m T ∧ N ≤ 1000 ∧ m ≤ 1000 ∧ Q (.int (T.value v)) h
  mono := fun as h P Q R T k _ ⟨p, qb, qf, qe, qs, t, N, m, v, e, z1, z2, z3, z4, q⟩ => ⟨p, qb, qf, qe, qs, t, N, m, v, e, z1, z2, z3, z4, k _ _ q⟩
def spTPivot : SpM where
  run := fun as h Q _ => ∃ (p qb qf qe : Addr) (qs : List Addr) (T : Sv.Tab) (N m r c : Nat), as = [.ref p, .int (r : Nat), .int (c : Nat)] ∧ TabAt h p qb qf qe qs T ∧ Sv.Shp N m T ∧ N ≤ 1000 ∧ m ≤ 1000 ∧ r < m ∧ c < N ∧ 0 < T.below ∧ Small m N T ∧
    ∀ h' qe' qs', TabAt h' p qb qf qe' qs' (T.pivot r c) → Fr3 p qb qf h h' → Q .non h'
  mono := fun as h P Q R T k _ ⟨p, qb, qf, qe, qs, t, N, m, r, c, e, z1, z2, z3, z4, z5, z6, z7, z8, q⟩ => ⟨p, qb, qf, qe, qs, t, N, m, r, c, e, z1, z2, z3, z4, z5, z6, z7, z8, fun h' a b x y => k _ _ (q h' a b x y)⟩
def spTSettle : SpM where
  run := fun as h Q _ => ∃ (p qb qf qe : Addr) (qs : List Addr) (T0 : Sv.Tab) (W : Nat → Sv.Row) (N m : Nat) (s0 : Int), as = [.ref p] ∧ TabAt h p qb qf qe qs T0 ∧ Sv.Ok W N m T0 s0 ∧ N ≤ 1000 ∧ m ≤ 1000 ∧
    (∀ i T s, Sv.Ch N m T0 i T → Sv.Ok W N m T s → Small m N T) ∧
    ∀ h' qe' qs' T e i, Sv.Ch N m T0 i T → Sv.Ends N m T e → TabAt h' p qb qf qe' qs' T → Fr3 p qb qf h h' → Q (optP e) h'
  mono := fun as h P Q R T k _ ⟨p, qb, qf, qe, qs, t, W, N, m, s, e, z1, z2, z3, z4, z5, q⟩ => ⟨p, qb, qf, qe, qs, t, W, N, m, s, e, z1, z2, z3, z4, z5, fun h' a b c d i x1 x2 x3 x4 => k _ _ (q h' a b c d i x1 x2 x3 x4)⟩
def spSettled : SpM where
  run := fun as h Q _ => ∃ (p : Addr) (f : Int) (i n : Nat) (fs : List Sv.Fc), as = [.ref p, .int (n : Nat), .tup (fs.map eFc)] ∧ KdO h p f i ∧ 2 ≤ n ∧ n ≤ 6 ∧ FsOk n fs ∧
    ∀ h' q qb qf qe qs, TabAt h' q qb qf qe qs (Sv.endT f (hasB i) (hasF i) n fs).1 → (∀ b o, h b = some o → h' b = some o) → Q (.tup [.lst ((Sv.someK f (hasB i) (hasF i) n fs).map fun p : Sv.Nm × Sv.Fc => eNm p.1), .ref q, optP (Sv.endT f (hasB i) (hasF i) n fs).2]) h'
  mono := fun as h P Q R T k _ ⟨p, f, i, n, fs, e, z1, z2, z3, z4, q⟩ => ⟨p, f, i, n, fs, e, z1, z2, z3, z4, fun h' a b c d g x1 x2 => k _ _ (q h' a b c d g x1 x2)⟩
noncomputable def eOpen (f : Int) (i n : Nat) (fs : List Sv.Fc) : PV := match Sv.openK f (hasB i) (hasF i) n fs with
  | none => .non
  | some x => eFound (hasB i) n x
def spOpen : SpM := kdS fun f i n bs v => ∃ fs : List Sv.Fc, bs = [.tup (fs.map eFc)] ∧ FsOk n fs ∧ v = eOpen f i n fs
/-! ### forms of the law's as forms of the solver's -/
def dU : PV → Sv.U
  | .tup [.int i, .int j] => some (i.toNat, j.toNat)
  | _ => none
def toFU (f : Form) : Sv.FU := f.map fun p => (p.1, dU p.2)
def fcOf (p : Form × Bool) : Sv.Fc := (!p.2, toFU (if p.2 then p.1 else negF p.1))
def leafFs (l : Leaf) : List Sv.Fc := l.1.map fcOf
theorem unk_enc {w : Int} {x : PV} (u : Unk w x) : encU (dU x) = x := by
  rcases u with rfl | ⟨i, j, rfl, h1, _, h3, _, _⟩
  · rfl
  · show PV.tup [.int (i.toNat : Nat), .int (j.toNat : Nat)] = _
    rw [Int.toNat_of_nonneg h1, Int.toNat_of_nonneg h3]
theorem unk_ok {w : Int} {n : Nat} {x : PV} (u : Unk w x) (hw : w ≤ n) : Sv.UOk n (dU x) := by
  rcases u with rfl | ⟨i, j, rfl, h1, h2, h3, h4, h5⟩
  · trivial
  · exact ⟨by omega, by omega, fun e => h5 (by omega)⟩
theorem val_u {f : Form} {t : Tbl} {r : Int} : val f t r = Sv.valU (toFU f) (at2 t) r := by
  unfold val Sv.valU toFU
  rw [List.map_map]
  refine congrArg List.sum (List.map_congr_left fun p _ => ?_)
  show p.1 * vU t r p.2 = p.1 * (match dU p.2 with
    | none => r
    | some (i, j) => at2 t i j)
  congr 1
  unfold vU dU
  split <;> rfl
theorem val_neg {f : Form} {t : Tbl} {r : Int} : val (negF f) t r = - val f t r := by
  unfold val negF
  induction f with
  | nil => rfl
  | cons p f ih =>
    simp only [List.map_cons, List.sum_cons] at ih ⊢
    rw [ih, Int.sub_mul, Int.zero_mul]; omega
theorem eF_u {w : Int} {f : Form} (h : ∀ p ∈ f, Unk w p.2) : eF f = eFU (toFU f) := by
  unfold eF eFU toFU
  rw [List.map_map]
  congr 1
  refine List.map_congr_left fun p hp => ?_
  show PV.tup [.int p.1, p.2] = .tup [.int p.1, encU (dU p.2)]
  rw [unk_enc (h p hp)]
theorem neg_unk {w : Int} {f : Form} (h : ∀ p ∈ f, Unk w p.2) : ∀ p ∈ negF f, Unk w p.2 := by
  intro p hp
  obtain ⟨q, hq, rfl⟩ := List.mem_map.mp hp
  exact h q hq
theorem eFact_u {w : Int} {p : Form × Bool} (h : ∀ q ∈ p.1, Unk w q.2) : eFact p = eFc (fcOf p) := by
  obtain ⟨f, b⟩ := p
  cases b with
  | true =>
    show PV.tup [.str "<=", eF f] = .tup [.str "<=", eFU (toFU f)]
    rw [eF_u h]
  | false =>
    show PV.tup [.str "<", eF (negF f)] = .tup [.str "<", eFU (toFU (negF f))]
    rw [eF_u (neg_unk h)]
theorem rws_fsm {w : Int} {n : Nat} {f : Form} (h : Rws w f) (hw : w ≤ n) : FSm n (toFU f) ∧ FSm n (toFU (negF f)) := by
  obtain ⟨l, h⟩ := h
  have key : ∀ g : Form, g.length ≤ 4 → (∀ p ∈ g, -100 < p.1 ∧ p.1 < 100 ∧ Unk w p.2) → FSm n (toFU g) := fun g gl gh => by
    refine ⟨by unfold toFU; rw [List.length_map]; omega, fun p hp => ?_, fun p hp => ?_⟩
    · obtain ⟨q, hq, rfl⟩ := List.mem_map.mp hp
      exact unk_ok (gh q hq).2.2 hw
    · obtain ⟨q, hq, rfl⟩ := List.mem_map.mp hp
      have a := (gh q hq).1
      have b := (gh q hq).2.1
      have : (100 : Nat) ≤ 2 ^ 40 := by decide
      show q.1.natAbs ≤ 2 ^ 40
      omega
  refine ⟨key f l h, key (negF f) (by unfold negF; rw [List.length_map]; exact l) fun p hp => ?_⟩
  obtain ⟨q, hq, rfl⟩ := List.mem_map.mp hp
  obtain ⟨a, b, c⟩ := h q hq
  exact ⟨by show -100 < 0 - q.1; omega, by show 0 - q.1 < 100; omega, c⟩
/-- a test's outcome -/
def Hold (t : Tbl) (r : Int) (p : Form × Bool) : Prop := if p.2 then val p.1 t r ≤ 0 else 0 < val p.1 t r
theorem met_hold {t : Tbl} {r : Int} {p : Form × Bool} : Sv.MetU (fcOf p) (at2 t) r ↔ Hold t r p := by
  obtain ⟨f, b⟩ := p
  cases b with
  | true =>
    show (if (!true) = true then Sv.valU (toFU f) (at2 t) r < 0 else Sv.valU (toFU f) (at2 t) r ≤ 0) ↔ val f t r ≤ 0
    rw [val_u]; simp
  | false =>
    show (if (!false) = true then Sv.valU (toFU (negF f)) (at2 t) r < 0 else Sv.valU (toFU (negF f)) (at2 t) r ≤ 0) ↔ 0 < val f t r
    rw [← val_u, val_neg]; simp
/-! ### walks and leaves -/
theorem lv_pre : ∀ (s : Tr) (ts as) (l : Leaf), l ∈ lv s ts as → ∀ p ∈ ts, p ∈ l.1
  | .say v, ts, as, l, h, p, hp => by cases List.mem_singleton.mp h; exact hp
  | .ask i s, ts, as, l, h, p, hp => lv_pre s ts _ l h p hp
  | .iff f a b, ts, as, l, h, p, hp => by
    rcases List.mem_append.mp h with h | h
    · exact lv_pre a _ _ l h p (List.mem_append_left _ hp)
    · exact lv_pre b _ _ l h p (List.mem_append_left _ hp)
/-- a table that meets a leaf's tests leads there -/
theorem leaf_walk {t : Tbl} {r : Int} : ∀ (s : Tr) (ts as) (l : Leaf), l ∈ lv s ts as → (∀ p ∈ l.1, Hold t r p) → runA t r s as = (l.2.1, l.2.2)
  | .say v, ts, as, l, h, _ => by cases List.mem_singleton.mp h; rfl
  | .ask i s, ts, as, l, h, hh => leaf_walk s ts _ l h hh
  | .iff f a b, ts, as, l, h, hh => by
    rcases List.mem_append.mp h with h | h
    · have := hh (f, true) (lv_pre a _ _ l h _ (by simp))
      have this : val f t r ≤ 0 := this
      show (if val f t r ≤ 0 then runA t r a as else runA t r b as) = _
      rw [if_pos this]
      exact leaf_walk a _ _ l h hh
    · have := hh (f, false) (lv_pre b _ _ l h _ (by simp))
      have this : 0 < val f t r := this
      show (if val f t r ≤ 0 then runA t r a as else runA t r b as) = _
      rw [if_neg (by omega)]
      exact leaf_walk b _ _ l h hh
/-- each table leads to a leaf whose tests it meets -/
theorem walk_leaf {t : Tbl} {r : Int} : ∀ (s : Tr) (ts as), (∀ p ∈ ts, Hold t r p) → ∃ l ∈ lv s ts as, runA t r s as = (l.2.1, l.2.2) ∧ ∀ p ∈ l.1, Hold t r p
  | .say v, ts, as, h => ⟨(ts, v, as), List.mem_singleton.mpr rfl, rfl, h⟩
  | .ask i s, ts, as, h => walk_leaf s ts (as ++ [i]) h
  | .iff f a b, ts, as, h => by
    by_cases c : val f t r ≤ 0
    · obtain ⟨l, hl, e, hm⟩ := walk_leaf a (ts ++ [(f, true)]) as fun p hp => by
        rcases List.mem_append.mp hp with hp | hp
        · exact h p hp
        · cases List.mem_singleton.mp hp; exact c
      refine ⟨l, List.mem_append_left _ hl, ?_, hm⟩
      show (if val f t r ≤ 0 then runA t r a as else runA t r b as) = _
      rw [if_pos c, e]
    · obtain ⟨l, hl, e, hm⟩ := walk_leaf b (ts ++ [(f, false)]) as fun p hp => by
        rcases List.mem_append.mp hp with hp | hp
        · exact h p hp
        · cases List.mem_singleton.mp hp
          show 0 < val f t r
          omega
      refine ⟨l, List.mem_append_right _ hl, ?_, hm⟩
      show (if val f t r ≤ 0 then runA t r a as else runA t r b as) = _
      rw [if_neg c, e]
theorem lv_goodF {w : Int} : ∀ (s : Tr) (ts as) (l : Leaf), Good w s → (∀ p ∈ ts, Rws w p.1) → l ∈ lv s ts as → ∀ p ∈ l.1, Rws w p.1
  | .say v, ts, as, l, _, h, hl => by cases List.mem_singleton.mp hl; exact h
  | .ask i s, ts, as, l, g, h, hl => lv_goodF s ts _ l g.2.2 h hl
  | .iff f a b, ts, as, l, g, h, hl => by
    have h2 : ∀ c, ∀ p ∈ ts ++ [(f, c)], Rws w p.1 := fun c p hp => by
      rcases List.mem_append.mp hp with hp | hp
      · exact h p hp
      · cases List.mem_singleton.mp hp; exact g.1
    rcases List.mem_append.mp hl with hl | hl
    · exact lv_goodF a _ _ l g.2.1 (h2 true) hl
    · exact lv_goodF b _ _ l g.2.2 (h2 false) hl
/-- the facts of a leaf are fit for the solver -/
theorem leaf_ok {w : Int} {n : Nat} {s : Tr} {l : Leaf} (g : Good w s) (hw : w ≤ n) (hd : s.dp ≤ 150) (hl : l ∈ lv s [] []) : FsOk n (leafFs l) := by
  refine ⟨?_, fun q hq => ?_⟩
  · unfold leafFs
    rw [List.length_map]
    have := (lv_tests s [] [] l hl).1
    simp at this
    omega
  · obtain ⟨p, hp, rfl⟩ := List.mem_map.mp hq
    have := rws_fsm (lv_goodF s [] [] l g (fun _ z => nomatch z) hl p hp) hw
    unfold fcOf
    split
    · exact this.1
    · exact this.2
theorem leaf_enc {w : Int} {s : Tr} {l : Leaf} (g : Good w s) (hl : l ∈ lv s [] []) : l.1.map eFact = (leafFs l).map eFc := by
  unfold leafFs
  rw [List.map_map]
  refine List.map_congr_left fun p hp => ?_
  exact eFact_u (w := w) fun q hq => ((lv_goodF s [] [] l g (fun _ z => nomatch z) hl p hp).2 q hq).2.2
/-! ### tables of lists, of kinds -/
def KTb (f : Int) (i n : Nat) (t : Tbl) : Prop := Sv.KT f (hasB i) (hasF i) n (at2 t)
theorem sat_leaf {f : Int} {i n : Nat} {t : Tbl} {r : Int} {l : Leaf} (k : KTb f i n t) (h0 : 0 ≤ r) (h : ∀ p ∈ l.1, Hold t r p) : Sv.Sat f (hasB i) (hasF i) n (leafFs l) (at2 t) r := by
  refine ⟨k, h0, fun q hq => ?_⟩
  obtain ⟨p, hp, rfl⟩ := List.mem_map.mp hq
  exact met_hold.mpr (h p hp)
theorem at_tblL {b : Bool} {n : Nat} {x : Nat → Int} {i j : Nat} (hi : i < n) (hj : j < n) : at2 (tblL b n x) i j = Sv.tblU b n x i j := by
  unfold at2 tblL
  rw [List.getElem?_map, List.getElem?_range hi]
  show ((List.range n).map fun j => Sv.tblU b n x i j)[j]?.getD 0 = _
  rw [List.getElem?_map, List.getElem?_range hj]; rfl
theorem FsOk.fok {n : Nat} {fs : List Sv.Fc} (h : FsOk n fs) : ∀ q ∈ fs, Sv.FOk n q.2 := fun q hq => (h.2 q hq).2.1
/-- the value at two tables that say the same at these places -/
theorem valU_congr {n : Nat} {f : Sv.FU} {T T' : Nat → Nat → Int} {r : Int} (h : Sv.FOk n f) (e : ∀ i j, i < n → j < n → T i j = T' i j) : Sv.valU f T r = Sv.valU f T' r := by
  unfold Sv.valU
  refine congrArg List.sum (List.map_congr_left fun p hp => ?_)
  have := h p hp
  obtain ⟨c, u⟩ := p
  cases u with
  | none => rfl
  | some q =>
    obtain ⟨i, j⟩ := q
    show c * T i j = c * T' i j
    rw [e i j this.1 this.2.1]
theorem kt_congr {f : Int} {b fr : Bool} {n : Nat} {T T' : Nat → Nat → Int} (e : ∀ i j, i < n → j < n → T i j = T' i j) (k : Sv.KT f b fr n T) : Sv.KT f b fr n T' := by
  refine ⟨fun i j hi hj => ?_, fun i hi => ?_, fun hb i j hi hj => ?_, fun hf i j hi hj ne => ?_, fun h0 x y z hx hy hz a c d => ?_⟩
  · rw [← e i j hi hj]; exact k.nn i j hi hj
  · rw [← e i i hi hi]; exact k.dg i hi
  · rw [← e i j hi hj, ← e j i hj hi]; exact k.sy hb i j hi hj
  · rw [← e i j hi hj]; exact k.fa hf i j hi hj ne
  · rw [← e x z hx hz, ← e x y hx hy, ← e y z hy hz]; exact k.tr h0 x y z hx hy hz a c d
theorem sat_congr {f : Int} {b fr : Bool} {n : Nat} {fs : List Sv.Fc} {T T' : Nat → Nat → Int} {r : Int} (hf : ∀ q ∈ fs, Sv.FOk n q.2) (e : ∀ i j, i < n → j < n → T i j = T' i j) (k : Sv.Sat f b fr n fs T r) : Sv.Sat f b fr n fs T' r := by
  refine ⟨kt_congr e k.1, k.2.1, fun q hq => ?_⟩
  have := k.2.2 q hq
  unfold Sv.MetU at this ⊢
  rw [← valU_congr (hf q hq) e]
  exact this
/-- what open_at finds -/
theorem found_sat {f : Int} {i n : Nat} {fs : List Sv.Fc} {x : Nat → Int} (hf : FsOk n fs) (h : Sv.openK f (hasB i) (hasF i) n fs = some x) : Sv.Sat f (hasB i) (hasF i) n fs (at2 (tblL (hasB i) n x)) (x (Sv.pairsK (hasB i) n).length) :=
  sat_congr hf.fok (fun a b ha hb => (at_tblL ha hb).symm) (Sv.open_some hf.fok h)
/-- all places one apart -/
theorem one_kt {f : Int} {b fr : Bool} {n : Nat} (h0 : 0 ≤ f) : Sv.KT f b fr n fun i j => if i = j then 0 else 1 := by
  refine ⟨fun i j _ _ => ?_, fun i _ => if_pos rfl, fun _ i j _ _ => ?_, fun _ i j _ _ ne => ?_, fun hf x y z _ _ _ a c d => ?_⟩
  · split <;> omega
  · by_cases e : i = j
    · rw [if_pos e, if_pos e.symm]
    · rw [if_neg e, if_neg (Ne.symm e)]
  · rw [if_neg ne]; omega
  · rw [if_neg a, if_neg c, if_neg d]
    have : 1 * (1 + 1) ≤ f * (1 + 1 : Int) := Int.mul_le_mul_of_nonneg_right (by omega) (by omega)
    omega
/-- as a table of lists -/
def oneT (n : Nat) : Tbl := (List.range n).map fun i => (List.range n).map fun j => if i = j then 0 else 1
theorem at_oneT {n i j : Nat} (hi : i < n) (hj : j < n) : at2 (oneT n) i j = if i = j then 0 else 1 := by
  unfold at2 oneT
  rw [List.getElem?_map, List.getElem?_range hi]
  show ((List.range n).map fun j => if i = j then (0 : Int) else 1)[j]?.getD 0 = _
  rw [List.getElem?_map, List.getElem?_range hj]; rfl
theorem one_ktb {f : Int} {i n : Nat} (h0 : 0 ≤ f) : KTb f i n (oneT n) := kt_congr (fun a b ha hb => (at_oneT ha hb).symm) (one_kt h0)
/-! ### the leaves that are reached -/
noncomputable def reachL (f : Int) (i n : Nat) (s : Tr) : List Nat := (List.range s.lf).filter fun j => (Sv.openK f (hasB i) (hasF i) n (leafFs ((lv s [] [])[j]?.getD ([], .non, [])))).isSome
/-- a leaf whose facts are met is reached -/
theorem reach_of {f : Int} {i n : Nat} {s : Tr} {w : Int} {t : Tbl} {r : Int} {l : Leaf} (g : Good w s) (hw : w ≤ n) (hd : s.dp ≤ 150) (k : KTb f i n t) (h0 : 0 ≤ r) (hl : l ∈ lv s [] []) (hh : ∀ p ∈ l.1, Hold t r p) :
    ∃ j ∈ reachL f i n s, (lv s [] [])[j]? = some l := by
  obtain ⟨j, hj, e⟩ := List.mem_iff_getElem.mp hl
  have e2 : (lv s [] [])[j]? = some l := by rw [List.getElem?_eq_getElem hj, e]
  refine ⟨j, List.mem_filter.mpr ⟨List.mem_range.mpr (by rw [← lv_len s [] []]; exact hj), ?_⟩, e2⟩
  rw [e2]
  exact (Sv.open_iff (leaf_ok g hw hd hl).fok).mpr ⟨_, _, sat_leaf k h0 hh⟩
theorem reach_walk {f : Int} {i n : Nat} {s : Tr} {w : Int} {t : Tbl} {r : Int} (g : Good w s) (hw : w ≤ n) (hd : s.dp ≤ 150) (k : KTb f i n t) (h0 : 0 ≤ r) :
    ∃ j ∈ reachL f i n s, ∃ l, (lv s [] [])[j]? = some l ∧ runA t r s [] = (l.2.1, l.2.2) := by
  obtain ⟨l, hl, e, hh⟩ := walk_leaf (t := t) (r := r) s [] [] fun _ z => nomatch z
  obtain ⟨j, hj, ej⟩ := reach_of g hw hd k h0 hl hh
  exact ⟨j, hj, l, ej, e⟩
theorem reach_ne {f : Int} {i n : Nat} {s : Tr} {w : Int} (g : Good w s) (hw : w ≤ n) (hd : s.dp ≤ 150) (hf : 0 ≤ f) : reachL f i n s ≠ [] := fun e => by
  obtain ⟨j, hj, _⟩ := reach_walk (r := 0) (t := oneT n) (f := f) (i := i) g hw hd (one_ktb hf) (Int.le_refl 0)
  rw [e] at hj
  cases hj
/-- a table at a reached leaf -/
theorem reach_found {f : Int} {i n : Nat} {s : Tr} {w : Int} {l : Leaf} {x : Nat → Int} (g : Good w s) (hw : w ≤ n) (hd : s.dp ≤ 150) (hl : l ∈ lv s [] []) (h : Sv.openK f (hasB i) (hasF i) n (leafFs l) = some x) :
    runA (tblL (hasB i) n x) (x (Sv.pairsK (hasB i) n).length) s [] = (l.2.1, l.2.2) := by
  have st := found_sat (leaf_ok g hw hd hl) h
  exact leaf_walk s [] [] l hl fun p hp => met_hold.mp (st.2.2 _ (List.mem_map.mpr ⟨p, hp, rfl⟩))
/-! ### the most, the fewest asked items -/
def nasked (s : Tr) (j : Nat) : Int := (((lv s [] [])[j]?.getD ([], .non, [])).2.2.length : Nat)
def spReached : SpM := kdS fun f i n bs v => ∃ (s : Tr) (w : Int), bs = [eTr s] ∧ Good w s ∧ w ≤ n ∧ s.dp ≤ 100 ∧ s.lf ≤ 500 ∧ v = .tup ((reachL f i n s).map fun j : Nat => .int (j : Nat))
def spNumbers : SpM := kdS fun f i n bs v => ∃ (s : Tr) (w : Int), bs = [eTr s] ∧ Good w s ∧ w ≤ n ∧ s.dp ≤ 100 ∧ s.lf ≤ 500 ∧ v = .lst (((reachL f i n s).map (nasked s)).map .int)
def foldI (op : Int → Int → Int) : List Int → Int
  | [] => 0
  | x :: xs => xs.foldl op x
def spMost : SpM := kdS fun f i n bs v => ∃ (s : Tr) (w : Int), bs = [eTr s] ∧ Good w s ∧ w ≤ n ∧ s.dp ≤ 100 ∧ s.lf ≤ 500 ∧ v = .int (foldI max ((reachL f i n s).map (nasked s)))
def spFewest : SpM := kdS fun f i n bs v => ∃ (s : Tr) (w : Int), bs = [eTr s] ∧ Good w s ∧ w ≤ n ∧ s.dp ≤ 100 ∧ s.lf ≤ 500 ∧ v = .int (foldI min ((reachL f i n s).map (nasked s)))
def spShown : SpM where
  run := fun as h Q _ => ∃ (p : Addr) (f : Int) (i n : Nat) (s : Tr) (w : Int) (ls : List Leaf) (m : Int), as = [.ref p, .int (n : Nat), eTr s, .lst (ls.map eLeaf), .int m] ∧ KdO h p f i ∧ 2 ≤ n ∧ n ≤ 6 ∧ Good w s ∧ w ≤ n ∧ s.dp ≤ 100 ∧ s.lf ≤ 500 ∧ ls.length ≤ 1000 ∧
    (∀ l ∈ ls, l ∈ lv s [] [] ∧ (Sv.openK f (hasB i) (hasF i) n (leafFs l)).isSome = true) ∧ (∃ l ∈ ls, (l.2.2.length : Int) = m) ∧ Q (.bl true) h
  mono := fun as h P Q R T k _ ⟨p, f, i, n, s, w, ls, m, e, z1, z2, z3, z4, z5, z6, z7, z8, z9, z10, q⟩ => ⟨p, f, i, n, s, w, ls, m, e, z1, z2, z3, z4, z5, z6, z7, z8, z9, z10, k _ _ q⟩
def spKindW : SpM := drawS (fun as v => ∃ (f : Int) (i : Nat), 0 ≤ f ∧ f < 10 ∧ i < 4 ∧ v = .tup [.int f, words i]) (fun as => as = [])
/-! ### never more -/
noncomputable def neverB (f : Int) (i n : Nat) (s u : Tr) : Bool := (lv s [] []).all fun l => (lv u [] []).all fun m => !(decide (m.2.2.length < l.2.2.length) && (Sv.openK f (hasB i) (hasF i) n (leafFs l ++ leafFs m)).isSome)
def spNever : SpM := kdS fun f i n bs v => ∃ (s u : Tr) (w : Int), bs = [eTr s, eTr u] ∧ Good w s ∧ Good w u ∧ w ≤ n ∧ s.dp ≤ 100 ∧ s.lf ≤ 500 ∧ u.dp ≤ 100 ∧ u.lf ≤ 500 ∧ v = .bl (neverB f i n s u)
/-! ### claims of an answer that is one item, as forms -/
def nrF (a i : Nat) : Form := [(1, .tup [.int 0, .int (a : Nat)]), (-1, .tup [.int 0, .int (i : Nat)])]
def nrB (first : Bool) (a i : Nat) : Bool := first && decide (i < a)
def clK (first : Bool) (n a : Nat) : List (Form × Bool) := (((List.range (n - 1)).map fun j => 1 + j).filter fun i => decide (i ≠ a)).map fun i => (nrF a i, nrB first a i)
def eCl (p : Form × Bool) : PV := .tup [.str (if p.2 then "<" else "<="), eF p.1]
/-- the claim denied -/
def eDn (p : Form × Bool) : PV := .tup [.str (if !p.2 then "<" else "<="), eF (negF p.1)]
def aimS (first : Bool) : PV := .str (if first then "first" else "nearest")
def spNearer : SpM := pureS fun as v => ∃ (b : Bool) (a i : Nat), as = [aimS b, .int (a : Nat), .int (i : Nat)] ∧ v = eCl (nrF a i, nrB b a i)
def spClaims : SpM := pureS fun as v => ∃ (b : Bool) (a n : Nat), as = [aimS b, .int (a : Nat), .int (n : Nat)] ∧ 1 ≤ n ∧ n ≤ 10 ∧ v = .tup ((clK b n a).map eCl)
/-- the answer's item -/
def ansN (l : Leaf) : Nat := match l.2.1 with
  | .int a => a.toNat
  | _ => 0
/-- each leaf's questions: facts -/
def qsE (b : Bool) (n : Nat) (l : Leaf) : List PV := (clK b n (ansN l)).map fun c => .tup (l.1.map eFact ++ [eDn c])
/-- all leaves say one item -/
def Ints (w : Int) (s : Tr) : Prop := ∀ l ∈ lv s [] [], ∃ a : Int, l.2.1 = .int a ∧ 1 ≤ a ∧ a < w
def spQuestions : SpM := pureS fun as v => ∃ (b : Bool) (n : Nat) (s : Tr) (w : Int), as = [.int (n : Nat), aimS b, eTr s] ∧ 1 ≤ n ∧ n ≤ 10 ∧ Good w s ∧ Ints n s ∧ w ≤ n ∧ s.dp ≤ 100 ∧ s.lf ≤ 500 ∧ v = .lst ((lv s [] []).map fun l => .lst (qsE b n l))
/-- .. as facts of the solver's -/
def qsF (b : Bool) (n : Nat) (s : Tr) : List (List Sv.Fc) := (lv s [] []).flatMap fun l => (clK b n (ansN l)).map fun c => leafFs l ++ [(!c.2, toFU (negF c.1))]
noncomputable def firstK (f : Int) (i n : Nat) (qs : List (List Sv.Fc)) : Option (Nat → Int) := qs.findSome? fun q => Sv.openK f (hasB i) (hasF i) n q
noncomputable def eFirst (f : Int) (i n : Nat) (qs : List (List Sv.Fc)) : PV := match firstK f i n qs with
  | none => .non
  | some x => eFound (hasB i) n x
def spWrong : SpM := kdS fun f i n bs v => ∃ (b : Bool) (s : Tr) (w : Int), bs = [aimS b, eTr s] ∧ Good w s ∧ Ints n s ∧ w ≤ n ∧ s.dp ≤ 100 ∧ s.lf ≤ 500 ∧ v = eFirst f i n (qsF b n s)
def spRight : SpM := kdS fun f i n bs v => ∃ (b : Bool) (s : Tr) (w : Int), bs = [aimS b, eTr s] ∧ Good w s ∧ Ints n s ∧ w ≤ n ∧ s.dp ≤ 100 ∧ s.lf ≤ 500 ∧ v = .bl (firstK f i n (qsF b n s)).isNone
/-- the pairs of leaves that say not the same -/
noncomputable def prF (s u : Tr) : List (List Sv.Fc) := (lv s [] []).flatMap fun l => (lv u [] []).flatMap fun m => open Classical in if m.2.1 = l.2.1 then [] else [leafFs l ++ leafFs m]
def spParted : SpM := kdS fun f i n bs v => ∃ (s u : Tr) (w : Int), bs = [eTr s, eTr u] ∧ Good w s ∧ Good w u ∧ w ≤ n ∧ s.dp ≤ 100 ∧ s.lf ≤ 500 ∧ u.dp ≤ 100 ∧ u.lf ≤ 500 ∧ v = eFirst f i n (prF s u)
def spAlike : SpM := kdS fun f i n bs v => ∃ (s u : Tr) (w : Int), bs = [eTr s, eTr u] ∧ Good w s ∧ Good w u ∧ w ≤ n ∧ s.dp ≤ 100 ∧ s.lf ≤ 500 ∧ u.dp ≤ 100 ∧ u.lf ≤ 500 ∧ v = .bl (firstK f i n (prF s u)).isNone
/-! ### is it a table of the kind -/
def DgZ (n : Nat) (t : Tbl) : Prop := ∀ x : Nat, x < n → at2 t x x = 0
def spIsDist : SpM := pureS fun as v => ∃ i : Int, as = [.int i] ∧ v = .bl (decide (0 ≤ i))
def spIsSq : SpM := pureS fun as v => ∃ (n : Nat) (m : Int) (t : Tbl) (b : Bool), as = [eT t] ∧ Sq n m t ∧ 2 ≤ n ∧ n ≤ 6 ∧ (b = true ↔ DgZ n t) ∧ v = .bl b
def spIsTable : SpM where
  run := fun as h Q _ => ∃ (p : Addr) (f : Int) (i n : Nat) (m : Int) (t : Tbl) (b : Bool), as = [.ref p, eT t] ∧ KdO h p f i ∧ 2 ≤ n ∧ n ≤ 6 ∧ Sq n m t ∧ (b = true ↔ KTb f i n t) ∧ Q (.bl b) h
  mono := fun as h P Q R T k _ ⟨p, f, i, n, m, t, b, e, z1, z2, z3, z4, z5, q⟩ => ⟨p, f, i, n, m, t, b, e, z1, z2, z3, z4, z5, k _ _ q⟩
/-! ### one kind within another -/
def withinB (f : Int) (i : Nat) (g : Int) (j : Nat) : Bool := (!hasB j || hasB i) && (!hasF j || hasF i) && (decide (g = 0) || (decide (1 ≤ f) && decide (f ≤ g)))
def spWithin : SpM where
  run := fun as h Q _ => ∃ (p q : Addr) (f g : Int) (i j : Nat), as = [.ref p, .ref q] ∧ KdO h p f i ∧ KdO h q g j ∧ Q (.bl (withinB f i g j)) h
  mono := fun as h P Q R T k _ ⟨p, q, f, g, i, j, e, z1, z2, z⟩ => ⟨p, q, f, g, i, j, e, z1, z2, k _ _ z⟩
theorem within_ktb {f g : Int} {i j n : Nat} {t : Tbl} (hw : withinB f i g j = true) (g0 : 0 ≤ g) (k : KTb f i n t) : KTb g j n t := by
  unfold withinB at hw
  simp only [Bool.and_eq_true, Bool.or_eq_true, Bool.not_eq_true', decide_eq_true_eq] at hw
  obtain ⟨⟨h1, h2⟩, h3⟩ := hw
  refine ⟨k.nn, k.dg, fun hb => k.sy (by rcases h1 with z | z; · rw [z] at hb; cases hb
                                         · exact z), fun hf => k.fa (by rcases h2 with z | z; · rw [z] at hf; cases hf
                                                                        · exact z), fun g1 x y z hx hy hz a b c => ?_⟩
  rcases h3 with e | ⟨e1, e2⟩
  · exact absurd e g1
  · have := k.tr (by omega) x y z hx hy hz a b c
    have p1 := k.nn x y hx hy
    have p2 := k.nn y z hy hz
    have := Int.mul_le_mul_of_nonneg_right e2 (show 0 ≤ at2 t x y + at2 t y z by omega)
    omega
/-- what is open to the narrow kind is open to the wide one -/
theorem within_open {f g : Int} {i j n : Nat} {fs : List Sv.Fc} (hw : withinB f i g j = true) (g0 : 0 ≤ g) (fo : ∀ q ∈ fs, Sv.FOk n q.2) (h : (Sv.openK f (hasB i) (hasF i) n fs).isSome = true) : (Sv.openK g (hasB j) (hasF j) n fs).isSome = true := by
  obtain ⟨T, r, st⟩ := (Sv.open_iff fo).mp h
  refine (Sv.open_iff fo).mpr ⟨T, r, ?_, st.2.1, st.2.2⟩
  let t : Tbl := (List.range n).map fun a => (List.range n).map fun b => T a b
  have et : ∀ a b, a < n → b < n → at2 t a b = T a b := fun a b ha hb => by
    show (((List.range n).map fun a => (List.range n).map fun b => T a b)[a]?.getD [])[b]?.getD 0 = _
    rw [List.getElem?_map, List.getElem?_range ha]
    show ((List.range n).map fun b => T a b)[b]?.getD 0 = _
    rw [List.getElem?_map, List.getElem?_range hb]; rfl
  exact kt_congr et (within_ktb hw g0 (kt_congr (fun a b ha hb => (et a b ha hb).symm) st.1))
/-! ### tables made lower: the plain law -/
abbrev Fn2 := Nat → Nat → Int
def sweep (f : Int) (y : Nat) (F : Fn2) : Fn2 := fun x z => if x ≠ y ∧ y ≠ z ∧ x ≠ z then min (F x z) (f * (F x y + F y z)) else F x z
def preF (f : Int) : Nat → Fn2 → Fn2
  | 0, F => F
  | y + 1, F => sweep f y (preF f y F)
def lowN (f : Int) (n : Nat) : Nat → Fn2 → Fn2
  | 0, F => F
  | m + 1, F => preF f n (lowN f n m F)
theorem sweep_le {f : Int} {y : Nat} {F : Fn2} (x z : Nat) : sweep f y F x z ≤ F x z := by
  unfold sweep
  split
  · exact Int.min_le_left _ _
  · exact Int.le_refl _
theorem preF_le {f : Int} {F : Fn2} (x z : Nat) : ∀ y, preF f y F x z ≤ F x z
  | 0 => Int.le_refl _
  | y + 1 => Int.le_trans (sweep_le x z) (preF_le x z y)
theorem preF_mono {f : Int} {F : Fn2} (x z : Nat) : ∀ {a b : Nat}, a ≤ b → preF f b F x z ≤ preF f a F x z
  | a, 0, h => by obtain rfl : a = 0 := by omega
                  exact Int.le_refl _
  | a, b + 1, h => by
    by_cases e : a = b + 1
    · subst e; exact Int.le_refl _
    · exact Int.le_trans (sweep_le x z) (preF_mono x z (by omega))
theorem lowN_le {f : Int} {n : Nat} {F : Fn2} (x z : Nat) : ∀ m, lowN f n m F x z ≤ F x z
  | 0 => Int.le_refl _
  | m + 1 => Int.le_trans (preF_le x z n) (lowN_le x z m)
theorem lowN_mono {f : Int} {n : Nat} {F : Fn2} (x z : Nat) : ∀ {a b : Nat}, a ≤ b → lowN f n b F x z ≤ lowN f n a F x z
  | a, 0, h => by obtain rfl : a = 0 := by omega
                  exact Int.le_refl _
  | a, b + 1, h => by
    by_cases e : a = b + 1
    · subst e; exact Int.le_refl _
    · exact Int.le_trans (preF_le x z n) (lowN_mono x z (by omega))
theorem mul_le {f a b : Int} (hf : 0 ≤ f) (h : a ≤ b) : f * a ≤ f * b := Int.mul_le_mul_of_nonneg_left h hf
theorem pre_step {f : Int} {n x y z : Nat} {F : Fn2} (hf : 0 ≤ f) (hy : y < n) (h1 : x ≠ y) (h2 : y ≠ z) (h3 : x ≠ z) : preF f n F x z ≤ f * (F x y + F y z) := by
  have a : preF f n F x z ≤ preF f (y + 1) F x z := preF_mono x z hy
  have b : preF f (y + 1) F x z ≤ f * (preF f y F x y + preF f y F y z) := by
    show sweep f y (preF f y F) x z ≤ _
    unfold sweep
    rw [if_pos ⟨h1, h2, h3⟩]
    exact Int.min_le_right _ _
  have c : f * (preF f y F x y + preF f y F y z) ≤ f * (F x y + F y z) := mul_le hf (Int.add_le_add (preF_le x y y) (preF_le y z y))
  exact Int.le_trans a (Int.le_trans b c)
/-- a property of all values that the sums keep -/
theorem low_keep {f : Int} {n : Nat} (P : Nat → Nat → Int → Prop) (hP : ∀ x y z a b, y < n → x ≠ y → y ≠ z → x ≠ z → P x y a → P y z b → P x z (f * (a + b))) : ∀ (m : Nat) {F : Fn2}, (∀ x z, P x z (F x z)) → ∀ x z, P x z (lowN f n m F x z) := by
  have hs : ∀ y, y < n → ∀ {F : Fn2}, (∀ x z, P x z (F x z)) → ∀ x z, P x z (sweep f y F x z) := by
    intro y hy F h x z
    unfold sweep
    split
    · rename_i c
      rcases (show min (F x z) (f * (F x y + F y z)) = F x z ∨ min (F x z) (f * (F x y + F y z)) = f * (F x y + F y z) by omega) with e | e
      · rw [e]; exact h x z
      · rw [e]; exact hP x y z _ _ hy c.1 c.2.1 c.2.2 (h x y) (h y z)
    · exact h x z
  have hp : ∀ y, y ≤ n → ∀ {F : Fn2}, (∀ x z, P x z (F x z)) → ∀ x z, P x z (preF f y F x z) := by
    intro y
    induction y with
    | zero => intro _ F h; exact h
    | succ y ih => intro hy F h; exact hs y hy (ih (by omega) h)
  intro m
  induction m with
  | zero => intro F h; exact h
  | succ m ih => intro F h; exact hp n (Nat.le_refl _) (ih h)
theorem low_pos {f : Int} {n m : Nat} {F : Fn2} (hf : 0 ≤ f) (h : ∀ x z, 0 ≤ F x z) : ∀ x z, 0 ≤ lowN f n m F x z :=
  low_keep (fun _ _ v => 0 ≤ v) (fun _ _ _ a b _ _ _ _ ha hb => Int.mul_nonneg hf (by omega)) m h
theorem low_diag {f : Int} {n m : Nat} {F : Fn2} (x : Nat) (h : F x x = 0) : lowN f n m F x x = 0 := by
  have hp : ∀ y (F : Fn2), F x x = 0 → preF f y F x x = 0 := by
    intro y
    induction y with
    | zero => intro F h; exact h
    | succ y ih =>
      intro F h
      show sweep f y (preF f y F) x x = 0
      unfold sweep
      rw [if_neg fun c => c.2.2 rfl]
      exact ih F h
  induction m with
  | zero => exact h
  | succ m ih => exact hp n _ ih
theorem low_lo {f lo : Int} {n m : Nat} {F : Fn2} (hf : 1 ≤ f) (h0 : 0 ≤ lo) (hn : ∀ x z, 0 ≤ F x z) (h : ∀ x z, x < n → z < n → x ≠ z → lo ≤ F x z) : ∀ x z, x < n → z < n → x ≠ z → lo ≤ lowN f n m F x z := by
  have k := low_keep (f := f) (n := n) (fun x z v => 0 ≤ v ∧ (x < n → z < n → x ≠ z → lo ≤ v)) (fun x y z a b hy h1 h2 h3 ha hb => ?_) m (F := F) fun x z => ⟨hn x z, h x z⟩
  · exact fun x z => (k x z).2
  · have s : 0 ≤ a + b := by omega
    have g : a + b ≤ f * (a + b) := by
      have := Int.mul_le_mul_of_nonneg_right hf s
      omega
    exact ⟨by omega, fun hx hz _ => by have := ha.2 hx hy h1; omega⟩
theorem low_sym {f : Int} {n : Nat} : ∀ (m : Nat) {F : Fn2}, (∀ x z, F x z = F z x) → ∀ x z, lowN f n m F x z = lowN f n m F z x := by
  have hs : ∀ y {F : Fn2}, (∀ x z, F x z = F z x) → ∀ x z, sweep f y F x z = sweep f y F z x := by
    intro y F h x z
    unfold sweep
    by_cases c : x ≠ y ∧ y ≠ z ∧ x ≠ z
    · rw [if_pos c, if_pos ⟨fun e => c.2.1 e.symm, fun e => c.1 e.symm, fun e => c.2.2 e.symm⟩, h x z, h x y, h y z, Int.add_comm]
    · rw [if_neg c, if_neg fun d => c ⟨fun e => d.2.1 e.symm, fun e => d.1 e.symm, fun e => d.2.2 e.symm⟩]
      exact h x z
  have hp : ∀ y {F : Fn2}, (∀ x z, F x z = F z x) → ∀ x z, preF f y F x z = preF f y F z x := by
    intro y
    induction y with
    | zero => intro F h; exact h
    | succ y ih => intro F h; exact hs y (ih h)
  intro m
  induction m with
  | zero => intro F h; exact h
  | succ m ih => intro F h; exact hp n (ih h)
/-- derivations of a bound: by a way with these places within, nested so deep, of this cost -/
inductive Der (f : Int) (T : Fn2) : Nat → Nat → Nat → Int → List Nat → Prop
  | leaf {x z : Nat} : Der f T 0 x z (T x z) []
  | node {k1 k2 x y z : Nat} {c1 c2 : Int} {S1 S2 : List Nat} : Der f T k1 x y c1 S1 → Der f T k2 y z c2 S2 → Der f T (max k1 k2 + 1) x z (f * (c1 + c2)) (S1 ++ y :: S2)
section
variable {f : Int} {T : Fn2}
theorem Der.pos (hf : 1 ≤ f) (h : ∀ x z, 0 ≤ T x z) {k x z : Nat} {c : Int} {S : List Nat} (d : Der f T k x z c S) : 0 ≤ c := by
  induction d with
  | leaf => exact h _ _
  | node _ _ a b => exact Int.mul_nonneg (by omega) (by omega)
theorem Der.depth {k x z : Nat} {c : Int} {S : List Nat} (d : Der f T k x z c S) : k ≤ S.length := by
  induction d with
  | leaf => exact Nat.le_refl _
  | node _ _ a b => rw [List.length_append, List.length_cons]; omega
theorem fsum {a b a' b' : Int} (hf : 1 ≤ f) (h1 : a' ≤ a) (h2 : b' ≤ b) : f * (a' + b') ≤ f * (a + b) := mul_le (by omega) (by omega)
theorem fone {a : Int} (hf : 1 ≤ f) (h : 0 ≤ a) : a ≤ f * a := by
  have := Int.mul_le_mul_of_nonneg_right hf h
  omega
theorem app_cases {S1 S2 A C : List Nat} {y w : Nat} (e : S1 ++ y :: S2 = A ++ w :: C) : (A = S1 ∧ w = y ∧ C = S2) ∨ (∃ a, A = S1 ++ y :: a ∧ S2 = a ++ w :: C) ∨ ∃ b, S1 = A ++ w :: b ∧ C = b ++ y :: S2 := by
  rcases List.append_eq_append_iff.mp e with ⟨a', e1, e2⟩ | ⟨c', e1, e2⟩
  · cases a' with
    | nil =>
      simp only [List.nil_append, List.cons.injEq] at e2
      exact .inl ⟨by simpa using e1, e2.1.symm, e2.2.symm⟩
    | cons u a =>
      simp only [List.cons_append, List.cons.injEq] at e2
      obtain ⟨rfl, e2⟩ := e2
      exact .inr (.inl ⟨a, e1, e2⟩)
  · cases c' with
    | nil =>
      simp only [List.nil_append, List.cons.injEq] at e2
      exact .inl ⟨by simpa using e1.symm, e2.1, e2.2⟩
    | cons u b =>
      simp only [List.cons_append, List.cons.injEq] at e2
      obtain ⟨rfl, e2⟩ := e2
      exact .inr (.inr ⟨b, e1, e2⟩)
theorem Der.cut (hf : 1 ≤ f) (h : ∀ x z, 0 ≤ T x z) {k x z : Nat} {c : Int} {S : List Nat} (d : Der f T k x z c S) : ∀ A w C, S = A ++ w :: C → (∃ k' c', Der f T k' x w c' A ∧ c' ≤ c) ∧ ∃ k' c', Der f T k' w z c' C ∧ c' ≤ c := by
  induction d with
  | leaf => intro A w C e; simp at e
  | @node k1 k2 x y z c1 c2 S1 S2 d1 d2 i1 i2 =>
    intro A w C e
    have p1 := d1.pos hf h
    have p2 := d2.pos hf h
    have o := fone hf (show 0 ≤ c1 + c2 by omega)
    rcases app_cases e with ⟨rfl, rfl, rfl⟩ | ⟨a, rfl, rfl⟩ | ⟨b, rfl, rfl⟩
    · exact ⟨⟨_, _, d1, by omega⟩, _, _, d2, by omega⟩
    · obtain ⟨⟨_, ca, da, la⟩, _, cb, db, lb⟩ := i2 a w C rfl
      exact ⟨⟨_, _, .node d1 da, fsum hf (Int.le_refl _) la⟩, _, _, db, by omega⟩
    · obtain ⟨⟨_, ca, da, la⟩, _, cb, db, lb⟩ := i1 A w b rfl
      exact ⟨⟨_, _, da, by omega⟩, _, _, .node db d2, fsum hf lb (Int.le_refl _)⟩
theorem Der.mid (hf : 1 ≤ f) (h : ∀ x z, 0 ≤ T x z) {k x z : Nat} {c : Int} {S : List Nat} (d : Der f T k x z c S) : ∀ A w B C, S = A ++ w :: (B ++ w :: C) → ∃ k' c', Der f T k' x z c' (A ++ w :: C) ∧ c' ≤ c := by
  induction d with
  | leaf => intro A w B C e; simp at e
  | @node k1 k2 x y z c1 c2 S1 S2 d1 d2 i1 i2 =>
    intro A w B C e
    rcases app_cases e with ⟨rfl, rfl, e2⟩ | ⟨a, rfl, rfl⟩ | ⟨b, rfl, e2⟩
    · obtain ⟨_, _, cb, db, lb⟩ := d2.cut hf h B w C e2.symm
      exact ⟨_, _, .node d1 db, fsum hf (Int.le_refl _) lb⟩
    · obtain ⟨_, cb, db, lb⟩ := i2 a w B C rfl
      exact ⟨_, _, by rw [List.append_assoc]; exact .node d1 db, fsum hf (Int.le_refl _) lb⟩
    · rcases app_cases e2.symm with ⟨rfl, rfl, rfl⟩ | ⟨a, rfl, rfl⟩ | ⟨b', rfl, rfl⟩
      · obtain ⟨⟨_, ca, da, la⟩, _⟩ := d1.cut hf h A w B rfl
        exact ⟨_, _, .node da d2, fsum hf la (Int.le_refl _)⟩
      · obtain ⟨⟨_, ca, da, la⟩, _⟩ := d1.cut hf h A w b rfl
        obtain ⟨_, _, cb, db, lb⟩ := d2.cut hf h a w C rfl
        exact ⟨_, _, .node da db, fsum hf la lb⟩
      · obtain ⟨_, ca, da, la⟩ := i1 A w B b' rfl
        exact ⟨_, _, by rw [show A ++ w :: (b' ++ y :: S2) = (A ++ w :: b') ++ y :: S2 by simp]; exact .node da d2, fsum hf la (Int.le_refl _)⟩
theorem dup_split : ∀ {S : List Nat}, ¬ S.Nodup → ∃ A w B C, S = A ++ w :: (B ++ w :: C)
  | [], h => absurd List.nodup_nil h
  | a :: S, h => by
    by_cases ha : a ∈ S
    · obtain ⟨B, C, e⟩ := List.append_of_mem ha
      exact ⟨[], a, B, C, by rw [e]; rfl⟩
    · obtain ⟨A, w, B, C, e⟩ := dup_split (S := S) fun n => h (List.nodup_cons.mpr ⟨ha, n⟩)
      exact ⟨a :: A, w, B, C, by rw [e]; rfl⟩
theorem Der.simple (hf : 1 ≤ f) (h : ∀ x z, 0 ≤ T x z) : ∀ (N : Nat) {k x z : Nat} {c : Int} {S : List Nat}, Der f T k x z c S → S.length ≤ N → ∃ k' c' S', Der f T k' x z c' S' ∧ c' ≤ c ∧ S'.Nodup ∧ x ∉ S' ∧ z ∉ S' ∧ ∀ w ∈ S', w ∈ S
  | 0, k, x, z, c, S, d, hl => by
    obtain rfl : S = [] := List.eq_nil_of_length_eq_zero (by omega)
    exact ⟨k, c, [], d, Int.le_refl _, List.nodup_nil, by simp, by simp, fun _ z => z⟩
  | N + 1, k, x, z, c, S, d, hl => by
    have shorter : ∀ {k' : Nat} {c' : Int} {S' : List Nat}, Der f T k' x z c' S' → c' ≤ c → S'.length < S.length → (∀ w ∈ S', w ∈ S) → ∃ k' c' S', Der f T k' x z c' S' ∧ c' ≤ c ∧ S'.Nodup ∧ x ∉ S' ∧ z ∉ S' ∧ ∀ w ∈ S', w ∈ S := by
      intro k' c' S' d' hc hlt hsub
      obtain ⟨k2, c2, S2, a1, a2, a3, a4, a5, a6⟩ := Der.simple hf h N d' (by omega)
      exact ⟨k2, c2, S2, a1, by omega, a3, a4, a5, fun w hw => hsub w (a6 w hw)⟩
    by_cases hx : x ∈ S
    · obtain ⟨A, C, e⟩ := List.append_of_mem hx
      obtain ⟨_, _, cb, db, lb⟩ := d.cut hf h A x C e
      exact shorter db lb (by rw [e]; simp; omega) fun w hw => by rw [e]; simp [hw]
    by_cases hz : z ∈ S
    · obtain ⟨A, C, e⟩ := List.append_of_mem hz
      obtain ⟨⟨_, cb, db, lb⟩, _⟩ := d.cut hf h A z C e
      exact shorter db lb (by rw [e]; simp) fun w hw => by rw [e]; simp [hw]
    by_cases hn : S.Nodup
    · exact ⟨k, c, S, d, Int.le_refl _, hn, hx, hz, fun _ z => z⟩
    obtain ⟨A, w, B, C, e⟩ := dup_split hn
    obtain ⟨_, cb, db, lb⟩ := d.mid hf h A w B C e
    refine shorter db lb (by rw [e]; simp; omega) fun u hu => ?_
    rw [e]
    simp only [List.mem_append, List.mem_cons] at hu ⊢
    rcases hu with hu | hu | hu
    · exact .inl hu
    · exact .inr (.inl hu)
    · exact .inr (.inr (.inr (.inr hu)))
theorem low_le_der {n : Nat} (hf : 1 ≤ f) {k x z : Nat} {c : Int} {S : List Nat} (d : Der f T k x z c S) : ∀ m, k ≤ m → x ≠ z → S.Nodup → x ∉ S → z ∉ S → (∀ w ∈ S, w < n) → lowN f n m T x z ≤ c := by
  induction d with
  | leaf => intro m _ _ _ _ _ _; exact lowN_le _ _ m
  | @node k1 k2 x y z c1 c2 S1 S2 d1 d2 i1 i2 =>
    intro m hk hne nd hx hz hw
    cases m with
    | zero => omega
    | succ m =>
      have hy : y < n := hw y (by simp)
      have xy : x ≠ y := fun e => hx (by simp [e])
      have yz : y ≠ z := fun e => hz (by simp [e])
      obtain ⟨n1, n2, n3⟩ := List.nodup_append.mp nd
      obtain ⟨n4, n5⟩ := List.nodup_cons.mp n2
      have a1 := i1 m (by omega) xy n1 (fun z => hx (by simp [z])) (fun z => n3 y z y (by simp) rfl) fun w hm => hw w (by simp [hm])
      have a2 := i2 m (by omega) yz n5 n4 (fun e => hz (by simp [e])) fun w hm => hw w (by simp [hm])
      exact Int.le_trans (pre_step (by omega) hy xy yz hne) (fsum hf a1 a2)
theorem nodup_few : ∀ (n : Nat) {S : List Nat}, S.Nodup → (∀ w ∈ S, w < n) → S.length ≤ n
  | 0, S, _, h => by
    cases S with
    | nil => exact Nat.le_refl _
    | cons a S => exact absurd (h a (by simp)) (Nat.not_lt_zero _)
  | n + 1, S, nd, h => by
    by_cases hn : n ∈ S
    · have e := List.length_erase_of_mem hn
      have := nodup_few n (nd.erase n) fun w hw => by
        have := (List.Nodup.mem_erase_iff nd).mp hw
        have := h w this.2
        omega
      omega
    · have := nodup_few n nd fun w hw => by
        have := h w hw
        have : w ≠ n := fun e => hn (e ▸ hw)
        omega
      omega
/-- the table that was made lower so often as it has places is of the kind -/
theorem low_tri {n x y z : Nat} (hf : 1 ≤ f) (h : ∀ x z, 0 ≤ T x z) (hy : y < n) (h1 : x ≠ y) (h2 : y ≠ z) (h3 : x ≠ z) : lowN f n n T x z ≤ f * (lowN f n n T x y + lowN f n n T y z) := by
  have der := low_keep (f := f) (n := n) (fun x z v => ∃ k S, Der f T k x z v S ∧ ∀ w ∈ S, w < n) (fun x y z a b hy _ _ _ ha hb => ?_) n (F := T) fun x z => ⟨0, [], .leaf, fun _ z => nomatch z⟩
  · obtain ⟨k1, S1, d1, w1⟩ := der x y
    obtain ⟨k2, S2, d2, w2⟩ := der y z
    obtain ⟨k, c, S, d, hc, nd, hx, hz, hs⟩ := Der.simple hf h _ (Der.node d1 d2) (Nat.le_refl _)
    have hw : ∀ w ∈ S, w < n := fun w hm => by
      have := hs w hm
      simp only [List.mem_append, List.mem_cons] at this
      rcases this with q | q | q
      · exact w1 w q
      · rw [q]; exact hy
      · exact w2 w q
    have dl := d.depth
    have sl := nodup_few n nd hw
    exact Int.le_trans (low_le_der hf d n (by omega) h3 nd hx hz hw) hc
  · obtain ⟨k1, S1, d1, w1⟩ := ha
    obtain ⟨k2, S2, d2, w2⟩ := hb
    refine ⟨_, _, .node d1 d2, fun w hm => ?_⟩
    simp only [List.mem_append, List.mem_cons] at hm
    rcases hm with q | q | q
    · exact w1 w q
    · rw [q]; exact hy
    · exact w2 w q
/-- what is of the kind and nowhere greater at first is so behind -/
theorem low_least {n m : Nat} (hf : 0 ≤ f) {d : Fn2} (ht : ∀ x y z, x < n → y < n → z < n → x ≠ y → y ≠ z → x ≠ z → d x z ≤ f * (d x y + d y z)) {F : Fn2} (h : ∀ x z, x < n → z < n → d x z ≤ F x z) : ∀ x z, x < n → z < n → d x z ≤ lowN f n m F x z :=
  low_keep (f := f) (n := n) (fun x z v => x < n → z < n → d x z ≤ v) (fun x y z a b hy h1 h2 h3 ha hb hx hz => Int.le_trans (ht x y z hx hy hz h1 h2 h3) (mul_le hf (Int.add_le_add (ha hx hy) (hb hy hz)))) m h
end
/-! ### what stays in the heap -/
def SubH (h h' : MH) : Prop := ∀ b o, h b = some o → h' b = some o
theorem SubH.up {h h' : MH} {q : Addr} {x : MO} (s : SubH h h') (hn : h q = none) : SubH h (mupd h' q x) :=
  fun b o e => by rw [mupd_ne (fun z : b = q => by rw [z, hn] at e; cases e)]; exact s b o e
theorem SubH.del {h h' : MH} {q : Addr} (s : SubH h h') (hn : h q = none) : SubH h (mdel h' q) :=
  fun b o e => by
    unfold mdel
    rw [if_neg (fun z : b = q => by rw [z, hn] at e; cases e)]; exact s b o e
theorem SubH.no {h h' : MH} {q : Addr} (s : SubH h h') (hn : h' q = none) : h q = none := by
  cases z : h q with
  | none => rfl
  | some o => rw [s q o z] at hn; cases hn
theorem KdO.sub {h h' : MH} {p : Addr} {f : Int} {i : Nat} (kd : KdO h p f i) (s : SubH h h') : KdO h' p f i := ⟨s _ _ kd.1, kd.2⟩
/-! ### rows of lists that may change, their entries by a rule -/
def rowE (n : Nat) (E : Nat → Nat → PV) (i : Nat) : List PV := (List.range n).map (E i)
/-- m rows of n entries -/
structure MatR (h : MH) (q : Addr) (qs : List Addr) (m n : Nat) (E : Nat → Nat → PV) : Prop where
  top : h q = some (.lst (qs.map .ref))
  len : qs.length = m
  row : ∀ (i : Nat) (p : Addr), qs[i]? = some p → h p = some (.lst (rowE n E i))
  nd : ∀ (i j : Nat) (p : Addr), qs[i]? = some p → qs[j]? = some p → i = j
  nq : q ∉ qs
abbrev MatE (h : MH) (q : Addr) (qs : List Addr) (n : Nat) (E : Nat → Nat → PV) : Prop := MatR h q qs n n E
section
variable {q : Addr} {qs : List Addr} {m n : Nat} {E : Nat → Nat → PV}
theorem rowE_len {i : Nat} : (rowE n E i).length = n := by unfold rowE; rw [List.length_map, List.length_range]
theorem MatR.get (M : MatR h q qs m n E) {i : Nat} (hi : i < m) : ∃ p, qs[i]? = some p ∧ L2.atI (qs.map PV.ref) i = some (.ref p) ∧ h p = some (.lst (rowE n E i)) := by
  have h1 : i < qs.length := by rw [M.len]; exact hi
  have e : qs[i]? = some qs[i] := List.getElem?_eq_getElem h1
  refine ⟨qs[i], e, ?_, M.row i _ e⟩
  rw [atI_nat (n := i) rfl (by rw [List.length_map]; exact h1), List.getElem?_map, e]
  rfl
theorem rowE_at {i j : Nat} (hj : j < n) : L2.atI (rowE n E i) (j : Nat) = some (E i j) := by
  rw [atI_nat (n := j) rfl (by rw [rowE_len]; exact hj)]
  unfold rowE
  rw [List.getElem?_map, List.getElem?_range hj]; rfl
theorem rowE_set {i j : Nat} {v : PV} (hj : j < n) {E' : Nat → Nat → PV} (e : ∀ c, c < n → E' i c = if c = j then v else E i c) : (rowE n E i).set j v = rowE n E' i := by
  refine List.ext_getElem? fun c => ?_
  unfold rowE
  by_cases hc : c < n
  · rw [List.getElem?_map, List.getElem?_range hc, Option.map_some, e c hc]
    by_cases ec : c = j
    · subst ec
      rw [if_pos rfl, List.getElem?_set_self (by rw [List.length_map, List.length_range]; exact hc)]
    · rw [if_neg ec, List.getElem?_set_ne (Ne.symm ec), List.getElem?_map, List.getElem?_range hc]; rfl
  · rw [List.getElem?_eq_none (by rw [List.length_set, List.length_map, List.length_range]; omega), List.getElem?_eq_none (by rw [List.length_map, List.length_range]; omega)]
theorem MatR.ne (M : MatR h q qs m n E) {i : Nat} {p : Addr} (e : qs[i]? = some p) : p ≠ q := fun z => M.nq (z ▸ List.mem_of_getElem? e)
theorem MatR.put (M : MatR h q qs m n E) {i j : Nat} {p : Addr} {v : PV} (hj : j < n) (e : qs[i]? = some p) {E' : Nat → Nat → PV} (eE : ∀ a c, a < m → c < n → E' a c = if a = i ∧ c = j then v else E a c) : MatR (mupd h p (.lst ((rowE n E i).set j v))) q qs m n E' := by
  have hi : i < m := by rw [← M.len]; exact (List.getElem?_eq_some_iff.mp e).1
  refine ⟨by rw [mupd_ne (Ne.symm (M.ne e))]; exact M.top, M.len, fun a p2 e1 => ?_, M.nd, M.nq⟩
  have ha : a < m := by rw [← M.len]; exact (List.getElem?_eq_some_iff.mp e1).1
  by_cases z : a = i
  · subst z
    rw [e] at e1; cases e1
    rw [mupd_same, rowE_set (E' := E') hj fun c hc => by rw [eE a c ha hc]; simp]
  · have np : p2 ≠ p := fun y => z (M.nd a i p (y ▸ e1) e)
    rw [mupd_ne np, M.row a p2 e1]
    congr 2
    unfold rowE
    refine List.map_congr_left fun c hc => ?_
    rw [eE a c ha (List.mem_range.mp hc), if_neg fun y => z y.1]
theorem MatR.sub {h' : MH} (M : MatR h q qs m n E) (s : ∀ a, a = q ∨ a ∈ qs → h' a = h a) : MatR h' q qs m n E :=
  ⟨by rw [s q (.inl rfl)]; exact M.top, M.len, fun i p e => by rw [s p (.inr (List.mem_of_getElem? e))]; exact M.row i p e, M.nd, M.nq⟩
theorem MatR.congr (M : MatR h q qs m n E) {E' : Nat → Nat → PV} (eE : ∀ a c, a < m → c < n → E' a c = E a c) : MatR h q qs m n E' :=
  ⟨M.top, M.len, fun i p e => by
    have hi : i < m := by rw [← M.len]; exact (List.getElem?_eq_some_iff.mp e).1
    rw [M.row i p e]
    congr 2
    unfold rowE
    exact List.map_congr_left fun c hc => (eE i c hi (List.mem_range.mp hc)).symm, M.nd, M.nq⟩
theorem MatR.add {h2 : MH} (M : MatR h q qs m n E) {a : Addr} {E' : Nat → Nat → PV} (s : ∀ b, b = q ∨ b ∈ qs → h2 b = h b) (ha : h a = none) (h2a : h2 a = some (.lst (rowE n E' m))) (eE : ∀ b c, b < m → c < n → E' b c = E b c) : MatR (mupd h2 q (.lst ((qs ++ [a]).map .ref))) q (qs ++ [a]) (m + 1) n E' := by
  have M2 := (M.sub s).congr eE
  have aq : a ≠ q := fun z => by rw [z, M.top] at ha; cases ha
  have live : ∀ b ∈ qs, b ≠ a := fun b hb z => by
    obtain ⟨j, hj, ej⟩ := List.mem_iff_getElem.mp hb
    have := M.row j b (by rw [List.getElem?_eq_getElem hj, ej])
    rw [z, ha] at this; cases this
  have cases3 : ∀ i b, (qs ++ [a])[i]? = some b → (qs[i]? = some b) ∨ (i = m ∧ b = a) := fun i b e => by
    by_cases hi : i < qs.length
    · rw [List.getElem?_append_left hi] at e; exact .inl e
    · have hl := (List.getElem?_eq_some_iff.mp e).1
      rw [List.length_append, List.length_singleton] at hl
      have : i = qs.length := by omega
      subst this
      rw [List.getElem?_append_right (Nat.le_refl _), Nat.sub_self] at e
      exact .inr ⟨M.len, by simpa using e.symm⟩
  refine ⟨mupd_same, by rw [List.length_append, M.len]; rfl, fun i b e => ?_, fun i j b e1 e2 => ?_, fun z => ?_⟩
  · rcases cases3 i b e with e | ⟨rfl, rfl⟩
    · rw [mupd_ne (M.ne e)]; exact M2.row i b e
    · rw [mupd_ne aq]; exact h2a
  · rcases cases3 i b e1 with e1 | ⟨rfl, rfl⟩ <;> rcases cases3 j b e2 with e2 | ⟨e3, e4⟩
    · exact M.nd i j b e1 e2
    · exact absurd e4 (live b (List.mem_of_getElem? e1))
    · exact absurd rfl (live b (List.mem_of_getElem? e2))
    · exact e3.symm
  · rcases List.mem_append.mp z with z | z
    · exact M.nq z
    · exact aq (List.mem_singleton.mp z).symm
end
/-- rows made one after another -/
theorem x_matE {own : List (Str × Nat)} {t : ST} {it : W} {elt : E} (n : Nat) (F : Nat → Nat → PV) (kp : MH → Prop) (enc : Nat → PV) (hI : ∀ P : Items → MH → Prop, P ⟨(List.range n).map enc, kp⟩ h → wpW G gl ex it ρ h P) (hz : n ≤ sizeLine) (hk : ∀ h', SubH h h' → kp h')
    (st : ∀ i, i < n → ∀ h2, SubH h h2 → ∃ ρ2, t.set (enc i) (wipeE ρ (own.map (·.2))) = some ρ2 ∧ wpE G gl (fun _ => noX) elt ρ2 h2 fun y h3 => ∃ a, y = .ref a ∧ h2 a = none ∧ SubH h2 h3 ∧ h3 a = some (.lst (rowE n F i)))
    (fin : ∀ h2 q qs, SubH h h2 → h q = none → (∀ a ∈ qs, h a = none) → MatE h2 q qs n F → Q (.ref q) h2) : wpE G gl ex (.comp true own t it .tt elt) ρ h Q := by
  refine x_compI ⟨(List.range n).map enc, kp⟩ (fun i acc h2 => SubH h h2 ∧ ∃ qs : List Addr, acc = qs.map .ref ∧ (∀ a ∈ qs, h a = none) ∧ qs.length = i ∧ (∀ (j : Nat) (a : Addr), qs[j]? = some a → h2 a = some (.lst (rowE n F j))) ∧ (∀ (i j : Nat) (a : Addr), qs[i]? = some a → qs[j]? = some a → i = j)) hI (by rw [List.length_map, List.length_range]; exact hz) ⟨fun _ _ e => e, [], rfl, (fun _ z => nomatch z), rfl, (fun j a e => by rw [List.getElem?_nil] at e; cases e), fun i j a e => by rw [List.getElem?_nil] at e; cases e⟩ ?_ ?_
  · rintro i x acc h2 hx ⟨s1, qs, rfl, nn, ql, rw1, inj⟩
    have hx : ((List.range n).map enc)[i]? = some x := hx
    rw [List.getElem?_map] at hx
    obtain ⟨y, hr, rfl⟩ := Option.map_eq_some_iff.mp hx
    have hil : i < n := by have := (List.getElem?_eq_some_iff.mp hr).1; rwa [List.length_range] at this
    rw [List.getElem?_range hil] at hr
    cases hr
    obtain ⟨ρ2, e2, hw⟩ := st i hil h2 s1
    refine ⟨hk _ s1, ρ2, e2, ?_⟩
    simp only [x_tt, if_true]
    refine monE _ elt _ _ _ _ (fun v h3 ⟨a3, ev, n3, hs, ha⟩ => ?_) hw
    subst ev
    have old : ∀ a ∈ qs, a ≠ a3 := fun a ha z => by
      obtain ⟨j, hj, ej⟩ := List.mem_iff_getElem.mp ha
      have := rw1 j a (by rw [List.getElem?_eq_getElem hj, ej])
      rw [z, n3] at this; cases this
    refine ⟨fun b o e => hs b o (s1 b o e), qs ++ [a3], by simp, ?_, by simp [ql], ?_, ?_⟩
    · intro a ha
      rcases List.mem_append.mp ha with ha | ha
      · exact nn a ha
      · cases List.mem_singleton.mp ha; exact s1.no n3
    · intro j a e1
      by_cases hj : j < qs.length
      · rw [List.getElem?_append_left hj] at e1
        exact hs _ _ (rw1 j a e1)
      · have hl1 : j < (qs ++ [a3]).length := (List.getElem?_eq_some_iff.mp e1).1
        rw [List.length_append, List.length_singleton] at hl1
        have : j = qs.length := by omega
        subst this
        rw [List.getElem?_append_right (Nat.le_refl _), Nat.sub_self] at e1
        have e1 : a3 = a := by simpa using e1
        subst e1
        rw [ql]
        exact ha
    · intro i' j' a e1 e2
      have hl1 : i' < (qs ++ [a3]).length := (List.getElem?_eq_some_iff.mp e1).1
      have hl2 : j' < (qs ++ [a3]).length := (List.getElem?_eq_some_iff.mp e2).1
      rw [List.length_append, List.length_singleton] at hl1 hl2
      have last : ∀ i, ¬ i < qs.length → i < qs.length + 1 → (qs ++ [a3])[i]? = some a → a = a3 := fun i h1 h2 e => by
        have : i = qs.length := by omega
        subst this
        rw [List.getElem?_append_right (Nat.le_refl _), Nat.sub_self] at e
        simpa using e.symm
      by_cases hi : i' < qs.length
      · by_cases hj : j' < qs.length
        · rw [List.getElem?_append_left hi] at e1
          rw [List.getElem?_append_left hj] at e2
          exact inj i' j' a e1 e2
        · rw [List.getElem?_append_left hi] at e1
          exact absurd (last j' hj hl2 e2) (old a (List.mem_of_getElem? e1))
      · by_cases hj : j' < qs.length
        · rw [List.getElem?_append_left hj] at e2
          exact absurd (last i' hi hl1 e1) (old a (List.mem_of_getElem? e2))
        · omega
  · rintro acc h2 ⟨s1, qs, rfl, nn, ql, rw1, inj⟩
    have ql : qs.length = n := by rw [ql]; show ((List.range n).map enc).length = n; rw [List.length_map, List.length_range]
    refine ⟨hk _ s1, ?_⟩
    rw [al_t]
    intro qe he
    have he1 := s1.no he
    have qn : qe ∉ qs := fun z => by
      obtain ⟨j, hj, ej⟩ := List.mem_iff_getElem.mp z
      have := rw1 j qe (by rw [List.getElem?_eq_getElem hj, ej])
      rw [he] at this; cases this
    refine fin _ qe qs (s1.up he1) he1 nn ⟨mupd_same, ql, fun j a e1 => ?_, inj, qn⟩
    rw [mupd_ne (fun z => qn (by rw [← z]; exact List.mem_of_getElem? e1))]
    exact rw1 j a e1
/-! ### tables made row by row, lowered by turns -/
def iE (F : Fn2) : Nat → Nat → PV := fun i j => .int (F i j)
def spWords : SpM := pureS fun as v => ∃ i : Nat, as = [.int i] ∧ i < 4 ∧ v = words i
def spLowB : SpM where
  run := fun as h Q _ => ∃ (q : Addr) (f : Int) (n : Nat) (qs : List Addr) (F : Fn2), as = [.int f, .ref q] ∧ MatE h q qs n (iE F) ∧ n ≤ 20 ∧ 1 ≤ f ∧ f < 100 ∧
    ∀ h' : MH, MatE h' q qs n (iE (lowN f n n F)) → (∀ p, p ∉ qs → h' p = h p) → Q (.ref q) h'
  mono := fun as h P Q R T k _ ⟨q, f, n, qs, F, e, z1, z2, z3, z4, z⟩ => ⟨q, f, n, qs, F, e, z1, z2, z3, z4, fun h' x1 x2 => k _ _ (z h' x1 x2)⟩
def tblF (n : Nat) (F : Fn2) : Tbl := (List.range n).map fun i => (List.range n).map (F i)
def spTableB : SpM := drawS (fun as v => ∃ (f : Int) (i n : Nat) (F : Fn2), as = [.int n, .int f, words i] ∧ i < 4 ∧ Sv.KT f (hasB i) (hasF i) n F ∧ (∀ a c, F a c ≤ 1000) ∧ v = eT (tblF n F)) (fun as => ∃ (f : Int) (i n : Nat), as = [.int n, .int f, words i] ∧ i < 4 ∧ 2 ≤ n ∧ n ≤ 10 ∧ 0 ≤ f ∧ f < 100)
def spPairU : SpM := drawS (fun as v => ∃ n x y : Nat, as = [.int n] ∧ x < n ∧ y < n ∧ x ≠ y ∧ v = .tup [.int x, .int y]) (fun as => ∃ n : Nat, as = [.int n] ∧ 2 ≤ n ∧ n ≤ 1000)
theorem strs_inj : ∀ {a b : List Str}, a.map PV.str = b.map PV.str → a = b
  | [], [], _ => rfl
  | x :: a, y :: b, e => by
    simp only [List.map_cons, List.cons.injEq, PV.str.injEq] at e
    rw [e.1, strs_inj e.2]
theorem words_inj {i j : Nat} (hi : i < 4) (hj : j < 4) (e : words i = words j) : i = j := by
  have ew : wl i = wl j := strs_inj (PV.tup.inj e)
  have ci : i = 0 ∨ i = 1 ∨ i = 2 ∨ i = 3 := by omega
  have cj : j = 0 ∨ j = 1 ∨ j = 2 ∨ j = 3 := by omega
  rcases ci with rfl | rfl | rfl | rfl <;> rcases cj with rfl | rfl | rfl | rfl <;> first | rfl | exact absurd ew (by decide +kernel)
/-! ### kinds made of words in any order; a table that shows what is not within -/
structure WsOk (ws : List Str) (i : Nat) : Prop where
  i4 : i < 4
  mem : ∀ w ∈ ws, w = "both" ∨ w = "far"
  b : (ws.any fun z => z == "both") = hasB i
  f : (ws.any fun z => z == "far") = hasF i
  len : ws.length ≤ 100
def spInitW : SpM where
  run := fun as h Q _ => ∃ (p : Addr) (f : Int) (i : Nat) (ws : List Str), as = [.ref p, .int f, .tup (ws.map .str)] ∧ WsOk ws i ∧ h p = some (.ins "Kind" []) ∧ Q .non (mupd h p (kdO f i))
  mono := fun as h P Q R T k _ ⟨p, f, i, ws, e, z1, z2, q⟩ => ⟨p, f, i, ws, e, z1, z2, k _ _ q⟩
/-- the size of the shown table, its entries -/
def shN (i j wide : Nat) : Nat := if (hasF j && !hasF i) || (hasB j && !hasB i) then 2 + wide else 3 + wide
def shF (f : Int) (i j wide : Nat) : Fn2 := fun x y =>
  if x = y then 0 else if hasF j && !hasF i then 0 else if hasB j && !hasB i then 1 + (if x < y then 1 else 0)
  else if (x = 0 ∧ y = 2) ∨ (x = 2 ∧ y = 0) then 2 * (1 + 100 * (wide : Int)) * (if 0 < f then f else 10) else 1 + 100 * (wide : Int)
def spShown2 : SpM := pureS fun as v => ∃ (f g : Int) (i j wide : Nat), as = [.int f, words i, .int g, words j, .int (wide : Nat)] ∧ i < 4 ∧ j < 4 ∧ 0 ≤ f ∧ f < 10 ∧ wide ≤ 1 ∧ v = eT (tblF (shN i j wide) (shF f i j wide))
theorem tblF_at2 {n x y : Nat} {F : Fn2} (hx : x < n) (hy : y < n) : at2 (tblF n F) x y = F x y := by
  unfold at2 tblF
  rw [List.getElem?_map, List.getElem?_range hx]
  show ((List.range n).map (F x))[y]?.getD 0 = _
  rw [List.getElem?_map, List.getElem?_range hy]; rfl
theorem tblF_sq {n : Nat} {F : Fn2} {m : Int} (h : ∀ x y, x < n → y < n → 0 ≤ F x y ∧ F x y ≤ m) : Sq n m (tblF n F) := by
  refine ⟨by unfold tblF; rw [List.length_map, List.length_range], fun r hr => ?_⟩
  obtain ⟨a, ha, rfl⟩ := List.mem_map.mp hr
  refine ⟨by rw [List.length_map, List.length_range], fun x hx => ?_⟩
  obtain ⟨b, hb, rfl⟩ := List.mem_map.mp hx
  exact h a b (List.mem_range.mp ha) (List.mem_range.mp hb)
theorem kt_tblF {n : Nat} {F : Fn2} {f : Int} {i : Nat} : KTb f i n (tblF n F) ↔ Sv.KT f (hasB i) (hasF i) n F :=
  ⟨kt_congr fun a b ha hb => tblF_at2 ha hb, kt_congr fun a b ha hb => (tblF_at2 ha hb).symm⟩
theorem shF_rng {f : Int} {i j wide : Nat} (f0 : 0 ≤ f) (f9 : f < 10) (w1 : wide ≤ 1) (x y : Nat) : 0 ≤ shF f i j wide x y ∧ shF f i j wide x y ≤ 2020 := by
  unfold shF
  have hw : wide = 0 ∨ wide = 1 := by omega
  rcases hw with rfl | rfl <;> split <;> (try split) <;> (try split) <;> (try split) <;> (try split) <;> omega
/-- not within: shown -/
theorem shown_kt {f g : Int} {i j wide : Nat} (f0 : 0 ≤ f) (f9 : f < 10) (g0 : 0 ≤ g) (g9 : g < 10) (w1 : wide ≤ 1) (hw : withinB f i g j = false) :
    Sv.KT f (hasB i) (hasF i) (shN i j wide) (shF f i j wide) ∧ ¬ Sv.KT g (hasB j) (hasF j) (shN i j wide) (shF f i j wide) := by
  unfold withinB at hw
  cases hA : (hasF j && !hasF i) with
  | true =>
    rw [Bool.and_eq_true, Bool.not_eq_true'] at hA
    have F0 : ∀ x y, shF f i j wide x y = 0 := fun x y => by unfold shF; rw [hA.1, hA.2]; simp
    refine ⟨⟨fun x y _ _ => by rw [F0]; exact Int.le_refl _, fun x _ => F0 x x, fun _ x y _ _ => by rw [F0, F0], fun z => (by rw [hA.2] at z; cases z), fun _ x y z _ _ _ _ _ _ => by rw [F0, F0, F0]; simp⟩, fun k => ?_⟩
    have := k.fa hA.1 0 1 (by unfold shN; split <;> omega) (by unfold shN; split <;> omega) (by decide)
    rw [F0] at this
    omega
  | false =>
    cases hB : (hasB j && !hasB i) with
    | true =>
      rw [Bool.and_eq_true, Bool.not_eq_true'] at hB
      have F0 : ∀ x y, shF f i j wide x y = if x = y then 0 else 1 + (if x < y then 1 else 0) := fun x y => by unfold shF; rw [hA, hB.1, hB.2]; simp
      refine ⟨⟨fun x y _ _ => by rw [F0]; split <;> (try split) <;> omega, fun x _ => by rw [F0, if_pos rfl], fun z => (by rw [hB.2] at z; cases z), fun _ x y _ _ ne => by rw [F0, if_neg ne]; split <;> omega, fun hf x y z _ _ _ a b c => ?_⟩, fun k => ?_⟩
      · rw [F0, F0, F0, if_neg a, if_neg b, if_neg c]
        have h2 : 1 * ((1 + (if x < y then (1 : Int) else 0)) + (1 + (if y < z then 1 else 0))) ≤ f * ((1 + (if x < y then (1 : Int) else 0)) + (1 + (if y < z then 1 else 0))) := Int.mul_le_mul_of_nonneg_right (by omega) (by split <;> split <;> omega)
        have h3 : (if x < z then (1 : Int) else 0) ≤ 1 := by split <;> omega
        have h4 : (0 : Int) ≤ (if x < y then (1 : Int) else 0) := by split <;> omega
        have h5 : (0 : Int) ≤ (if y < z then (1 : Int) else 0) := by split <;> omega
        omega
      · have := k.sy hB.1 0 1 (by unfold shN; split <;> omega) (by unfold shN; split <;> omega)
        rw [F0, F0] at this
        simp at this
    | false =>
      have hn : shN i j wide = 3 + wide := by unfold shN; rw [hA, hB]; rfl
      have hC : g ≠ 0 ∧ (f = 0 ∨ g < f) := by
        have e1 : (!hasB j || hasB i) = true := by
          cases h1 : hasB j <;> cases h2 : hasB i <;> rw [h1, h2] at hB <;> first | rfl | cases hB
        have e2 : (!hasF j || hasF i) = true := by
          cases h1 : hasF j <;> cases h2 : hasF i <;> rw [h1, h2] at hA <;> first | rfl | cases hA
        rw [e1, e2, Bool.true_and, Bool.true_and, Bool.or_eq_false_iff, Bool.and_eq_false_iff] at hw
        simp only [decide_eq_false_iff_not] at hw
        omega
      let c : Int := 1 + 100 * (wide : Int)
      let m : Int := if 0 < f then f else 10
      have c0 : 1 ≤ c := by show 1 ≤ 1 + 100 * (wide : Int); omega
      have F0 : ∀ x y, shF f i j wide x y = if x = y then 0 else if (x = 0 ∧ y = 2) ∨ (x = 2 ∧ y = 0) then 2 * c * m else c := fun x y => by unfold shF; rw [hA, hB]; simp [c, m]
      have m1 : 1 ≤ m := by show 1 ≤ if 0 < f then f else 10; split <;> omega
      have cm : c ≤ c * m := by have := Int.mul_le_mul_of_nonneg_left m1 (show 0 ≤ c by omega); omega
      have big : ∀ x y, x ≠ y → c ≤ shF f i j wide x y := fun x y ne => by
        rw [F0, if_neg ne]
        split
        · rw [Int.mul_assoc]; omega
        · exact Int.le_refl _
      rw [hn]
      refine ⟨⟨fun x y _ _ => ?_, fun x _ => by rw [F0, if_pos rfl], fun _ x y _ _ => ?_, fun _ x y _ _ ne => by have := big x y ne; omega, fun hf x y z _ _ _ a b d => ?_⟩, fun k => ?_⟩
      · by_cases e : x = y
        · rw [F0, if_pos e]; exact Int.le_refl _
        · have := big x y e; omega
      · rw [F0, F0]
        by_cases e : x = y
        · rw [if_pos e, if_pos e.symm]
        · rw [if_neg e, if_neg (Ne.symm e)]
          by_cases e2 : (x = 0 ∧ y = 2) ∨ (x = 2 ∧ y = 0)
          · rw [if_pos e2, if_pos (by omega)]
          · rw [if_neg e2, if_neg (by omega)]
      · have p1 := big x y a
        have p2 := big y z b
        have hm : m = f := by show (if 0 < f then f else 10) = f; rw [if_pos (by omega)]
        have le : shF f i j wide x z ≤ 2 * c * m := by
          rw [F0, if_neg d]
          split
          · exact Int.le_refl _
          · rw [Int.mul_assoc]; omega
        have q := Int.mul_le_mul_of_nonneg_left (show 2 * c ≤ shF f i j wide x y + shF f i j wide y z by omega) f0
        rw [hm] at le
        have : f * (2 * c) = 2 * c * f := Int.mul_comm _ _
        omega
      · have t := k.tr hC.1 0 1 2 (by omega) (by omega) (by omega) (by decide) (by decide) (by decide)
        have e02 : shF f i j wide 0 2 = 2 * c * m := by rw [F0, if_neg (by decide), if_pos (.inl ⟨rfl, rfl⟩)]
        have e01 : shF f i j wide 0 1 = c := by rw [F0, if_neg (by decide), if_neg (by decide)]
        have e12 : shF f i j wide 1 2 = c := by rw [F0, if_neg (by decide), if_neg (by decide)]
        rw [e02, e01, e12] at t
        have gm : g < m := by show g < if 0 < f then f else 10; split <;> omega
        have q := Int.mul_le_mul_of_nonneg_left (show g + 1 ≤ m by omega) (show 0 ≤ 2 * c by omega)
        have e1 : g * (c + c) = 2 * c * g := by rw [show c + c = 2 * c by omega, Int.mul_comm]
        rw [Int.mul_add, Int.mul_one] at q
        omega
def sps : List (Str × (Nat → SpM)) := [(("is_distance" : Str), lev 0 spIsDist),
  (("is_square" : Str), lev 1 spIsSq),
  (("ways_round" : Str), lev 2 spWaysK),
  (("is_table" : Str), lev 3 spIsTable),
  (("_law_draws" : Str), lev 0 spDraws),
  (("_law_next" : Str), lev 0 spNext),
  (("_law_one" : Str), lev 1 spOne),
  (("_law_words" : Str), lev 0 spWords),
  (("_law_kind" : Str), lev 0 spNo),
  (("_law_lowered" : Str), lev 0 spLowB),
  (("_law_table" : Str), lev 2 spTableB),
  (("_law_shown" : Str), lev 0 spShown2),
  (("law" : Str), lev 9 spLaw),
  (("Kind.__init__" : Str), lev 0 spInitW),
  (("Kind.factor" : Str), lev 0 spFac),
  (("Kind.within" : Str), lev 0 spWithin),
  (("Kind.words" : Str), lev 0 spWrd)]
abbrev Γ (k : Nat) : Ctx := mkCtxR sps k
@[simp] theorem c_is_distance {k : Nat} {as : List PV} {h : MH} {Q : PK} {R : XV} : (Γ k).fn "is_distance" as h Q R = (0 < k ∧ (spIsDist).run as h Q R) := ctxR_lev rfl
@[simp] theorem c_is_square {k : Nat} {as : List PV} {h : MH} {Q : PK} {R : XV} : (Γ k).fn "is_square" as h Q R = (1 < k ∧ (spIsSq).run as h Q R) := ctxR_lev rfl
@[simp] theorem c_ways_round {k : Nat} {as : List PV} {h : MH} {Q : PK} {R : XV} : (Γ k).fn "ways_round" as h Q R = (2 < k ∧ (spWaysK).run as h Q R) := ctxR_lev rfl
@[simp] theorem c_is_table {k : Nat} {as : List PV} {h : MH} {Q : PK} {R : XV} : (Γ k).fn "is_table" as h Q R = (3 < k ∧ (spIsTable).run as h Q R) := ctxR_lev rfl
@[simp] theorem c__law_draws {k : Nat} {as : List PV} {h : MH} {Q : PK} {R : XV} : (Γ k).fn "_law_draws" as h Q R = (0 < k ∧ (spDraws).run as h Q R) := ctxR_lev rfl
@[simp] theorem c__law_next {k : Nat} {as : List PV} {h : MH} {Q : PK} {R : XV} : (Γ k).fn "_law_next" as h Q R = (0 < k ∧ (spNext).run as h Q R) := ctxR_lev rfl
@[simp] theorem c__law_one {k : Nat} {as : List PV} {h : MH} {Q : PK} {R : XV} : (Γ k).fn "_law_one" as h Q R = (1 < k ∧ (spOne).run as h Q R) := ctxR_lev rfl
@[simp] theorem c__law_words {k : Nat} {as : List PV} {h : MH} {Q : PK} {R : XV} : (Γ k).fn "_law_words" as h Q R = (0 < k ∧ (spWords).run as h Q R) := ctxR_lev rfl
@[simp] theorem c__law_kind {k : Nat} {as : List PV} {h : MH} {Q : PK} {R : XV} : (Γ k).fn "_law_kind" as h Q R = (0 < k ∧ (spNo).run as h Q R) := ctxR_lev rfl
@[simp] theorem c__law_lowered {k : Nat} {as : List PV} {h : MH} {Q : PK} {R : XV} : (Γ k).fn "_law_lowered" as h Q R = (0 < k ∧ (spLowB).run as h Q R) := ctxR_lev rfl
@[simp] theorem c__law_table {k : Nat} {as : List PV} {h : MH} {Q : PK} {R : XV} : (Γ k).fn "_law_table" as h Q R = (2 < k ∧ (spTableB).run as h Q R) := ctxR_lev rfl
@[simp] theorem c__law_shown {k : Nat} {as : List PV} {h : MH} {Q : PK} {R : XV} : (Γ k).fn "_law_shown" as h Q R = (0 < k ∧ (spShown2).run as h Q R) := ctxR_lev rfl
@[simp] theorem c_law {k : Nat} {as : List PV} {h : MH} {Q : PK} {R : XV} : (Γ k).fn "law" as h Q R = (9 < k ∧ (spLaw).run as h Q R) := ctxR_lev rfl
@[simp] theorem c_Kind___init__ {k : Nat} {as : List PV} {h : MH} {Q : PK} {R : XV} : (Γ k).fn "Kind.__init__" as h Q R = (0 < k ∧ (spInitW).run as h Q R) := ctxR_lev rfl
@[simp] theorem c1_Kind___init__ {k : Nat} {as : List PV} {h : MH} {Q : PK} {R : XV} : (Γ k).fn1 "Kind.__init__" as h Q R = (0 < k - 1 ∧ (spInitW).run as h Q R) := ctxR_lev1 rfl
@[simp] theorem c_Kind_factor {k : Nat} {as : List PV} {h : MH} {Q : PK} {R : XV} : (Γ k).fn "Kind.factor" as h Q R = (0 < k ∧ (spFac).run as h Q R) := ctxR_lev rfl
@[simp] theorem c1_Kind_factor {k : Nat} {as : List PV} {h : MH} {Q : PK} {R : XV} : (Γ k).fn1 "Kind.factor" as h Q R = (0 < k - 1 ∧ (spFac).run as h Q R) := ctxR_lev1 rfl
@[simp] theorem c_Kind_within {k : Nat} {as : List PV} {h : MH} {Q : PK} {R : XV} : (Γ k).fn "Kind.within" as h Q R = (0 < k ∧ (spWithin).run as h Q R) := ctxR_lev rfl
@[simp] theorem c1_Kind_within {k : Nat} {as : List PV} {h : MH} {Q : PK} {R : XV} : (Γ k).fn1 "Kind.within" as h Q R = (0 < k - 1 ∧ (spWithin).run as h Q R) := ctxR_lev1 rfl
@[simp] theorem c_Kind_words {k : Nat} {as : List PV} {h : MH} {Q : PK} {R : XV} : (Γ k).fn "Kind.words" as h Q R = (0 < k ∧ (spWrd).run as h Q R) := ctxR_lev rfl
@[simp] theorem c1_Kind_words {k : Nat} {as : List PV} {h : MH} {Q : PK} {R : XV} : (Γ k).fn1 "Kind.words" as h Q R = (0 < k - 1 ∧ (spWrd).run as h Q R) := ctxR_lev1 rfl
end
end Ev.Lw

set_option Elab.async false
set_option linter.all false
set_option maxRecDepth 100000
set_option maxHeartbeats 4000000
namespace Ev.Lw
open PySem PySem.Spec PyProof.Rows L2
section
variable {G : Ctx} {gl : Str → PV} {ρ : Env} {h : MH} {D : PEnds} {Q : PK} {R : XV} {ex : Env → XV} {k : Nat} {as : List PV}
theorem words_ok {i : Nat} (hi : i < 4) : (wl i).all PyData.strOk = true := by
  have : i = 0 ∨ i = 1 ∨ i = 2 ∨ i = 3 := by omega
  rcases this with rfl | rfl | rfl | rfl <;> decide +kernel
theorem in_both {i : Nat} (hi : i < 4) : cmpOp .in_ (.str "both") (words i) h Q = Q (.bl (hasB i)) h := words_in hi ok_both
theorem in_far {i : Nat} (hi : i < 4) : cmpOp .in_ (.str "far") (words i) h Q = Q (.bl (hasF i)) h := words_in hi ok_far
theorem o_notInS {a : Str} {xs : List Str} (ha : PyData.strOk a = true) (hx : xs.all PyData.strOk = true) : cmpOp .notIn (.str a) (.tup (xs.map .str)) h Q = Q (.bl (!xs.any fun z => z == a)) h := by
  have e1 : datL (deref h 5) (xs.map .str) = some (xs.map .str) := datL_map (t := PyData.str) fun _ _ => rfl
  obtain ⟨l1, l2⟩ := strs_lay hx
  have s1 : SeqAt.shaped (.str a) = true := (Fit.str (w := a.cps.size) ha (Nat.le_refl _)).shaped (by decide)
  have s2 : SeqAt.shaped (.list (xs.map .str)) = true := by
    unfold SeqAt.shaped
    simp only [PyData.canLay0, l1, PyData.depth, l2]
    decide
  show (∃ ys d ds, some (xs.map PV.str) = some ys ∧ dat h (.str a) = some d ∧ datL (deref h 5) ys = some ds ∧ SeqAt.shaped d = true ∧ SeqAt.shaped (.list ds) = true ∧ Q (.bl (true != ds.any fun z => PyData.eqv z d)) h) = _
  apply propext
  constructor
  · rintro ⟨ys, d, ds, e, e2, e3, _, _, q⟩
    cases e
    cases e2
    rw [e1] at e3
    cases e3
    rw [any_str, Bool.true_bne] at q
    exact q
  · intro q
    exact ⟨_, _, _, rfl, rfl, e1, s1, s2, by rw [any_str, Bool.true_bne]; exact q⟩
theorem notin_both {i : Nat} (hi : i < 4) : cmpOp .notIn (.str "both") (words i) h Q = Q (.bl (!hasB i)) h := o_notInS ok_both (words_ok hi)
theorem kd_num {f : Int} {i : Nat} : List.lookup ("number" : Str) [(("number" : Str), PV.int f), ("names", words i)] = some (.int f) := by
  simp only [List.lookup, eq_nn]
theorem kd_nam {f : Int} {i : Nat} : List.lookup ("names" : Str) [(("number" : Str), PV.int f), ("names", words i)] = some (words i) := by
  simp only [List.lookup, ne_nn2, eq_nm]
theorem t_Kind_factor {n0 : Nat} (_ : n0 < k + 1) (hs : spFac.run as h Q R) : wpSs (Γ k) gl ex s_Kind_factor (startE d_Kind_factor.N as) h (retE Q) := by
  obtain ⟨p, f, i, rfl, e, hq⟩ := hs
  show wpSs (Γ k) gl ex s_Kind_factor [some (.ref p)] h (retE Q)
  unfold s_Kind_factor
  simp only [x_cons, x_ret, x_fld, x_var0]
  exact ⟨p, _, _, rfl, e, kd_num, .now hq⟩
theorem t_Kind_words {n0 : Nat} (_ : n0 < k + 1) (hs : spWrd.run as h Q R) : wpSs (Γ k) gl ex s_Kind_words (startE d_Kind_words.N as) h (retE Q) := by
  obtain ⟨p, f, i, rfl, e, hq⟩ := hs
  show wpSs (Γ k) gl ex s_Kind_words [some (.ref p)] h (retE Q)
  unfold s_Kind_words
  simp only [x_cons, x_ret, x_fld, x_var0]
  exact ⟨p, _, _, rfl, e, kd_nam, .now hq⟩
theorem fil_words {i : Nat} (hi : i < 4) : (["both", "far"] : List Str).filterMap (fun w => if ((wl i).any fun z => z == w) = true then some (PV.str w) else none) = (wl i).map .str := by
  have : i = 0 ∨ i = 1 ∨ i = 2 ∨ i = 3 := by omega
  have e1 : (("far" : Str) == "both") = false := by decide +kernel
  have e2 : (("both" : Str) == "far") = false := by decide +kernel
  have e3 : (("far" : Str) == "far") = true := by decide +kernel
  have e4 : (("both" : Str) == "both") = true := by decide +kernel
  have n1 : (("both" : Str) = "far") = False := eq_false (by decide +kernel)
  have n2 : (("far" : Str) = "both") = False := eq_false (by decide +kernel)
  rcases this with rfl | rfl | rfl | rfl <;> simp [wl, e1, e2, e3, e4, n1, n2]
theorem wl_mem {i : Nat} (hi : i < 4) {w : Str} (hw : w ∈ wl i) : w = "both" ∨ w = "far" := by
  have : i = 0 ∨ i = 1 ∨ i = 2 ∨ i = 3 := by omega
  rcases this with rfl | rfl | rfl | rfl <;> simp [wl] at hw <;> simp [hw]
theorem t_no {ss : Ss} {N : List Str} {n0 : Nat} (_ : n0 < k + 1) (hs : spNo.run as h Q R) : wpSs (Γ k) gl ex ss (startE N as) h (retE Q) := hs.elim
/-! ### kinds made of words in any order -/
theorem WsOk.str {ws : List Str} {i : Nat} (o : WsOk ws i) : ∀ w ∈ ws, PyData.strOk w = true := fun w hw => by
  rcases o.mem w hw with rfl | rfl
  · exact ok_both
  · exact ok_far
theorem WsOk.all {ws : List Str} {i : Nat} (o : WsOk ws i) : ws.all PyData.strOk = true := List.all_eq_true.mpr o.str
theorem WsOk.fil {ws : List Str} {i : Nat} (o : WsOk ws i) : (["both", "far"] : List Str).filterMap (fun w => if (ws.any fun z => z == w) = true then some (PV.str w) else none) = (wl i).map .str := by
  rw [← fil_words o.i4]
  simp only [List.filterMap_cons, List.filterMap_nil]
  rw [o.b, o.f]
  rfl
theorem t_Kind___init__ {n0 : Nat} (hw : gl "WORDS" = .tup [.str "both", .str "far"]) (_ : n0 < k + 1) (hs : spInitW.run as h Q R) : wpSs (Γ k) gl ex s_Kind___init__ (startE d_Kind___init__.N as) h (retE Q) := by
  obtain ⟨p, f, i, ws, rfl, ok, hp, hq⟩ := hs
  show wpSs (Γ k) gl ex s_Kind___init__ [some (.ref p), some (.int f), some (.tup (ws.map .str)), none] h (retE Q)
  unfold s_Kind___init__
  have hW : gl "WORDS" = .tup ((["both", "far"] : List Str).map .str) := hw
  have okW : (["both", "far"] : List Str).all PyData.strOk = true := by decide +kernel
  refine x_cut (fun ρ h' => h = h' ∧ ∃ x, ρ = [some (.ref p), some (.int f), some (.tup (ws.map .str)), x]) ?_ ?_
  · refine x_forI ⟨ws.map .str, fun _ => True⟩ (fun _ ρ h' => h = h' ∧ ∃ x, ρ = [some (.ref p), some (.int f), some (.tup (ws.map .str)), x]) ?_ ⟨rfl, _, rfl⟩ ?_ ?_
    · intro Q q
      simp only [x_seq, x_varS, x_var0]
      exact ⟨_, rfl, q⟩
    · rintro j x _ h2 hx ⟨rfl, y, rfl⟩
      obtain ⟨w, hwm, rfl⟩ := List.mem_map.mp (List.mem_of_getElem? hx)
      refine ⟨trivial, _, rfl, ?_⟩
      have ok1 := ok.str w hwm
      have yes : ((["both", "far"] : List Str).any fun z => z == w) = true := by
        rcases ok.mem w hwm with rfl | rfl <;> decide +kernel
      simp only [x_cons, x_ifs, x_val, x_cmp, x_varS, x_var0, x_glob, List.set_cons_succ, List.set_cons_zero, hW, o_notInS ok1 okW, yes]
      exact ⟨false, rfl, rfl, _, rfl⟩
    · rintro _ h2 ⟨rfl, x, rfl⟩
      exact ⟨trivial, rfl, x, rfl⟩
  rintro _ _ ⟨rfl, x, rfl⟩
  simp only [x_cons, x_fst, x_varS, x_var0, x_bi, x_econs, x_enil, x_nil]
  refine ⟨p, [], rfl, hp, by decide, ?_⟩
  refine x_fmapT (["both", "far"] : List Str) .str (fun _ => True) (fun w => if (ws.any fun z => z == w) = true then some (PV.str w) else none) ?_ (by decide) trivial ?_ ?_
  · intro Q q
    simp only [x_seq, x_glob, hW]
    exact ⟨_, rfl, q⟩
  · intro w hwm
    refine ⟨_, rfl, ?_⟩
    have ok2 := List.all_eq_true.mp okW w hwm
    simp only [wipeE, List.map_cons, List.map_nil, List.set_cons_succ, List.set_cons_zero, x_val, x_cmp, x_varS, x_var0, o_inS ok2 ok.all]
    refine ⟨_, rfl, ?_⟩
    cases hz : ws.any (fun z => z == w) <;> simp
  · rw [ok.fil]
    simp only [allocL, Bool.false_eq_true, if_false, o_tupleL]
    refine ⟨p, _, rfl, mupd_same, (show (1 : Nat) < 1000 by decide), ?_⟩
    show Q .non _
    rw [mupd_mupd]
    have e : putA "names" (words i) (putA "number" (.int f) []) = [(("number" : Str), PV.int f), ("names", words i)] := by
      have e1 : ("number" : Str) ≠ "names" := by decide +kernel
      simp only [putA, e1, if_false]
    show Q .non (mupd h p (.ins "Kind" (putA "names" (words i) (putA "number" (.int f) []))))
    rw [e]
    exact hq
/-! ### the parts of kinds -/
theorem i_kd {P : Int → Nat → Nat → List PV → PV → Prop} (hs : (kdS P).run as h Q R) : ∃ (p : Addr) (f : Int) (i n : Nat) (bs : List PV) (v : PV), as = .ref p :: .int (n : Nat) :: bs ∧ KdO h p f i ∧ 2 ≤ n ∧ n ≤ 6 ∧ P f i n bs v ∧ Q v h := hs
theorem o_prpW {p : Addr} {f : Int} {i : Nat} {ρ : Env} {Q : PK} (hk : 0 < k - 1) (kd : KdO h p f i) (q : Q (words i) h) : wpE (Γ k) gl ex (.prp "Kind" "words" "Kind.words" (.var 0)) (some (.ref p) :: ρ) h Q := by
  simp only [x_prp, x_var0]
  exact ⟨p, _, rfl, kd.1, by rw [c1_Kind_words]; exact ⟨hk, p, f, i, rfl, kd.1, q⟩⟩
theorem o_prpF {p : Addr} {f : Int} {i : Nat} {ρ : Env} {Q : PK} (hk : 0 < k - 1) (kd : KdO h p f i) (q : Q (.int f) h) : wpE (Γ k) gl ex (.prp "Kind" "factor" "Kind.factor" (.var 0)) (some (.ref p) :: ρ) h Q := by
  simp only [x_prp, x_var0]
  exact ⟨p, _, rfl, kd.1, by rw [c1_Kind_factor]; exact ⟨hk, p, f, i, rfl, kd.1, q⟩⟩
theorem range_map {n : Nat} : rangeP 0 1 n = (List.range n).map fun j : Nat => PV.int j := by
  unfold rangeP
  simp
theorem w_rng {e : E} {ρ : Env} {n : Nat} {Q : Items → MH → Prop} (hn : n < 2 ^ 40) (he : ∀ P : PK, P (.int (n : Nat)) h → wpE G gl ex e ρ h P) (q : Q ⟨(List.range n).map fun j : Nat => PV.int j, fun _ => True⟩ h) : wpW G gl ex (.rng1 e) ρ h Q := by
  rw [x_rng1]
  refine he _ ⟨n, rfl, ⟨by omega, by omega⟩, ?_⟩
  rw [Int.toNat_natCast, range_map]
  exact q
theorem triK_len {n : Nat} (hn : n ≤ 6) : (Sv.triK n).length ≤ 216 := by
  have : n = 0 ∨ n = 1 ∨ n = 2 ∨ n = 3 ∨ n = 4 ∨ n = 5 ∨ n = 6 := by omega
  rcases this with rfl | rfl | rfl | rfl | rfl | rfl | rfl <;> decide +kernel
theorem waysK_len {f : Int} {b : Bool} {n : Nat} (hn : n ≤ 6) : (Sv.waysK f b n).length ≤ 216 := by
  unfold Sv.waysK
  split
  · simp
  · exact Nat.le_trans (List.length_filter_le _ _) (triK_len hn)
theorem pairsK_len {b : Bool} {n : Nat} (hn : n ≤ 6) : (Sv.pairsK b n).length ≤ 30 := by
  have : n = 0 ∨ n = 1 ∨ n = 2 ∨ n = 3 ∨ n = 4 ∨ n = 5 ∨ n = 6 := by omega
  rcases this with rfl | rfl | rfl | rfl | rfl | rfl | rfl <;> cases b <;> decide +kernel
theorem fmap_filter {α : Type} {p : α → Bool} {e : α → PV} : ∀ {l : List α}, l.filterMap (fun q => if p q = true then some (e q) else none) = (l.filter p).map e
  | [] => rfl
  | a :: l => by
    rw [List.filterMap_cons, List.filter_cons]
    cases h : p a
    · simp only [Bool.false_eq_true, if_false]; exact fmap_filter
    · simp only [if_true, List.map_cons]; rw [fmap_filter]
theorem t_ways_round (hk : 2 < k + 1) (hs : spWaysK.run as h Q R) : wpSs (Γ k) gl ex s_ways_round (startE d_ways_round.N as) h (retE Q) := by
  obtain ⟨p, f, i, n, bs, v, rfl, kd, n2, n6, ⟨rfl, rfl⟩, hq⟩ := i_kd hs
  show wpSs (Γ k) gl ex s_ways_round [some (.ref p), some (.int n), none, none, none, none] h (retE Q)
  unfold s_ways_round
  simp only [x_cons, x_ifs, x_val, x_cmp]
  refine o_prpF (by omega) kd ?_
  simp only [x_int, o_eqI]
  refine ⟨_, rfl, ?_⟩
  by_cases e : f = 0
  · subst e
    simp [retE]
    exact .now hq
  rw [beq_false_of_ne e]
  simp only [Bool.false_eq_true, if_false, x_nil, x_set, x_compN]
  refine cl_mapT (List.range n) (fun x : Nat => PV.int x) (fun _ => True) (fun x => (List.range n).flatMap fun y => (List.range n).flatMap fun z => [enc3K (x, y, z)]) ?_ trivial ?_ ?_ ?_
  · intro Q q
    exact w_rng (by omega) (fun P hp => by simp only [x_varS, x_var0]; exact hp) q
  · have := triK_len (n := n) n6
    unfold Sv.triK at this
    simp only [List.length_nil, Nat.zero_add]
    refine Nat.le_trans ?_ (show 216 ≤ sizeLine by decide)
    refine Nat.le_trans (Nat.le_of_eq ?_) this
    simp only [List.length_flatMap, List.length_singleton]
  · intro x hx acc K hl hK
    have hx := List.mem_range.mp hx
    refine ⟨_, rfl, ?_⟩
    simp only [List.map_cons, List.map_nil, wipeE, wpCs, x_tt, if_true, List.set_cons_succ, List.set_cons_zero]
    refine cl_mapT (List.range n) (fun x : Nat => PV.int x) (fun _ => True) (fun y => (List.range n).flatMap fun z => [enc3K (x, y, z)]) ?_ trivial ?_ ?_ ?_
    · intro Q q
      exact w_rng (by omega) (fun P hp => by simp only [x_varS, x_var0]; exact hp) q
    · exact hl
    · intro y hy acc K hl hK
      have hy := List.mem_range.mp hy
      refine ⟨_, rfl, ?_⟩
      simp only [List.map_cons, List.map_nil, wipeE, wpCs, x_tt, if_true, List.set_cons_succ, List.set_cons_zero]
      refine cl_mapT (List.range n) (fun x : Nat => PV.int x) (fun _ => True) (fun z => [enc3K (x, y, z)]) ?_ trivial ?_ ?_ ?_
      · intro Q q
        exact w_rng (by omega) (fun P hp => by simp only [x_varS, x_var0]; exact hp) q
      · exact hl
      · intro z hz acc K hl hK
        refine ⟨_, rfl, ?_⟩
        simp only [List.map_cons, List.map_nil, wipeE, x_tt, if_true, List.set_cons_succ, List.set_cons_zero]
        refine cl_nil ?_
        simp only [x_tup, x_econs, x_enil, x_varS, x_var0]
        refine ⟨(by decide : 3 ≤ sizeLine), ?_, hK⟩
        rw [List.length_singleton] at hl
        omega
      · exact hK
    · exact hK
  · have e3 : ((List.range n).flatMap fun x => (List.range n).flatMap fun y => (List.range n).flatMap fun z => [enc3K (x, y, z)]) = (Sv.triK n).map enc3K := by
      simp [Sv.triK, List.map_flatMap]
    rw [List.nil_append, e3]
    simp only [al_f, x_cons, x_ret, retE]
    refine x_fmapT (Sv.triK n) enc3K (fun _ => True) (fun q => if (decide (q.1 ≠ q.2.1 ∧ q.1 ≠ q.2.2 ∧ q.2.1 ≠ q.2.2) && (decide (q.1 < q.2.2) || !hasB i)) = true then some (enc3K q) else none) ?_ ?_ trivial ?_ ?_
    · intro Q q
      simp only [x_seq, List.set_cons_succ, List.set_cons_zero, x_varS, x_var0]
      exact ⟨_, rfl, q⟩
    · exact Nat.le_trans (triK_len n6) (by decide)
    · rintro ⟨x, y, z⟩ hm
      refine ⟨_, rfl, ?_⟩
      simp only [List.map_cons, List.map_nil, wipeE, List.set_cons_succ, List.set_cons_zero, x_andT, x_val, x_cmp, x_lens, x_econs, x_enil, x_varS, x_var0, x_int]
      refine ⟨[(x : Int), y, z], rfl, ?_⟩
      have ec : (((setCard [(x : Int), y, z] : Nat) : Int) == 3) = decide (x ≠ y ∧ x ≠ z ∧ y ≠ z) := by
        have c := card3 (x := (x : Int)) (y := y) (z := z)
        by_cases d : x ≠ y ∧ x ≠ z ∧ y ≠ z
        · rw [decide_eq_true d]
          have := c.mpr ⟨by omega, by omega, by omega⟩
          rw [this]; rfl
        · rw [decide_eq_false d]
          refine beq_false_of_ne fun e => d ?_
          have := c.mp (by omega)
          omega
      simp only [o_eqI, ec]
      refine ⟨_, rfl, ?_⟩
      by_cases d : x ≠ y ∧ x ≠ z ∧ y ≠ z
      · simp only [decide_eq_true d, if_true, Bool.true_and, x_orT, x_val, x_cmp, x_varS, x_var0, o_lt]
        refine ⟨_, rfl, ?_⟩
        by_cases l : x < z
        · have l2 : (x : Int) < z := by omega
          simp only [decide_eq_true l, decide_eq_true l2, if_true, Bool.true_or, x_tup, x_econs, x_enil, x_varS, x_var0]
          exact ⟨(by decide : 3 ≤ sizeLine), by first | trivial | rfl, by first | trivial | rfl⟩
        · have l2 : ¬ (x : Int) < z := by omega
          simp only [decide_eq_false l, decide_eq_false l2, Bool.false_eq_true, if_false, Bool.false_or, x_str]
          refine o_prpW (by omega) kd ?_
          rw [notin_both kd.2.1]
          refine ⟨_, rfl, ?_⟩
          cases hasB i
          · simp only [Bool.not_false, if_true, x_tup, x_econs, x_enil, x_varS, x_var0]
            exact ⟨(by decide : 3 ≤ sizeLine), by first | trivial | rfl, by first | trivial | rfl⟩
          · simp
      · simp only [decide_eq_false d, Bool.false_eq_true, if_false, Bool.false_and]
        exact ⟨by first | trivial | rfl, by first | trivial | rfl⟩
    · have ew : Sv.waysK f (hasB i) n = (Sv.triK n).filter fun q => decide (q.1 ≠ q.2.1 ∧ q.1 ≠ q.2.2 ∧ q.2.1 ≠ q.2.2) && (decide (q.1 < q.2.2) || !hasB i) := by
        unfold Sv.waysK
        rw [if_neg e]
      rw [al_f]
      refine .now ?_
      rw [ew] at hq
      rw [show (Sv.triK n).filterMap (fun q => if (decide (q.1 ≠ q.2.1 ∧ q.1 ≠ q.2.2 ∧ q.2.1 ≠ q.2.2) && (decide (q.1 < q.2.2) || !hasB i)) = true then some (enc3K q) else none) = ((Sv.triK n).filter fun q => decide (q.1 ≠ q.2.1 ∧ q.1 ≠ q.2.2 ∧ q.2.1 ≠ q.2.2) && (decide (q.1 < q.2.2) || !hasB i)).map enc3K from fmap_filter]
      exact hq
end
end Ev.Lw

set_option Elab.async false
set_option linter.all false
set_option maxRecDepth 100000
set_option maxHeartbeats 4000000
namespace Ev.Lw
open PySem PySem.Spec PyProof.Rows L2
section
variable {G : Ctx} {gl : Str → PV} {ρ : Env} {h : MH} {D : PEnds} {Q : PK} {R : XV} {ex : Env → XV} {k : Nat} {as : List PV}
/-! ### is it a table of the kind -/
theorem t_is_distance {n0 : Nat} (_ : n0 < k + 1) (hs : spIsDist.run as h Q R) : wpSs (Γ k) gl ex s_is_distance (startE d_is_distance.N as) h (retE Q) := by
  obtain ⟨v, ⟨i, rfl, rfl⟩, hq⟩ := hs
  show wpSs (Γ k) gl ex s_is_distance [some (.int i)] h (retE Q)
  unfold s_is_distance
  simp only [x_cons, x_nil, x_ret, x_and, x_isi, x_not, x_cmp, x_varS, x_var0, o_isiI, x_int, o_ge]
  refine ⟨true, congrArg PV.bl (by decide +kernel), ?_⟩
  rw [if_pos rfl]
  rw [show isB .bool "int" = false from by decide +kernel]
  exact ⟨true, rfl, by rw [if_pos rfl]; exact .now hq⟩
theorem ktb_iff {f : Int} {i n : Nat} {m : Int} {t : Tbl} (h0 : 0 ≤ f) (sq : Sq n m t) : KTb f i n t ↔ DgZ n t ∧ (hasB i = true → ∀ p ∈ Sv.pairsK false n, at2 t p.1 p.2 = at2 t p.2 p.1) ∧ (hasF i = true → ∀ p ∈ Sv.pairsK false n, at2 t p.1 p.2 ≠ 0) ∧
    ∀ w ∈ Sv.waysK f (hasB i) n, at2 t w.1 w.2.2 ≤ f * (at2 t w.1 w.2.1 + at2 t w.2.1 w.2.2) := by
  constructor
  · intro k
    refine ⟨fun x hx => k.dg x hx, fun hb p hp => ?_, fun hf p hp => ?_, fun w hw => ?_⟩
    · obtain ⟨x, y⟩ := p
      obtain ⟨a, b, _⟩ := Sv.mem_pairsK.mp hp
      exact k.sy hb x y a b
    · obtain ⟨x, y⟩ := p
      obtain ⟨a, b, c, _⟩ := Sv.mem_pairsK.mp hp
      have := k.fa hf x y a b c
      show at2 t x y ≠ 0
      omega
    · obtain ⟨x, y, z⟩ := w
      obtain ⟨a, b, c, d, e1, e2, e3, _⟩ := Sv.mem_waysK.mp hw
      exact k.tr a x y z b c d e1 e3 e2
  · rintro ⟨dg, sy, fa, tr⟩
    have sy2 : hasB i = true → ∀ x y, x < n → y < n → at2 t x y = at2 t y x := fun hb x y hx hy => by
      by_cases e : x = y
      · rw [e]
      · exact sy hb (x, y) (Sv.mem_pairsK.mpr ⟨hx, hy, e, .inr rfl⟩)
    refine ⟨fun x y hx hy => (sq.cell hx hy).1, dg, sy2, fun hf x y hx hy ne => ?_, fun hf x y z hx hy hz a b c => ?_⟩
    · have := fa hf (x, y) (Sv.mem_pairsK.mpr ⟨hx, hy, ne, .inr rfl⟩)
      have p := (sq.cell hx hy).1
      have : at2 t x y ≠ 0 := this
      omega
    · by_cases c2 : x < z ∨ hasB i = false
      · exact tr (x, y, z) (Sv.mem_waysK.mpr ⟨hf, hx, hy, hz, a, c, b, c2⟩)
      · have hb : hasB i = true := by cases e : hasB i <;> simp_all
        have := tr (z, y, x) (Sv.mem_waysK.mpr ⟨hf, hz, hy, hx, Ne.symm b, Ne.symm c, Ne.symm a, .inl (by omega)⟩)
        have : at2 t z x ≤ f * (at2 t z y + at2 t y x) := this
        rw [sy2 hb x z hx hz, sy2 hb x y hx hy, sy2 hb y z hy hz, Int.add_comm]
        exact this
theorem t_is_square (hk : 1 < k + 1) (hs : spIsSq.run as h Q R) : wpSs (Γ k) gl ex s_is_square (startE d_is_square.N as) h (retE Q) := by
  obtain ⟨v, ⟨n, m, t, b, rfl, sq, n2, n6, hb, rfl⟩, hq⟩ := hs
  show wpSs (Γ k) gl ex s_is_square [some (.tup (t.map fun r => .tup (r.map .int))), none, none, none] h (retE Q)
  unfold s_is_square
  have tl := sq.1
  refine x_cut (fun ρ h' => h = h' ∧ ρ = [some (.tup (t.map fun r => .tup (r.map .int))), none, none, none]) ?_ ?_
  · simp only [x_ifs, x_orT, x_notT, x_val, x_isi, x_varS, x_var0, o_isiT]
    refine ⟨true, (show true = isB .tuple "tuple" by decide +kernel), ?_⟩
    simp only [Bool.not_true, Bool.false_eq_true, if_false, x_val, x_cmp, x_bi, x_econs, x_enil, x_varS, x_var0, o_lenT, x_int, List.length_map, o_lt]
    refine ⟨_, rfl, ?_⟩
    rw [decide_eq_false (show ¬ (t.length : Int) < 2 by omega)]
    simp only [Bool.false_eq_true, if_false, x_nil]
    exact ⟨by first | trivial | rfl, by first | trivial | rfl⟩
  rintro _ _ ⟨rfl, rfl⟩
  refine x_cut (fun ρ h' => h = h' ∧ DgZ n t) ?_ ?_
  · refine x_forI ⟨enumP (t.map fun r => .tup (r.map .int)), fun _ => True⟩ (fun j ρ h' => h = h' ∧ (∀ x, x < j → at2 t x x = 0) ∧ ∃ x1 x2, ρ = [some (.tup (t.map fun r => .tup (r.map .int))), x1, x2, none]) ?_ ⟨rfl, fun _ z => absurd z (Nat.not_lt_zero _), _, _, rfl⟩ ?_ ?_
    · intro P hP
      simp only [x_enum, x_varS, x_var0]
      exact ⟨_, .inr rfl, hP⟩
    · rintro j x _ _ hx ⟨rfl, ok, x1, x2, rfl⟩
      have hj : j < n := by
        have := (List.getElem?_eq_some_iff.mp hx).1
        rwa [show (⟨enumP (t.map fun r => PV.tup (r.map .int)), fun _ => True⟩ : Items).xs.length = n from by show (enumP _).length = n; rw [enumP_len, List.length_map, tl]] at this
      have hx : (enumP (t.map fun r => PV.tup (r.map .int)))[j]? = some x := hx
      obtain ⟨er, lr, _⟩ := sq.row hj
      rw [enumP_get (by rw [List.length_map]; omega), List.getD_eq_getElem?_getD, List.getElem?_map, er] at hx
      have hx : some (PV.tup [.int (j : Nat), .tup ((t[j]?.getD []).map .int)]) = some x := hx
      cases hx
      have pos : ∀ z ∈ t[j]?.getD [], 0 ≤ z := fun z hz => ((sq.2 _ (sq.row hj).2.2).2 z hz).1
      have dj : (t[j]?.getD [])[j]?.getD 0 = at2 t j j := rfl
      have aj : L2.atI ((t[j]?.getD []).map PV.int) j = some (.int (at2 t j j)) := Mat.at sq hj hj
      generalize t[j]?.getD [] = r at lr pos dj aj ⊢
      refine ⟨trivial, _, rfl, ?_⟩
      refine x_cut (fun ρ h' => h = h' ∧ ρ = [some (.tup (t.map fun r => .tup (r.map .int))), some (.int (j : Nat)), some (.tup (r.map .int)), none]) ?_ ?_
      · simp only [List.set_cons_succ, List.set_cons_zero, x_ifs, x_orT, x_notT, x_val, x_isi, x_varS, x_var0, o_isiT]
        refine ⟨true, (show true = isB .tuple "tuple" by decide +kernel), ?_⟩
        simp only [Bool.not_true, Bool.false_eq_true, if_false, x_orT, x_val, x_cmp, x_bi, x_econs, x_enil, x_varS, x_var0, o_lenT, List.length_map, o_neI]
        refine ⟨_, rfl, ?_⟩
        rw [show ((r.length : Int) != (t.length : Int)) = false from by rw [lr, tl]; simp]
        simp only [Bool.false_eq_true, if_false, x_notT, x_val, x_bi, x_econs, x_enil]
        refine x_mapT r PV.int (fun _ => True) (fun _ => PV.bl true) ?_ (by rw [lr, sizeLine_eq]; omega) trivial ?_ ?_
        · intro P hP
          simp only [x_seq, x_varS, x_var0]
          exact ⟨_, rfl, hP⟩
        · intro z hz
          refine ⟨_, rfl, ?_⟩
          simp only [List.map_cons, List.map_nil, wipeE, List.set_cons_succ, List.set_cons_zero, x_fn, x_econs, x_enil, x_varS, x_var0]
          rw [c_is_distance]
          exact ⟨by omega, _, ⟨z, rfl, rfl⟩, by first | trivial | rfl, by rw [decide_eq_true (pos z hz)]⟩
        · rw [al_f, show (r.map fun _ => PV.bl true) = (r.map fun _ => true).map .bl from by rw [List.map_map]; rfl, o_allL]
          refine ⟨_, rfl, ?_⟩
          rw [show (r.map fun _ => true).all id = true from by simp]
          simp only [Bool.not_true, Bool.false_eq_true, if_false, x_nil]
          exact ⟨by first | trivial | rfl, by first | trivial | rfl⟩
      rintro _ _ ⟨rfl, rfl⟩
      simp only [x_cons, x_nil, x_ifs, x_val, x_cmp, x_ix, x_varS, x_var0, o_ixT, x_int]
      refine ⟨_, aj, ?_⟩
      rw [o_neI]
      refine ⟨_, rfl, ?_⟩
      by_cases e : at2 t j j = 0
      · rw [e]
        simp only [bne_self_eq_false, Bool.false_eq_true, if_false]
        refine ⟨by first | trivial | rfl, fun x hx => ?_, _, _, rfl⟩
        by_cases z : x = j
        · rw [z]; exact e
        · exact ok x (by omega)
      · rw [show (at2 t j j != 0) = true from by simpa using e, if_pos rfl]
        simp only [x_cons, x_ret, x_bl, retE]
        have : b = false := by
          cases hbb : b with
          | false => rfl
          | true => exact absurd (hb.mp hbb j hj) e
        rw [this] at hq
        exact .now hq
    · rintro _ _ ⟨rfl, ok, x1, x2, rfl⟩
      rw [show (⟨enumP (t.map fun r => PV.tup (r.map .int)), fun _ => True⟩ : Items).xs.length = n from by show (enumP _).length = n; rw [enumP_len, List.length_map, tl]] at ok
      exact ⟨trivial, rfl, ok⟩
  rintro ρ _ ⟨rfl, dz⟩
  simp only [x_cons, x_ret, x_bl, retE]
  have : b = true := hb.mpr dz
  rw [this] at hq
  exact .now hq
theorem eT_at {n : Nat} {m : Int} {t : Tbl} (sq : Sq n m t) {P : PK} {x y : Nat} (hx : x < n) (hy : y < n) (q : P (.int (at2 t x y)) h) : opIx (eT t) (.int (x : Nat)) h fun v h1 => opIx v (.int (y : Nat)) h1 P := by
  unfold eT
  rw [o_ixT]
  refine ⟨_, tab_at sq hx, ?_⟩
  rw [o_ixT]
  exact ⟨_, Mat.at sq hx hy, q⟩
def enc2K (p : Nat × Nat) : PV := .tup [.int (p.1 : Nat), .int (p.2 : Nat)]
theorem t_is_table (hk : 3 < k + 1) (hs : spIsTable.run as h Q R) : wpSs (Γ k) gl ex s_is_table (startE d_is_table.N as) h (retE Q) := by
  obtain ⟨p, f, i, n, m, t, b, rfl, kd, n2, n6, sq, hb, hq⟩ := hs
  show wpSs (Γ k) gl ex s_is_table [some (.ref p), some (eT t), none, none, none, none, none] h (retE Q)
  unfold s_is_table
  rw [ktb_iff kd.2.2.1 sq] at hb
  have no : b = false → wpSs (Γ k) gl ex (.cons (.ret (.bl false)) .nil) [some (.ref p), some (eT t), none, none, none, none, none] h (retE Q) := fun e => by
    rw [e] at hq
    simp only [x_cons, x_ret, x_bl, retE]
    exact .now hq
  have bf : ∀ {P : Prop}, ¬ P → (b = true → P) → b = false := fun np g => by
    cases hbb : b with
    | false => rfl
    | true => exact absurd (g hbb) np
  have tl : ∀ {m : Bool} {P : PK}, P (.int (n : Nat)) h → biOp m .len [eT t] h P := fun {m P} q => by
    unfold eT
    rw [o_lenT, List.length_map, sq.1]; exact q
  by_cases dz : DgZ n t
  rotate_left
  · simp only [x_cons, x_ifs, x_notT, x_val, x_fn, x_econs, x_enil, x_varS, x_var0]
    rw [c_is_square]
    refine ⟨by omega, _, ⟨n, m, t, false, rfl, sq, n2, n6, ⟨fun z => (by cases z), fun z => absurd z dz⟩, rfl⟩, _, rfl, ?_⟩
    rw [if_pos (show (!false) = true from rfl)]
    rw [bf dz fun z => (hb.mp z).1] at hq
    simp only [x_ret, x_bl, retE]
    exact .now hq
  refine x_cut (fun ρ h' => h = h' ∧ ρ = [some (.ref p), some (eT t), none, none, none, none, none]) ?_ ?_
  · simp only [x_ifs, x_notT, x_val, x_fn, x_econs, x_enil, x_varS, x_var0]
    rw [c_is_square]
    refine ⟨by omega, _, ⟨n, m, t, true, rfl, sq, n2, n6, ⟨fun _ => dz, fun _ => rfl⟩, rfl⟩, _, rfl, ?_⟩
    rw [if_neg (by decide)]
    simp only [x_nil]
    exact ⟨by first | trivial | rfl, by first | trivial | rfl⟩
  rintro _ _ ⟨rfl, rfl⟩
  refine x_cut (fun ρ h' => h = h' ∧ ρ = [some (.ref p), some (eT t), some (.lst ((Sv.pairsK false n).map enc2K)), none, none, none, none]) ?_ ?_
  · simp only [x_set, x_compN]
    refine cl_mapT (List.range n) (fun x : Nat => PV.int x) (fun _ => True) (fun x => (List.range n).flatMap fun y => if x ≠ y ∧ (x < y ∨ false = false) then [enc2K (x, y)] else []) ?_ trivial ?_ ?_ ?_
    · intro Q q
      exact w_rng (n := n) (by omega) (fun P hp => by simp only [x_bi, x_econs, x_enil, x_varS, x_var0]; exact tl hp) q
    · have := pairsK_len (b := false) (n := n) n6
      simp only [List.length_nil, Nat.zero_add]
      refine Nat.le_trans ?_ (show 30 ≤ sizeLine by decide)
      refine Nat.le_trans (Nat.le_of_eq ?_) this
      unfold Sv.pairsK
      simp only [List.length_flatMap]
      refine congrArg List.sum (List.map_congr_left fun x _ => congrArg List.sum (List.map_congr_left fun y _ => ?_))
      split <;> rfl
    · intro x hx acc K hl hK
      refine ⟨_, rfl, ?_⟩
      simp only [List.map_cons, List.map_nil, wipeE, wpCs, x_tt, if_true, List.set_cons_succ, List.set_cons_zero]
      refine cl_mapT (List.range n) (fun x : Nat => PV.int x) (fun _ => True) (fun y => if x ≠ y ∧ (x < y ∨ false = false) then [enc2K (x, y)] else []) ?_ trivial ?_ ?_ ?_
      · intro Q q
        exact w_rng (n := n) (by omega) (fun P hp => by simp only [x_bi, x_econs, x_enil, x_varS, x_var0]; exact tl hp) q
      · exact hl
      · intro y hy acc K hl hK
        refine ⟨_, rfl, ?_⟩
        simp only [List.map_cons, List.map_nil, wipeE, wpCs, x_val, x_cmp, x_varS, x_var0, List.set_cons_succ, List.set_cons_zero, o_neI]
        refine ⟨_, rfl, ?_⟩
        by_cases e : x = y
        · subst e
          rw [if_neg (by simp), List.append_nil] at hK
          simp only [bne_self_eq_false, Bool.false_eq_true, if_false]
          exact hK
        · have e2 : ((x : Int) != (y : Int)) = true := by
            have : ¬ ((x : Int) = y) := by omega
            simpa using this
          rw [if_pos ⟨e, .inr rfl⟩] at hl hK
          simp only [e2, if_true]
          refine cl_nil ?_
          rw [List.length_singleton] at hl
          simp only [x_tup, x_econs, x_enil, x_varS, x_var0]
          exact ⟨(by decide : 2 ≤ sizeLine), by omega, hK⟩
      · exact hK
    · have e : ((List.range n).flatMap fun x => (List.range n).flatMap fun y => if x ≠ y ∧ (x < y ∨ false = false) then [enc2K (x, y)] else []) = (Sv.pairsK false n).map enc2K := by
        have e0 : (fun x : Nat => (List.range n).flatMap fun y => if x ≠ y ∧ (x < y ∨ false = false) then [enc2K (x, y)] else []) = fun x => ((List.range n).flatMap fun y => if x ≠ y ∧ (x < y ∨ false = false) then [(x, y)] else []).map enc2K := by
          funext x
          rw [List.map_flatMap]
          congr 1
          funext y
          split <;> rfl
        unfold Sv.pairsK
        rw [List.map_flatMap, e0]
      rw [List.nil_append, e, al_f]
      exact ⟨by first | trivial | rfl, rfl⟩
  rintro _ _ ⟨rfl, rfl⟩
  have no : b = false → wpSs (Γ k) gl ex (.cons (.ret (.bl false)) .nil) [some (.ref p), some (eT t), some (.lst ((Sv.pairsK false n).map enc2K)), none, none, none, none] h (retE Q) := fun e => by
    rw [e] at hq
    simp only [x_cons, x_ret, x_bl, retE]
    exact .now hq
  have pl := pairsK_len (b := false) (n := n) n6
  -- both ways alike
  by_cases sy : hasB i = true → ∀ p ∈ Sv.pairsK false n, at2 t p.1 p.2 = at2 t p.2 p.1
  rotate_left
  · have hB : hasB i = true := Classical.byContradiction fun z => sy fun z2 => absurd z2 z
    have ns : ¬ ∀ p ∈ Sv.pairsK false n, at2 t p.1 p.2 = at2 t p.2 p.1 := fun z => sy fun _ => z
    simp only [x_cons, x_ifs, x_andT, x_val, x_cmp, x_str]
    refine o_prpW (by omega) kd ?_
    rw [in_both kd.2.1]
    refine ⟨_, rfl, ?_⟩
    rw [hB, if_pos rfl]
    refine x_fmapT (Sv.pairsK false n) enc2K (fun _ => True) (fun p => if decide (at2 t p.1 p.2 ≠ at2 t p.2 p.1) = true then some (PV.int 1) else none) ?_ (by rw [sizeLine_eq]; omega) trivial ?_ ?_
    · intro P hP
      simp only [x_seq, x_varS, x_var0]
      exact ⟨_, rfl, hP⟩
    · rintro ⟨x, y⟩ hm
      obtain ⟨a1, a2, a3, _⟩ := Sv.mem_pairsK.mp hm
      refine ⟨_, rfl, ?_⟩
      simp only [List.map_cons, List.map_nil, wipeE, List.set_cons_succ, List.set_cons_zero, x_val, x_cmp, x_ix, x_varS, x_var0]
      refine eT_at sq a1 a2 (eT_at sq a2 a1 ?_)
      rw [o_neI]
      refine ⟨_, rfl, ?_⟩
      by_cases e : at2 t x y = at2 t y x
      · simp [e]
      · simp [e, bne_iff_ne]
    · rw [al_f, x_lst, x_enil, al_f, o_neEL]
      refine ⟨by decide, _, rfl, ?_⟩
      have : ((Sv.pairsK false n).filterMap fun p => if decide (at2 t p.1 p.2 ≠ at2 t p.2 p.1) = true then some (PV.int 1) else none).isEmpty = false := by
        rw [Bool.eq_false_iff]
        intro z
        rw [List.isEmpty_iff, List.filterMap_eq_nil_iff] at z
        refine ns fun p hp => Classical.byContradiction fun e => ?_
        have := z p hp
        rw [if_pos (decide_eq_true e)] at this
        cases this
      rw [this, if_pos (by decide)]
      exact no (bf ns fun z => (hb.mp z).2.1 hB)
  refine x_cut (fun ρ h' => h = h' ∧ ρ = [some (.ref p), some (eT t), some (.lst ((Sv.pairsK false n).map enc2K)), none, none, none, none]) ?_ ?_
  · simp only [x_ifs, x_andT, x_val, x_cmp, x_str]
    refine o_prpW (by omega) kd ?_
    rw [in_both kd.2.1]
    refine ⟨_, rfl, ?_⟩
    by_cases hB : hasB i = true
    rotate_left
    · rw [if_neg hB, if_neg Bool.false_ne_true]
      simp only [x_nil]
      exact ⟨by first | trivial | rfl, by first | trivial | rfl⟩
    rw [if_pos hB]
    refine x_fmapT (Sv.pairsK false n) enc2K (fun _ => True) (fun p => none) ?_ (by rw [sizeLine_eq]; omega) trivial ?_ ?_
    · intro P hP
      simp only [x_seq, x_varS, x_var0]
      exact ⟨_, rfl, hP⟩
    · rintro ⟨x, y⟩ hm
      obtain ⟨a1, a2, a3, _⟩ := Sv.mem_pairsK.mp hm
      refine ⟨_, rfl, ?_⟩
      simp only [List.map_cons, List.map_nil, wipeE, List.set_cons_succ, List.set_cons_zero, x_val, x_cmp, x_ix, x_varS, x_var0]
      refine eT_at sq a1 a2 (eT_at sq a2 a1 ?_)
      rw [o_neI]
      refine ⟨_, rfl, ?_⟩
      have e : at2 t x y = at2 t y x := sy hB _ hm
      simp [e]
    · rw [al_f, x_lst, x_enil, al_f, o_neEL]
      refine ⟨by decide, _, rfl, ?_⟩
      rw [show ((Sv.pairsK false n).filterMap fun p => (none : Option PV)) = [] from List.filterMap_eq_nil_iff.mpr fun _ _ => rfl]
      simp only [List.isEmpty_nil, Bool.not_true, Bool.false_eq_true, if_false, x_nil]
      exact ⟨by first | trivial | rfl, by first | trivial | rfl⟩
  rintro _ _ ⟨rfl, rfl⟩
  by_cases fa : hasF i = true → ∀ p ∈ Sv.pairsK false n, at2 t p.1 p.2 ≠ 0
  rotate_left
  · have hF : hasF i = true := Classical.byContradiction fun z => fa fun z2 => absurd z2 z
    have ns : ¬ ∀ p ∈ Sv.pairsK false n, at2 t p.1 p.2 ≠ 0 := fun z => fa fun _ => z
    simp only [x_cons, x_ifs, x_andT, x_val, x_cmp, x_str]
    refine o_prpW (by omega) kd ?_
    rw [in_far kd.2.1]
    refine ⟨_, rfl, ?_⟩
    rw [hF, if_pos rfl]
    refine x_fmapT (Sv.pairsK false n) enc2K (fun _ => True) (fun p => if decide (at2 t p.1 p.2 = 0) = true then some (PV.int 1) else none) ?_ (by rw [sizeLine_eq]; omega) trivial ?_ ?_
    · intro P hP
      simp only [x_seq, x_varS, x_var0]
      exact ⟨_, rfl, hP⟩
    · rintro ⟨x, y⟩ hm
      obtain ⟨a1, a2, a3, _⟩ := Sv.mem_pairsK.mp hm
      refine ⟨_, rfl, ?_⟩
      simp only [List.map_cons, List.map_nil, wipeE, List.set_cons_succ, List.set_cons_zero, x_val, x_cmp, x_ix, x_varS, x_var0]
      refine eT_at sq a1 a2 ?_
      rw [x_int, o_eqI]
      refine ⟨_, rfl, ?_⟩
      by_cases e : at2 t x y = 0
      · simp [e]
      · simp [e, beq_eq_false_iff_ne]
    · rw [al_f, x_lst, x_enil, al_f, o_neEL]
      refine ⟨by decide, _, rfl, ?_⟩
      have : ((Sv.pairsK false n).filterMap fun p => if decide (at2 t p.1 p.2 = 0) = true then some (PV.int 1) else none).isEmpty = false := by
        rw [Bool.eq_false_iff]
        intro z
        rw [List.isEmpty_iff, List.filterMap_eq_nil_iff] at z
        refine ns fun p hp e => ?_
        have := z p hp
        rw [if_pos (decide_eq_true e)] at this
        cases this
      rw [this, if_pos (by decide)]
      exact no (bf ns fun z => (hb.mp z).2.2.1 hF)
  refine x_cut (fun ρ h' => h = h' ∧ ρ = [some (.ref p), some (eT t), some (.lst ((Sv.pairsK false n).map enc2K)), none, none, none, none]) ?_ ?_
  · simp only [x_ifs, x_andT, x_val, x_cmp, x_str]
    refine o_prpW (by omega) kd ?_
    rw [in_far kd.2.1]
    refine ⟨_, rfl, ?_⟩
    by_cases hF : hasF i = true
    rotate_left
    · rw [if_neg hF, if_neg Bool.false_ne_true]
      simp only [x_nil]
      exact ⟨by first | trivial | rfl, by first | trivial | rfl⟩
    rw [if_pos hF]
    refine x_fmapT (Sv.pairsK false n) enc2K (fun _ => True) (fun p => none) ?_ (by rw [sizeLine_eq]; omega) trivial ?_ ?_
    · intro P hP
      simp only [x_seq, x_varS, x_var0]
      exact ⟨_, rfl, hP⟩
    · rintro ⟨x, y⟩ hm
      obtain ⟨a1, a2, a3, _⟩ := Sv.mem_pairsK.mp hm
      refine ⟨_, rfl, ?_⟩
      simp only [List.map_cons, List.map_nil, wipeE, List.set_cons_succ, List.set_cons_zero, x_val, x_cmp, x_ix, x_varS, x_var0]
      refine eT_at sq a1 a2 ?_
      rw [x_int, o_eqI]
      refine ⟨_, rfl, ?_⟩
      have e : at2 t x y ≠ 0 := fa hF _ hm
      simp [beq_eq_false_iff_ne.mpr e]
    · rw [al_f, x_lst, x_enil, al_f, o_neEL]
      refine ⟨by decide, _, rfl, ?_⟩
      rw [show ((Sv.pairsK false n).filterMap fun p => (none : Option PV)) = [] from List.filterMap_eq_nil_iff.mpr fun _ _ => rfl]
      simp only [List.isEmpty_nil, Bool.not_true, Bool.false_eq_true, if_false, x_nil]
      exact ⟨by first | trivial | rfl, by first | trivial | rfl⟩
  rintro _ _ ⟨rfl, rfl⟩
  have wl6 := waysK_len (f := f) (b := hasB i) (n := n) n6
  simp only [x_cons, x_nil, x_set, x_fn, x_econs, x_enil, x_bi, x_varS, x_var0]
  refine tl ?_
  rw [c_ways_round]
  refine ⟨by omega, p, f, i, n, [], _, rfl, kd, n2, n6, ⟨rfl, rfl⟩, ?_⟩
  simp only [List.set_cons_succ, List.set_cons_zero, x_ret, x_bi, x_econs, x_enil]
  let ok : Nat × Nat × Nat → Bool := fun w => decide (at2 t w.1 w.2.2 ≤ f * (at2 t w.1 w.2.1 + at2 t w.2.1 w.2.2))
  refine x_mapT (Sv.waysK f (hasB i) n) enc3K (fun _ => True) (fun w => PV.bl (ok w)) ?_ (by rw [sizeLine_eq]; omega) trivial ?_ ?_
  · intro P hP
    simp only [x_seq, x_varS, x_var0]
    exact ⟨_, rfl, hP⟩
  · rintro ⟨x, y, z⟩ hm
    obtain ⟨_, a1, a2, a3, _⟩ := Sv.mem_waysK.mp hm
    refine ⟨_, rfl, ?_⟩
    simp only [List.map_cons, List.map_nil, wipeE, List.set_cons_succ, List.set_cons_zero, x_cmp, x_ix, x_bin, x_varS, x_var0]
    refine eT_at sq a1 a3 (o_prpF (by omega) kd ?_)
    refine eT_at sq a1 a2 (eT_at sq a2 a3 ?_)
    rw [o_add, o_mul, o_le]
    exact ⟨cmL (by have := kd.2.2; omega), by first | trivial | rfl, by first | trivial | rfl⟩
  · rw [al_f, show ((Sv.waysK f (hasB i) n).map fun w => PV.bl (ok w)) = ((Sv.waysK f (hasB i) n).map ok).map .bl from by rw [List.map_map]; rfl, o_allL]
    refine .now ?_
    have : ((Sv.waysK f (hasB i) n).map ok).all id = b := by
      rw [Bool.eq_iff_iff, hb, List.all_map, List.all_eq_true]
      constructor
      · exact fun z => ⟨dz, sy, fa, fun w hw => by simpa [ok] using z w hw⟩
      · exact fun z w hw => by simpa [ok] using z.2.2.2 w hw
    rw [this]
    exact hq
/-! ### one kind within another -/
theorem kl_num {a b : PV} : List.lookup ("number" : Str) [("number", a), ("names", b)] = some a := by
  simp only [List.lookup, eq_nn]
theorem kl_nam {a b : PV} : List.lookup ("names" : Str) [("number", a), ("names", b)] = some b := by
  simp only [List.lookup, ne_nn2, eq_nm]
theorem within_words {i j : Nat} (hi : i < 4) (hj : j < 4) : ((wl j).filterMap fun w => if (!(wl i).any fun z => z == w) = true then some (PV.str w) else none).isEmpty = ((!hasB j || hasB i) && (!hasF j || hasF i)) := by
  have h1 : i = 0 ∨ i = 1 ∨ i = 2 ∨ i = 3 := by omega
  have h2 : j = 0 ∨ j = 1 ∨ j = 2 ∨ j = 3 := by omega
  rcases h1 with rfl | rfl | rfl | rfl <;> rcases h2 with rfl | rfl | rfl | rfl <;> decide +kernel
theorem t_Kind_within {n0 : Nat} (_ : n0 < k + 1) (hs : spWithin.run as h Q R) : wpSs (Γ k) gl ex s_Kind_within (startE d_Kind_within.N as) h (retE Q) := by
  obtain ⟨p, q, f, g, i, j, rfl, kp, kq, hq⟩ := hs
  show wpSs (Γ k) gl ex s_Kind_within [some (.ref p), some (.ref q), none] h (retE Q)
  unfold s_Kind_within
  have nm : ∀ {ρ : Env} {P : PK}, P (words i) h → wpE (Γ k) gl (fun _ => noX) (.fld "Kind" "names" (.var 0)) (some (.ref p) :: ρ) h P := fun {ρ P} z => by
    simp only [x_fld, x_var0]
    exact ⟨p, _, _, rfl, kp.1, kl_nam, z⟩
  have okj := List.all_eq_true.mp (words_ok kq.2.1)
  simp only [x_cons, x_ifs, x_val, x_cmp]
  refine x_fmapT (wl j) .str (fun _ => True) (fun w => if (!(wl i).any fun z => z == w) = true then some (PV.str w) else none) ?_ ?_ trivial ?_ ?_
  · intro P hP
    simp only [x_seq, x_fld, x_varS, x_var0]
    exact ⟨q, _, _, rfl, kq.1, kl_nam, _, rfl, hP⟩
  · have := kq.2.1
    have : j = 0 ∨ j = 1 ∨ j = 2 ∨ j = 3 := by omega
    rcases this with rfl | rfl | rfl | rfl <;> decide
  · intro w hw
    refine ⟨_, rfl, ?_⟩
    simp only [List.map_cons, List.map_nil, wipeE, List.set_cons_succ, List.set_cons_zero, x_val, x_cmp, x_varS, x_var0]
    refine nm ?_
    show cmpOp .notIn (.str w) (.tup ((wl i).map .str)) h _
    rw [o_notInS (okj w hw) (words_ok kp.2.1)]
    refine ⟨_, rfl, ?_⟩
    cases (wl i).any fun z => z == w <;> simp
  · rw [al_f, x_lst, x_enil, al_f, o_neEL, within_words kp.2.1 kq.2.1]
    refine ⟨by decide, _, rfl, ?_⟩
    unfold withinB at hq
    generalize ((!hasB j || hasB i) && (!hasF j || hasF i)) = A at hq ⊢
    cases A with
    | false =>
      rw [Bool.false_and] at hq
      rw [if_pos (show (!false) = true from rfl)]
      simp only [x_cons, x_ret, x_bl, retE]
      exact .now hq
    | true =>
      rw [Bool.true_and] at hq
      rw [if_neg (show ¬ (!true) = true by decide)]
      simp only [x_nil, x_cons, x_ret, x_or, x_cmp, x_chain, x_fld, x_varS, x_var0, retE]
      refine ⟨q, _, _, rfl, kq.1, kl_num, ?_⟩
      rw [x_int, o_eqI]
      refine ⟨_, rfl, ?_⟩
      by_cases e : g = 0
      · rw [e, beq_self_eq_true, if_pos rfl]
        rw [decide_eq_true e, Bool.true_or] at hq
        exact .now hq
      · rw [beq_false_of_ne e, if_neg Bool.false_ne_true]
        rw [decide_eq_false e, Bool.false_or] at hq
        rw [x_int]
        refine ⟨p, _, _, rfl, kp.1, kl_num, ?_⟩
        rw [o_le]
        refine ⟨_, rfl, ?_⟩
        by_cases e2 : 1 ≤ f
        · rw [decide_eq_true e2, if_pos rfl]
          rw [decide_eq_true e2, Bool.true_and] at hq
          refine ⟨q, _, _, rfl, kq.1, kl_num, ?_⟩
          rw [o_le]
          exact .now hq
        · rw [decide_eq_false e2, if_neg Bool.false_ne_true]
          rw [decide_eq_false e2, Bool.false_and] at hq
          exact .now hq
def bits (a b : Bool) : Nat := (if a then 1 else 0) + (if b then 2 else 0)
theorem bits_words {a b : Bool} : (if a then [PV.str "both"] else []) ++ (if b then [PV.str "far"] else []) = (wl (bits a b)).map .str := by
  cases a <;> cases b <;> rfl
theorem bits_has {a b : Bool} : hasB (bits a b) = a ∧ hasF (bits a b) = b ∧ bits a b < 4 := by
  cases a <;> cases b <;> decide +kernel
end
end Ev.Lw

set_option Elab.async false
set_option linter.all false
set_option maxRecDepth 100000
set_option maxHeartbeats 4000000
namespace Ev.Lw
open PySem PySem.Spec PyProof.Rows L2
section
variable {G : Ctx} {gl : Str → PV} {ρ : Env} {h : MH} {D : PEnds} {Q : PK} {R : XV} {ex : Env → XV} {k : Nat} {as : List PV}
theorem t__law_draws {n0 : Nat} (_ : n0 < k + 1) (hs : spDraws.run as h Q R) : wpSs (Γ k) gl ex s__law_draws (startE d__law_draws.N as) h (retE Q) := by
  obtain ⟨ns, rfl, hl, hq⟩ := i_draws hs
  show wpSs (Γ k) gl ex s__law_draws [some (.scr (ns.map .int)), none, none, none] h (retE Q)
  unfold s__law_draws
  simp [retE]
  refine ⟨cmL (by omega), ?_⟩
  obtain ⟨m, em⟩ := cut_head (xs := ns.map .int) (n := 60)
  refine x_forI ⟨cutP (ns.map .int) none (some 60), fun _ => True⟩ (fun _ ρ h' => h' = h ∧ ∃ a b x, 0 ≤ a ∧ ρ = [some (.scr (ns.map .int)), some (.int a), some (.int b), x]) (fun Q q => ?_) ⟨rfl, _, _, _, Int.le_refl 0, rfl⟩ ?_ ?_
  · simp [q]
  · rintro i x ρ h2 hx ⟨rfl, a, b, x1, ha, rfl⟩
    have hx : x ∈ cutP (ns.map .int) none (some 60) := List.mem_of_getElem? hx
    rw [show ((60 : Int)) = ((60 : Nat) : Int) from rfl, em] at hx
    obtain ⟨n, _, rfl⟩ := List.mem_map.mp (List.mem_of_mem_take hx)
    simp
    refine ⟨cmR (by omega), cmL (by omega), by unfold CPow; omega, ?_⟩
    by_cases z : (n.natAbs : Int) < 1000000000000000000
    · exact .inl ⟨z, ha⟩
    · exact .inr ⟨by omega, cmR (by omega), by omega⟩
  · rintro ρ h2 ⟨rfl, a, b, x1, ha, rfl⟩
    simp
    exact fun p hp => .now (hq p a b 0 hp ha)
theorem t__law_next {n0 : Nat} (_ : n0 < k + 1) (hs : spNext.run as h Q R) : wpSs (Γ k) gl ex s__law_next (startE d__law_next.N as) h (retE Q) := by
  obtain ⟨p, n, rfl, ⟨a, b, c, hp, ha⟩, h0, h1, hq⟩ := i_next hs
  unfold dr at hp
  show wpSs (Γ k) gl ex s__law_next [some (.ref p), some (.int n), none, none] h (retE Q)
  unfold s__law_next
  simp [hp, retE, L2.ixN]
  by_cases z : a ≤ 0
  · refine .inl ⟨z, cmL (by omega), cmR (by omega), cmR (by omega), cdw (by omega) (by omega), h0, .now (hq _ _ _ _ (by omega) (Int.emod_nonneg _ (by omega)) (Int.emod_lt_of_pos _ h0))⟩
  · exact .inr ⟨by omega, h0, cdw h0 h1, .now (hq _ _ _ _ (Int.ediv_nonneg (by omega) (by omega)) (Int.emod_nonneg _ (by omega)) (Int.emod_lt_of_pos _ h0))⟩
theorem t__law_one (hk : 1 < k + 1) (hs : spOne.run as h Q R) : wpSs (Γ k) gl ex s__law_one (startE d__law_one.N as) h (retE Q) := by
  obtain ⟨p, x, xs, rfl, hx, hd, h0, h1, hq⟩ := i_one hs
  show wpSs (Γ k) gl ex s__law_one [some (.ref p), some x] h (retE Q)
  unfold s__law_one
  have l0 := List.length_pos_iff.mpr h0
  have key : ∀ (d a b c : Int), 0 ≤ a → 0 ≤ d → d < xs.length → ∃ v, L2.atI xs d = some v ∧ Rt Q v (mupd h p (dr a b c)) := by
    intro d a b c z1 z2 z3
    rw [atI_nat (n := d.toNat) (by omega) (by omega)]
    have hd : d.toNat < xs.length := by omega
    exact ⟨_, List.getElem?_eq_getElem hd, .now (hq _ _ _ _ z1 (List.getElem_mem hd))⟩
  rcases hx with rfl | rfl
  · simp [retE]
    exact ⟨by omega, hd, l0, by omega, key⟩
  · simp [retE]
    exact ⟨by omega, hd, l0, by omega, key⟩
end
end Ev.Lw

set_option Elab.async false
set_option linter.all false
set_option maxRecDepth 100000
set_option maxHeartbeats 4000000
namespace Ev.Lw
open PySem PySem.Spec PyProof.Rows L2
section
variable {G : Ctx} {gl : Str → PV} {ρ : Env} {h : MH} {D : PEnds} {Q : PK} {R : XV} {ex : Env → XV} {k : Nat} {as : List PV}
/-! ### lowering by turns -/
/-- up to an entry the new ones, then the old ones -/
def partF (F G : Fn2) (x z : Nat) : Fn2 := fun a c => if a < x ∨ (a = x ∧ c < z) then G a c else F a c
theorem partF_row {F G : Fn2} {n x a c : Nat} (hc : c < n) : partF F G (x + 1) 0 a c = partF F G x n a c := by
  unfold partF
  by_cases h : a < x ∨ (a = x ∧ c < n)
  · rw [if_pos h, if_pos (by omega)]
  · rw [if_neg h, if_neg (by omega)]
theorem partF_0 {F G : Fn2} : partF F G 0 0 = F := by
  funext a c
  unfold partF
  rw [if_neg (by omega)]
theorem partF_n {F G : Fn2} {n a c : Nat} (ha : a < n) : partF F G n 0 a c = G a c := by
  unfold partF
  rw [if_pos (by omega)]
theorem partF_step {F G : Fn2} {x z a c : Nat} : partF F G x (z + 1) a c = if a = x ∧ c = z then G x z else partF F G x z a c := by
  unfold partF
  by_cases h : a = x ∧ c = z
  · obtain ⟨rfl, rfl⟩ := h
    rw [if_pos (by omega), if_pos ⟨rfl, rfl⟩]
  · rw [if_neg h]
    by_cases h2 : a < x ∨ (a = x ∧ c < z)
    · rw [if_pos h2, if_pos (by omega)]
    · rw [if_neg h2, if_neg (by omega)]
theorem t__law_lowered {n0 : Nat} (_ : n0 < k + 1) (hs : spLowB.run as h Q R) : wpSs (Γ k) gl ex s__law_lowered (startE d__law_lowered.N as) h (retE Q) := by
  obtain ⟨q, f, n, qs, F, rfl, M0, n20, f1, f100, hq⟩ := hs
  show wpSs (Γ k) gl ex s__law_lowered [some (.int f), some (.ref q), none, none, none, none] h (retE Q)
  unfold s__law_lowered
  let J : Fn2 → MH → Prop := fun G h' => MatE h' q qs n (iE G) ∧ ∀ p, p ∉ qs → h' p = h p
  have lenR : ∀ {G : Fn2} {h' : MH} {x2 x3 x4 x5 : Option PV} {P : Items → MH → Prop}, J G h' → P ⟨rangeP 0 1 n, fun _ => True⟩ h' → wpW (Γ k) gl ex (.rng1 (.bi false .len (.cons (.var 1) .nil))) [some (.int f), some (.ref q), x2, x3, x4, x5] h' P := fun {G h' x2 x3 x4 x5 P} j hp => by
    have l := j.1.len
    have t := j.1.top
    simp [t, l]
    exact ⟨by omega, hp⟩
  refine x_cut (fun ρ h' => J (lowN f n n F) h' ∧ ∃ x2 x3 x4 x5, ρ = [some (.int f), some (.ref q), x2, x3, x4, x5]) ?_ ?_
  · refine x_forR 0 n (fun i ρ h' => J (lowN f n i F) h' ∧ ∃ x2 x3 x4 x5, ρ = [some (.int f), some (.ref q), x2, x3, x4, x5]) (fun P hp => lenR (G := F) ⟨M0, fun _ _ => rfl⟩ hp) ⟨⟨M0, fun _ _ => rfl⟩, _, _, _, _, rfl⟩ ?_ fun _ _ z => z
    rintro i _ h1 hi ⟨j1, x2, x3, x4, x5, rfl⟩
    refine ⟨_, rfl, ?_⟩
    refine x_cut (fun ρ h' => J (preF f n (lowN f n i F)) h' ∧ ∃ x3 x4 x5, ρ = [some (.int f), some (.ref q), some (.int (0 + (i : Int))), x3, x4, x5]) ?_ fun ρ h' ⟨j, x3, x4, x5, e⟩ => by subst e; exact ⟨j, _, _, _, _, rfl⟩
    refine x_forR 0 n (fun y ρ h' => J (preF f y (lowN f n i F)) h' ∧ ∃ x3 x4 x5, ρ = [some (.int f), some (.ref q), some (.int (0 + (i : Int))), x3, x4, x5]) (fun P hp => lenR j1 hp) ⟨j1, _, _, _, rfl⟩ ?_ fun _ _ z => z
    rintro y _ h2 hy ⟨j2, x3, x4, x5, rfl⟩
    refine ⟨_, rfl, ?_⟩
    let P := preF f y (lowN f n i F)
    let S := sweep f y P
    change J P h2 at j2
    have p0 : J (partF P S 0 0) h2 := by rw [partF_0]; exact j2
    refine x_cut (fun ρ h' => J (partF P S n 0) h' ∧ ∃ x4 x5, ρ = [some (.int f), some (.ref q), some (.int (0 + (i : Int))), some (.int (0 + (y : Int))), x4, x5]) ?_ fun ρ h' ⟨j, x4, x5, e⟩ => by
      subst e
      exact ⟨⟨j.1.congr fun a c ha _ => congrArg PV.int (partF_n ha).symm, j.2⟩, _, _, _, rfl⟩
    refine x_forR 0 n (fun x ρ h' => J (partF P S x 0) h' ∧ ∃ x4 x5, ρ = [some (.int f), some (.ref q), some (.int (0 + (i : Int))), some (.int (0 + (y : Int))), x4, x5]) (fun P hp => lenR j2 hp) ⟨p0, _, _, rfl⟩ ?_ fun _ _ z => z
    rintro x _ h3 hx ⟨j3, x4, x5, rfl⟩
    refine ⟨_, rfl, ?_⟩
    refine x_cut (fun ρ h' => J (partF P S x n) h' ∧ ∃ x5, ρ = [some (.int f), some (.ref q), some (.int (0 + (i : Int))), some (.int (0 + (y : Int))), some (.int (0 + (x : Int))), x5]) ?_ fun ρ h' ⟨j, x5, e⟩ => by
      subst e
      exact ⟨⟨j.1.congr fun a c _ hc => congrArg PV.int (partF_row hc), j.2⟩, _, _, rfl⟩
    refine x_forR 0 n (fun z ρ h' => J (partF P S x z) h' ∧ ∃ x5, ρ = [some (.int f), some (.ref q), some (.int (0 + (i : Int))), some (.int (0 + (y : Int))), some (.int (0 + (x : Int))), x5]) (fun P hp => lenR j3 hp) ⟨j3, _, rfl⟩ ?_ fun _ _ z => z
    rintro z _ h4 hz ⟨⟨M, ho⟩, x5, rfl⟩
    refine ⟨_, rfl, ?_⟩
    obtain ⟨px, ex1, ex2, ex3⟩ := M.get hx
    obtain ⟨py, ey1, ey2, ey3⟩ := M.get hy
    have axz := rowE_at (E := iE (partF P S x z)) (i := x) hz
    have axy := rowE_at (E := iE (partF P S x z)) (i := x) hy
    have ayz := rowE_at (E := iE (partF P S x z)) (i := y) hz
    have ix := ixN_nat (n := (rowE n (iE (partF P S x z)) x).length) (i := z) (by rw [rowE_len]; exact hz)
    have vxz : partF P S x z x z = P x z := by unfold partF; rw [if_neg (by omega)]
    simp only [x_cons, x_nil, x_ifs, x_andT, x_val, x_cmp, x_varS, x_var0]
    simp [M.top, ex2, ex3, ey2, ey3, axz, axy, ayz, ix]
    have keep : (¬ (x ≠ y ∧ y ≠ z ∧ x ≠ z)) → J (partF P S x (z + 1)) h4 := fun c => ⟨M.congr fun a b _ _ => by
      show PV.int (partF P S x (z + 1) a b) = .int (partF P S x z a b)
      rw [partF_step]
      split
      · rename_i e
        obtain ⟨rfl, rfl⟩ := e
        rw [vxz]
        show PV.int (sweep f y P a b) = _
        unfold sweep
        rw [if_neg c]
      · rfl, ho⟩
    by_cases c1 : (x : Int) = y
    · exact .inl ⟨c1, keep (by omega)⟩
    refine .inr ⟨c1, ?_⟩
    by_cases c2 : (y : Int) = z
    · exact .inl ⟨c2, keep (by omega)⟩
    refine .inr ⟨c2, ?_⟩
    by_cases c3 : (x : Int) = z
    · exact .inl ⟨c3, keep (by omega)⟩
    refine .inr ⟨c3, ?_⟩
    have vxy : partF P S x z x y = P x y := by
      unfold partF
      split
      · show sweep f y P x y = _
        unfold sweep
        rw [if_neg (by omega)]
      · rfl
    have vyz : partF P S x z y z = P y z := by
      unfold partF
      split
      · show sweep f y P y z = _
        unfold sweep
        rw [if_neg (by omega)]
      · rfl
    simp [iE, vxy, vyz, vxz]
    simp [M.top, ex2, ex3, ix]
    refine ⟨cmL (by omega), M.put hz ex1 fun a b _ _ => ?_, fun p hp => ?_⟩
    · show PV.int (partF P S x (z + 1) a b) = _
      rw [partF_step]
      split
      · show PV.int (sweep f y P x z) = _
        unfold sweep
        rw [if_pos (by omega)]
      · rfl
    · rw [mupd_ne (fun e => hp (by rw [e]; exact List.mem_of_getElem? ex1))]
      exact ho p hp
  rintro _ h1 ⟨j, x2, x3, x4, x5, rfl⟩
  simp only [x_cons, x_nil, x_ret, x_varS, x_var0]
  exact .now (hq _ j.1 j.2)
end
end Ev.Lw

set_option Elab.async false
set_option linter.all false
set_option maxRecDepth 100000
set_option maxHeartbeats 4000000
namespace Ev.Lw
open PySem PySem.Spec PyProof.Rows L2
section
variable {G : Ctx} {gl : Str → PV} {ρ : Env} {h : MH} {D : PEnds} {Q : PK} {R : XV} {ex : Env → XV} {k : Nat} {as : List PV}
/-! ### drawn tables -/
/-- what a made matrix keeps -/
structure MB (p : Addr) (h h' : MH) (q : Addr) (qs : List Addr) (m n : Nat) (F : Fn2) : Prop where
  kp : Kp p h h'
  mt : MatR h' q qs m n (iE F)
  nq : h q = none
  pq : p ≠ q
  new : ∀ a ∈ qs, h a = none ∧ p ≠ a
theorem MB.dr {p q : Addr} {h h' : MH} {qs : List Addr} {m n : Nat} {F : Fn2} {a b c : Int} (x : MB p h h' q qs m n F) (ha : 0 ≤ a) : MB p h (mupd h' p (Ev.dr a b c)) q qs m n F :=
  ⟨x.kp.dr ha, x.mt.sub fun b hb => by
    rcases hb with rfl | hb
    · exact mupd_ne (Ne.symm x.pq)
    · exact mupd_ne (Ne.symm (x.new b hb).2), x.nq, x.pq, x.new⟩
theorem kp_no {p q : Addr} {h h' : MH} (k : Kp p h h') (hq : h' q = none) : h q = none ∧ p ≠ q := by
  have n : p ≠ q := fun e => by
    obtain ⟨⟨a, b, c, e2, _⟩, _⟩ := k
    rw [← e, e2] at hq; cases hq
  refine ⟨?_, n⟩
  cases z : h q with
  | none => rfl
  | some o => rw [k.2 q o (Ne.symm n) z] at hq; cases hq
theorem kp_sub {p : Addr} {h h1 h2 : MH} (k : Kp p h h1) (s : SubH h1 h2) : Kp p h h2 := by
  obtain ⟨⟨a, b, c, e, z⟩, k2⟩ := k
  exact ⟨⟨a, b, c, s _ _ e, z⟩, fun b' o n e2 => s _ _ (k2 b' o n e2)⟩
theorem low_hi {f : Int} {n m : Nat} {F : Fn2} {hi : Int} (h : ∀ a c, F a c ≤ hi) (a c : Nat) : lowN f n m F a c ≤ hi := Int.le_trans (lowN_le a c m) (h a c)
/-- the drawn numbers are a table of the kind -/
structure Drn (i n m : Nat) (F : Fn2) : Prop where
  pos : ∀ a c, 0 ≤ F a c
  hi : ∀ a c, F a c ≤ 1000
  dg : ∀ a, F a a = 0
  fa : hasF i = true → ∀ a c, a < m → c < n → a ≠ c → 1 ≤ F a c
theorem kt_low {i n : Nat} {f : Int} {F : Fn2} (d : Drn i n n F) (hs : hasB i = true → ∀ a c, F a c = F c a) (f1 : 1 ≤ f) : Sv.KT f (hasB i) (hasF i) n (lowN f n n F) where
  nn := fun a c _ _ => low_pos (by omega) d.pos a c
  dg := fun a _ => low_diag a (d.dg a)
  sy := fun hb a c _ _ => low_sym n (hs hb) a c
  fa := fun hf a c ha hc ne => low_lo f1 (by decide) d.pos (d.fa hf) a c ha hc ne
  tr := fun _ x y z _ hy _ h1 h2 h3 => low_tri f1 d.pos hy h1 h2 h3
theorem kt_raw {i n : Nat} {F : Fn2} (d : Drn i n n F) (hs : hasB i = true → ∀ a c, F a c = F c a) : Sv.KT 0 (hasB i) (hasF i) n F where
  nn := fun a c _ _ => d.pos a c
  dg := fun a _ => d.dg a
  sy := fun hb a c _ _ => hs hb a c
  fa := fun hf a c ha hc ne => d.fa hf a c ha hc ne
  tr := fun z => absurd rfl z
theorem t__law_table (hk : 2 < k + 1) (hs : spTableB.run as h Q R) : wpSs (Γ k) gl ex s__law_table (startE d__law_table.N as) h (retE Q) := by
  obtain ⟨p, _, rfl, hd, ⟨f, wi, n, rfl, i4, n2, n10, f0, f1⟩, hq⟩ := i_draw hs
  show wpSs (Γ k) gl ex s__law_table [some (.ref p), some (.int n), some (.int f), some (words wi), none, none, none, none, none] h (retE Q)
  unfold s__law_table
  refine x_cut (fun ρ h' => ∃ w q, ρ = [some (.ref p), some (.int n), some (.int f), some (words wi), some (.int w), some (.ref q), none, none, none] ∧ 0 < w ∧ w ≤ 1000 ∧ MB p h h' q [] 0 n (fun _ _ => 0)) ?_ ?_
  · simp
    refine ⟨by omega, hd, fun v a b c z1 z2 => ?_⟩
    obtain ⟨w, rfl, w0, w1⟩ : ∃ w, v = .int w ∧ 0 < w ∧ w ≤ 1000 := by
      rcases z2 with rfl | rfl | rfl | rfl | rfl | rfl <;> exact ⟨_, rfl, by omega, by omega⟩
    intro q hq0
    have k0 : Kp p h (mupd h p (dr a b c)) := .of z1
    obtain ⟨hq1, pq⟩ := kp_no k0 hq0
    exact ⟨w, q, ⟨rfl, rfl⟩, w0, w1, k0.upd hq1 pq, ⟨mupd_same, rfl, (fun i p e => by rw [List.getElem?_nil] at e; cases e), (fun i j p e => by rw [List.getElem?_nil] at e; cases e), List.not_mem_nil⟩, hq1, pq, (fun _ z => nomatch z)⟩
  rintro _ h1 ⟨w, q, rfl, w0, w1, mb⟩
  refine x_cut (fun ρ h' => ∃ qs F x6, ρ = [some (.ref p), some (.int n), some (.int f), some (words wi), some (.int w), some (.ref q), x6, none, none] ∧ MB p h h' q qs n n F ∧ Drn wi n n F) ?_ ?_
  · refine x_forR 0 n (fun i ρ h' => ∃ qs F x6, ρ = [some (.ref p), some (.int n), some (.int f), some (words wi), some (.int w), some (.ref q), x6, none, none] ∧ MB p h h' q qs i n F ∧ Drn wi n i F) ?_ ⟨[], _, _, rfl, mb, fun _ _ => Int.le_refl _, fun _ _ => by decide, fun _ => rfl, fun _ a c h => absurd h (Nat.not_lt_zero _)⟩ ?_ fun _ _ z => z
    · intro P hp
      simp
      exact ⟨by omega, hp⟩
    rintro i _ h2 hi ⟨qs, F, x6, rfl, mb, dn⟩
    refine ⟨_, rfl, ?_⟩
    simp only [List.set_cons_succ, List.set_cons_zero, x_cons, x_nil, x_expr, x_app, x_varS, x_var0, o_refL]
    refine ⟨⟨_, mb.mt.top⟩, ?_⟩
    refine x_compR 0 n (fun j acc h3 => ∃ r : List Int, acc = r.map .int ∧ r.length = j ∧ MB p h h3 q qs i n F ∧ (∀ x ∈ r, 0 ≤ x ∧ x ≤ 1000) ∧ ∀ c, c < j → (c = i → r[c]? = some 0) ∧ (hasF wi = true → c ≠ i → 1 ≤ r[c]?.getD 0)) ?_ (by rw [sizeLine_eq]; omega) ⟨[], rfl, rfl, mb, (fun _ z => nomatch z), fun c hc => absurd hc (Nat.not_lt_zero _)⟩ ?_ ?_
    · intro P hp
      simp
      exact ⟨by omega, hp⟩
    · rintro j acc h3 hj ⟨r, rfl, rl, mb, hr, hc⟩
      refine ⟨_, rfl, ?_⟩
      simp [wipeE]
      have fin : ∀ (v : Int) (h4 : MH), MB p h h4 q qs i n F → 0 ≤ v → v ≤ 1000 → (j = i → v = 0) → (hasF wi = true → j ≠ i → 1 ≤ v) → ∃ r_1 : List Int, r.map PV.int ++ [.int v] = r_1.map .int ∧ r_1.length = j + 1 ∧ MB p h h4 q qs i n F ∧ (∀ x ∈ r_1, 0 ≤ x ∧ x ≤ 1000) ∧ ∀ c, c < j + 1 → (c = i → r_1[c]? = some 0) ∧ (hasF wi = true → ¬ c = i → 1 ≤ r_1[c]?.getD 0) := fun v h4 mb v0 v1 e1 e2 => by
        refine ⟨r ++ [v], by rw [List.map_append]; rfl, by rw [List.length_append, rl]; rfl, mb, fun x hx => ?_, fun c hc' => ?_⟩
        · rcases List.mem_append.mp hx with hx | hx
          · exact hr x hx
          · cases List.mem_singleton.mp hx; exact ⟨v0, v1⟩
        · by_cases e : c < j
          · rw [List.getElem?_append_left (by omega)]; exact hc c e
          · have : c = j := by omega
            subst this
            rw [List.getElem?_append_right (by omega), rl, Nat.sub_self]
            exact ⟨fun z => by rw [e1 z]; rfl, fun hf z => e2 hf z⟩
      by_cases e : (i : Int) = j
      · exact .inr ⟨e, fin 0 h3 mb (by decide) (by decide) (fun _ => rfl) (fun _ z => absurd (by omega) z)⟩
      · refine .inl ⟨e, ?_⟩
        rw [in_far i4]
        show biOp true .int [.bl (hasF wi)] h3 _
        rw [o_intB]
        refine ⟨by omega, mb.kp.1, w0, by omega, fun d a b c z1 z2 z3 => ?_⟩
        show binOp true .add (.int _) (.int d) _ _
        rw [o_add]
        exact fin _ _ (mb.dr z1) (by split <;> omega) (by split <;> omega) (fun z => absurd (by omega) e) (fun hf _ => by rw [if_pos hf]; omega)
    · rintro acc h3 ⟨r, rfl, rl, mb, hr, hc⟩
      rw [al_t]
      intro b hb
      have bq : b ≠ q := fun e => by rw [e, mb.mt.top] at hb; cases hb
      have live : ∀ c ∈ qs, c ≠ b := fun c hc z => by
        obtain ⟨j, hj, ej⟩ := List.mem_iff_getElem.mp hc
        have := mb.mt.row j c (by rw [List.getElem?_eq_getElem hj, ej])
        rw [z, hb] at this; cases this
      have top2 : (mupd h3 b (.lst (r.map .int))) q = some (.lst (qs.map .ref)) := by rw [mupd_ne (Ne.symm bq)]; exact mb.mt.top
      show meOp .append (.ref q) [.ref b] _ _
      rw [o_appR]
      refine ⟨_, top2, by rw [List.length_map, mb.mt.len, sizeLine_eq]; omega, ?_⟩
      let F2 : Fn2 := fun a c => if a = i then r[c]?.getD 0 else F a c
      obtain ⟨hb1, pb⟩ := kp_no mb.kp hb
      have rng : ∀ c : Nat, 0 ≤ r[c]?.getD 0 ∧ r[c]?.getD 0 ≤ 1000 := fun c => by
        cases e : r[c]? with
        | none => exact ⟨by decide, by decide⟩
        | some v => exact hr v (List.mem_of_getElem? e)
      refine ⟨qs ++ [b], F2, _, rfl, ⟨(mb.kp.upd hb1 pb).upd mb.nq mb.pq, ?_, mb.nq, mb.pq, fun c hc => ?_⟩, fun a c => ?_, fun a c => ?_, fun a => ?_, fun hf a c ha hc' ne => ?_⟩
      · rw [show (qs.map PV.ref ++ [PV.ref b]) = (qs ++ [b]).map .ref by rw [List.map_append]; rfl]
        refine mb.mt.add (h2 := mupd h3 b (.lst (r.map .int))) (fun c hc => ?_) hb ?_ fun a c ha _ => ?_
        · rcases hc with rfl | hc
          · exact mupd_ne (Ne.symm bq)
          · exact mupd_ne (live c hc)
        · rw [mupd_same]
          congr 2
          refine List.ext_getElem? fun c => ?_
          unfold rowE
          by_cases hcn : c < n
          · rw [List.getElem?_map, List.getElem?_map, List.getElem?_range hcn, List.getElem?_eq_getElem (by omega), Option.map_some, Option.map_some]
            show some (PV.int r[c]) = some (.int (if i = i then r[c]?.getD 0 else F i c))
            rw [if_pos rfl, List.getElem?_eq_getElem (by omega)]; rfl
          · rw [List.getElem?_eq_none (by rw [List.length_map]; omega), List.getElem?_eq_none (by rw [List.length_map, List.length_range]; omega)]
        · show PV.int (if a = i then r[c]?.getD 0 else F a c) = .int (F a c)
          rw [if_neg (by omega)]
      · rcases List.mem_append.mp hc with hc | hc
        · exact mb.new c hc
        · cases List.mem_singleton.mp hc; exact ⟨hb1, pb⟩
      · show 0 ≤ if a = i then r[c]?.getD 0 else F a c
        split
        · exact (rng c).1
        · exact dn.pos a c
      · show (if a = i then r[c]?.getD 0 else F a c) ≤ 1000
        split
        · exact (rng c).2
        · exact dn.hi a c
      · show (if a = i then r[a]?.getD 0 else F a a) = 0
        split
        · rename_i e
          subst e
          rw [(hc a hi).1 rfl]; rfl
        · exact dn.dg a
      · show 1 ≤ if a = i then r[c]?.getD 0 else F a c
        split
        · rename_i e
          exact (hc c hc').2 hf (by omega)
        · exact dn.fa hf a c (by omega) hc' ne
  rintro _ h2 ⟨qs, F, x6, rfl, mb, dn⟩
  refine x_cut (fun ρ h' => ∃ q qs F x6 x7, ρ = [some (.ref p), some (.int n), some (.int f), some (words wi), some (.int w), some (.ref q), x6, x7, none] ∧ MB p h h' q qs n n F ∧ Drn wi n n F ∧ (hasB wi = true → ∀ a c, F a c = F c a)) ?_ ?_
  · simp only [x_ifs, x_val, x_cmp, x_str, x_varS, x_var0]
    rw [in_both i4]
    refine ⟨_, rfl, ?_⟩
    cases hB : hasB wi with
    | false =>
      rw [if_neg (by decide)]
      simp only [x_nil]
      exact ⟨q, qs, F, _, _, rfl, mb, dn, fun z => by cases z⟩
    | true =>
      rw [if_pos rfl]
      simp only [x_cons, x_nil, x_set]
      let F2 : Fn2 := fun a c => F (min a c) (max a c)
      have lr : ∀ {P : Items → MH → Prop} {ρ : Env} {h' : MH}, wpE (Γ k) gl (fun _ => noX) (.var 1) ρ h' (fun v h2 => h2 = h' ∧ v = .int (n : Nat)) → P ⟨(List.range n).map fun j : Nat => PV.int j, fun _ => True⟩ h' → wpW (Γ k) gl (fun _ => noX) (.rng1 (.var 1)) ρ h' P := fun {P ρ h'} he hp => by
        refine w_rng (n := n) (by omega) (fun P2 hp2 => ?_) hp
        exact monE _ _ _ _ _ _ (fun v h2 ⟨e1, e2⟩ => by subst e1 e2; exact hp2) he
      refine x_matE n (iE F2) (fun _ => True) (fun j : Nat => PV.int j) ?_ (by rw [sizeLine_eq]; omega) (fun _ _ => trivial) ?_ ?_
      · intro P hp
        refine w_rng (n := n) (by omega) (fun P2 hp2 => ?_) hp
        simp only [x_varS, x_var0]
        exact hp2
      · intro i hi h3 s3
        refine ⟨_, rfl, ?_⟩
        have mt3 := mb.mt.sub (h' := h3) fun b hb => by
          rcases hb with rfl | hb
          · rw [mb.mt.top]; exact s3 _ _ mb.mt.top
          · obtain ⟨j, hj, ej⟩ := List.mem_iff_getElem.mp hb
            have := mb.mt.row j b (by rw [List.getElem?_eq_getElem hj, ej])
            rw [this]; exact s3 _ _ this
        refine x_mapT (List.range n) (fun j : Nat => PV.int j) (fun _ => True) (fun j => iE F2 i j) ?_ (by rw [List.length_range, sizeLine_eq]; omega) trivial ?_ ?_
        · intro P hp
          refine w_rng (n := n) (by omega) (fun P2 hp2 => ?_) hp
          simp [wipeE]
          exact hp2
        · intro j hj
          have hj := List.mem_range.mp hj
          refine ⟨_, rfl, ?_⟩
          obtain ⟨px, ex1, ex2, ex3⟩ := mt3.get (i := min i j) (by omega)
          have ax := rowE_at (E := iE F) (i := min i j) (j := max i j) (n := n) (by omega)
          rw [show ((min i j : Nat) : Int) = min (i : Int) j by omega] at ex2
          rw [show ((max i j : Nat) : Int) = max (i : Int) j by omega] at ax
          simp [wipeE, mt3.top, ex2, ex3, ax]
          rfl
        · rw [al_t]
          intro a ha
          exact ⟨a, rfl, ha, (fun b o e => by rw [mupd_ne (fun z => by rw [z, ha] at e; cases e)]; exact e), mupd_same⟩
      · intro h3 q3 qs3 s3 n3 nn3 M3
        obtain ⟨hq3, pq3⟩ := kp_no mb.kp n3
        refine ⟨q3, qs3, F2, _, _, rfl, ⟨kp_sub mb.kp s3, M3, hq3, pq3, fun a ha => kp_no mb.kp (nn3 a ha)⟩, ⟨fun a c => dn.pos _ _, fun a c => dn.hi _ _, fun a => ?_, fun hf a c ha hc ne => dn.fa hf _ _ (by omega) (by omega) (by omega)⟩, fun _ a c => ?_⟩
        · show F (min a a) (max a a) = 0
          rw [Nat.min_self, Nat.max_self]; exact dn.dg a
        · show F (min a c) (max a c) = F (min c a) (max c a)
          rw [Nat.min_comm, Nat.max_comm]
  rintro _ h3 ⟨q, qs, F, x6, x7, rfl, mb, dn, hsy⟩
  refine x_cut (fun ρ h' => ∃ q qs F x6 x7, ρ = [some (.ref p), some (.int n), some (.int f), some (words wi), some (.int w), some (.ref q), x6, x7, none] ∧ MB p h h' q qs n n F ∧ Sv.KT f (hasB wi) (hasF wi) n F ∧ ∀ a c, F a c ≤ 1000) ?_ ?_
  · simp only [x_ifs, x_val, x_cmp, x_int, x_varS, x_var0]
    show cmpOp .gt (.int f) (.int 0) _ _
    rw [o_gt]
    refine ⟨_, rfl, ?_⟩
    by_cases hf0 : f = 0
    · subst hf0
      rw [if_neg (by decide)]
      simp only [x_nil]
      exact ⟨q, qs, F, _, _, rfl, mb, kt_raw dn hsy, dn.hi⟩
    · rw [if_pos (by rw [decide_eq_true_iff]; omega)]
      simp only [x_cons, x_nil, x_set, x_fn, x_econs, x_enil, x_varS, x_var0]
      rw [c__law_lowered]
      refine ⟨by omega, q, f, n, qs, F, rfl, mb.mt, by omega, by omega, f1, fun h4 M4 ho => ?_⟩
      refine ⟨q, qs, _, _, _, rfl, ⟨⟨?_, fun b o nb e => ?_⟩, M4, mb.nq, mb.pq, mb.new⟩, kt_low dn hsy (by omega), low_hi dn.hi⟩
      · obtain ⟨a, b, c, e, z⟩ := mb.kp.1
        exact ⟨a, b, c, by rw [ho p fun z => (mb.new p z).2 rfl]; exact e, z⟩
      · rw [ho b fun z => by rw [(mb.new b z).1] at e; cases e]
        exact mb.kp.2 b o nb e
  rintro _ h4 ⟨q, qs, F, x6, x7, rfl, mb, kt, hi⟩
  simp only [x_cons, x_nil, x_ret, x_bi, x_econs, x_enil]
  have rows : ∀ a ∈ qs, ∃ i, i < n ∧ qs[i]? = some a ∧ h4 a = some (.lst (rowE n (iE F) i)) := fun a ha => by
    obtain ⟨i, hi, e⟩ := List.mem_iff_getElem.mp ha
    have e1 : qs[i]? = some a := by rw [List.getElem?_eq_getElem hi, e]
    exact ⟨i, by rw [← mb.mt.len]; exact hi, e1, mb.mt.row i a e1⟩
  refine x_mapT qs .ref (fun h' => h' q = some (.lst (qs.map .ref))) (rowP h4) ?_ (by rw [mb.mt.len, sizeLine_eq]; omega) mb.mt.top ?_ ?_
  · intro P hp
    simp [mb.mt.top]
    exact hp
  · intro a ha
    obtain ⟨i, hi, _, e2⟩ := rows a ha
    simp [wipeE, e2, rowP]
  · rw [al_f, o_tupleL]
    have : qs.map (rowP h4) = (tblF n F).map fun r => PV.tup (r.map .int) := by
      refine List.ext_getElem? fun i => ?_
      unfold tblF
      rw [List.getElem?_map, List.getElem?_map, List.getElem?_map]
      by_cases hi : i < n
      · have e1 : qs[i]? = some (qs[i]'(by rw [mb.mt.len]; exact hi)) := List.getElem?_eq_getElem _
        have e2 := mb.mt.row i _ e1
        rw [e1, List.getElem?_range hi]
        simp only [Option.map_some, rowP, e2]
        unfold rowE
        rw [List.map_map]; rfl
      · rw [List.getElem?_eq_none (by rw [mb.mt.len]; omega), List.getElem?_eq_none (by rw [List.length_range]; omega)]; rfl
    rw [this]
    exact mb.kp.ret fun a b c z => hq _ _ _ _ ⟨f, wi, n, F, rfl, i4, kt, hi, rfl⟩ z
end
end Ev.Lw

set_option Elab.async false
set_option linter.all false
set_option maxRecDepth 100000
set_option maxHeartbeats 4000000
namespace Ev.Lw
open PySem PySem.Spec PyProof.Rows L2
section
variable {G : Ctx} {gl : Str → PV} {ρ : Env} {h : MH} {D : PEnds} {Q : PK} {R : XV} {ex : Env → XV} {k : Nat} {as : List PV}
/-! ### words, kinds, pairs -/
theorem t__law_words {n0 : Nat} (_ : n0 < k + 1) (hs : spWords.run as h Q R) : wpSs (Γ k) gl ex s__law_words (startE d__law_words.N as) h (retE Q) := by
  obtain ⟨v, ⟨i, rfl, hi, rfl⟩, hq⟩ := hs
  show wpSs (Γ k) gl ex s__law_words [some (.int i)] h (retE Q)
  unfold s__law_words
  have : i = 0 ∨ i = 1 ∨ i = 2 ∨ i = 3 := by omega
  rcases this with rfl | rfl | rfl | rfl <;> (simp [retE, L2.atI, L2.ixN, sizeLine_eq]; exact .now hq)
theorem x_rows {n : Nat} {F : Fn2} {own own2 : List (Str × Nat)} {a b : Nat} {e1 e2 : E} {elt : E} (hn : n ≤ 100)
    (h1 : ∀ P : PK, P (.int (n : Nat)) h → wpE G gl ex e1 ρ h P) (h2 : ∀ (i : Nat) (h3 : MH) (P : PK), i < n → P (.int (n : Nat)) h3 → wpE G gl (fun _ => noX) e2 ((wipeE ρ (own.map (·.2))).set a (some (.int (i : Nat)))) h3 P)
    (h3 : ∀ (i j : Nat) (h3 : MH) (P : PK), i < n → j < n → P (.int (F i j)) h3 → wpE G gl (fun _ => noX) elt ((wipeE ((wipeE ρ (own.map (·.2))).set a (some (.int (i : Nat)))) (own2.map (·.2))).set b (some (.int (j : Nat)))) h3 P)
    (fin : ∀ h2 q qs, SubH h h2 → h q = none → (∀ a ∈ qs, h a = none) → MatE h2 q qs n (iE F) → Q (.ref q) h2) : wpE G gl ex (.comp true own (.name a) (.rng1 e1) .tt (.comp true own2 (.name b) (.rng1 e2) .tt elt)) ρ h Q := by
  refine x_matE n (iE F) (fun _ => True) (fun j : Nat => PV.int j) ?_ (by rw [sizeLine_eq]; omega) (fun _ _ => trivial) ?_ fin
  · intro P hp
    exact w_rng (n := n) (by omega) h1 hp
  · intro i hi h3' s3
    refine ⟨_, rfl, ?_⟩
    refine x_mapT (List.range n) (fun j : Nat => PV.int j) (fun _ => True) (fun j => iE F i j) ?_ (by rw [List.length_range, sizeLine_eq]; omega) trivial ?_ ?_
    · intro P hp
      exact w_rng (n := n) (by omega) (fun P2 hp2 => h2 i h3' P2 hi hp2) hp
    · intro j hj
      exact ⟨_, rfl, h3 i j h3' _ hi (List.mem_range.mp hj) ⟨rfl, rfl⟩⟩
    · rw [al_t]
      intro c hc
      exact ⟨c, rfl, hc, (fun b o e => by rw [mupd_ne (fun z => by rw [z, hc] at e; cases e)]; exact e), mupd_same⟩
/-- rows as tuples -/
theorem x_tupE {m : Bool} {own : List (Str × Nat)} {c v : Nat} {q : Addr} {qs : List Addr} {n : Nat} {F : Fn2} (M : MatE h q qs n (iE F)) (hn : n ≤ 100)
    (hv : ∀ P : PK, P (.ref q) h → wpE G gl ex (.var v) ρ h P) (hc : ∀ (a : Addr) (P : PK), P (.ref a) h → wpE G gl (fun _ => noX) (.var c) ((wipeE ρ (own.map (·.2))).set c (some (.ref a))) h P) (q1 : Q (eT (tblF n F)) h) :
    wpE G gl ex (.bi m .tuple (.cons (.comp false own (.name c) (.seq (.var v)) .tt (.bi false .tuple (.cons (.var c) .nil))) .nil)) ρ h Q := by
  have rows : ∀ a ∈ qs, ∃ i, i < n ∧ qs[i]? = some a ∧ h a = some (.lst (rowE n (iE F) i)) := fun a ha => by
    obtain ⟨i, hi, e⟩ := List.mem_iff_getElem.mp ha
    have e1 : qs[i]? = some a := by rw [List.getElem?_eq_getElem hi, e]
    exact ⟨i, by rw [← M.len]; exact hi, e1, M.row i a e1⟩
  simp only [x_bi, x_econs, x_enil]
  refine x_mapT qs .ref (fun h' => h' q = some (.lst (qs.map .ref))) (rowP h) ?_ (by rw [M.len, sizeLine_eq]; omega) M.top ?_ ?_
  · intro P hp
    simp only [x_seq]
    refine hv _ ⟨_, ?_, hp⟩
    show asLst h (.ref q) = _
    exact asLst_ref.mpr ⟨_, M.top, rfl⟩
  · intro a ha
    obtain ⟨i, hi, _, e2⟩ := rows a ha
    refine ⟨_, rfl, ?_⟩
    simp only [x_bi, x_econs, x_enil]
    refine hc a _ ?_
    rw [o_tupleR]
    exact ⟨_, e2, rfl, by unfold rowP; rw [e2]⟩
  · rw [al_f, o_tupleL]
    have : qs.map (rowP h) = (tblF n F).map fun r => PV.tup (r.map .int) := by
      refine List.ext_getElem? fun i => ?_
      unfold tblF
      rw [List.getElem?_map, List.getElem?_map, List.getElem?_map]
      by_cases hi : i < n
      · have e1 : qs[i]? = some (qs[i]'(by rw [M.len]; exact hi)) := List.getElem?_eq_getElem _
        have e2 := M.row i _ e1
        rw [e1, List.getElem?_range hi]
        simp only [Option.map_some, rowP, e2]
        unfold rowE
        rw [List.map_map]; rfl
      · rw [List.getElem?_eq_none (by rw [M.len]; omega), List.getElem?_eq_none (by rw [List.length_range]; omega)]; rfl
    rw [this]
    exact q1
theorem notin_far {i : Nat} (hi : i < 4) : cmpOp .notIn (.str "far") (words i) h Q = Q (.bl (!hasF i)) h := o_notInS ok_far (words_ok hi)
theorem t__law_shown {n0 : Nat} (_ : n0 < k + 1) (hs : spShown2.run as h Q R) : wpSs (Γ k) gl ex s__law_shown (startE d__law_shown.N as) h (retE Q) := by
  obtain ⟨v, ⟨f, g, i, j, wide, rfl, i4, j4, f0, f9, w1, rfl⟩, hq⟩ := hs
  show wpSs (Γ k) gl ex s__law_shown [some (.int f), some (words i), some (.int g), some (words j), some (.int wide), none, none, none, none, none] h (retE Q)
  unfold s__law_shown
  refine x_cut (fun ρ h' => h = h' ∧ ρ = [some (.int f), some (words i), some (.int g), some (words j), some (.int wide), some (.int (1 + 100 * (wide : Int))), none, none, none, none]) ?_ ?_
  · simp
    exact cmL (by omega)
  rintro _ _ ⟨rfl, rfl⟩
  refine x_cut (fun ρ h' => SubH h h' ∧ ∃ q qs x7 x8, ρ = [some (.int f), some (words i), some (.int g), some (words j), some (.int wide), some (.int (1 + 100 * (wide : Int))), some (.ref q), x7, x8, none] ∧ MatE h' q qs (shN i j wide) (iE (shF f i j wide))) ?_ ?_
  · have condF : ∀ {ρ' : Env} {Qb : Bool → MH → Prop}, Qb (hasF j && !hasF i) h → wpB (Γ k) gl ex (.and (.val (.cmp .in_ (.str "far") (.var 3))) (.val (.cmp .notIn (.str "far") (.var 1)))) (some (.int f) :: some (words i) :: some (.int g) :: some (words j) :: ρ') h Qb := fun {ρ' Qb} z => by
      simp only [x_andT, x_val, x_cmp, x_str, x_varS, x_var0]
      rw [in_far j4]
      refine ⟨_, rfl, ?_⟩
      cases hj : hasF j with
      | false =>
        rw [hj, Bool.false_and] at z
        rw [if_neg (by decide)]
        exact z
      | true =>
        rw [hj, Bool.true_and] at z
        rw [if_pos rfl, notin_far i4]
        exact ⟨_, rfl, z⟩
    have condB : ∀ {ρ' : Env} {Qb : Bool → MH → Prop}, Qb (hasB j && !hasB i) h → wpB (Γ k) gl ex (.and (.val (.cmp .in_ (.str "both") (.var 3))) (.val (.cmp .notIn (.str "both") (.var 1)))) (some (.int f) :: some (words i) :: some (.int g) :: some (words j) :: ρ') h Qb := fun {ρ' Qb} z => by
      simp only [x_andT, x_val, x_cmp, x_str, x_varS, x_var0]
      rw [in_both j4]
      refine ⟨_, rfl, ?_⟩
      cases hj : hasB j with
      | false =>
        rw [hj, Bool.false_and] at z
        rw [if_neg (by decide)]
        exact z
      | true =>
        rw [hj, Bool.true_and] at z
        rw [if_pos rfl, notin_both i4]
        exact ⟨_, rfl, z⟩
    rw [x_ifs]
    refine condF ?_
    cases hA : (hasF j && !hasF i) with
    | true =>
      have eN : shN i j wide = 2 + wide := by unfold shN; rw [hA]; rfl
      have eF : shF f i j wide = fun _ _ => 0 := by
        funext x y
        unfold shF
        rw [hA]
        simp
      rw [if_pos rfl, eN, eF]
      simp only [x_cons, x_nil, x_set]
      refine x_rows (n := 2 + wide) (F := fun _ _ => 0) (by omega) ?_ ?_ ?_ ?_
      · intro P hP
        simp
        rw [show (2 : Int) + wide = ((2 + wide : Nat) : Int) by omega]
        exact hP
      · intro a h3 P ha hP
        simp [wipeE]
        rw [show (2 : Int) + wide = ((2 + wide : Nat) : Int) by omega]
        exact hP
      · intro a b h3 P ha hb hP
        simp only [x_int]
        exact hP
      · intro h3 q3 qs3 s3 _ _ M3
        exact ⟨s3, q3, qs3, _, _, rfl, M3⟩
    | false =>
      rw [if_neg (by decide)]
      simp only [x_cons, x_nil]
      rw [x_ifs]
      refine condB ?_
      cases hB : (hasB j && !hasB i) with
      | true =>
        have eN : shN i j wide = 2 + wide := by unfold shN; rw [hA, hB]; rfl
        have eF : shF f i j wide = fun x y => if x = y then 0 else 1 + (if x < y then 1 else 0) := by
          funext x y
          unfold shF
          rw [hA, hB]
          simp
        rw [if_pos rfl, eN, eF]
        simp only [x_cons, x_nil, x_set]
        refine x_rows (n := 2 + wide) (F := fun x y => if x = y then 0 else 1 + (if x < y then 1 else 0)) (by omega) ?_ ?_ ?_ ?_
        · intro P hP
          simp
          rw [show (2 : Int) + wide = ((2 + wide : Nat) : Int) by omega]
          exact hP
        · intro a h3 P ha hP
          simp [wipeE]
          rw [show (2 : Int) + wide = ((2 + wide : Nat) : Int) by omega]
          exact hP
        · intro a b h3 P ha hb hP
          simp [wipeE]
          by_cases e : a = b
          · rw [if_pos e] at hP
            exact .inr ⟨by omega, hP⟩
          · rw [if_neg e] at hP
            refine .inl ⟨by omega, ?_⟩
            by_cases e2 : a < b
            · rw [if_pos e2] at hP
              rw [if_pos (by omega)]
              exact hP
            · rw [if_neg e2] at hP
              rw [if_neg (by omega)]
              exact hP
        · intro h3 q3 qs3 s3 _ _ M3
          exact ⟨s3, q3, qs3, _, _, rfl, M3⟩
      | false =>
        have eN : shN i j wide = 3 + wide := by unfold shN; rw [hA, hB]; rfl
        let low : Int := 1 + 100 * (wide : Int)
        let m : Int := if 0 < f then f else 10
        have eF : shF f i j wide = fun x y => if x = y then 0 else if (x = 0 ∧ y = 2) ∨ (x = 2 ∧ y = 0) then 2 * low * m else low := by
          funext x y
          unfold shF
          rw [hA, hB]
          simp [low, m]
        rw [if_neg (by decide), eN, eF]
        refine x_cut (fun ρ h' => ∃ q qs, ρ = [some (.int f), some (words i), some (.int g), some (words j), some (.int wide), some (.int low), some (.ref q), none, none, none] ∧ SubH h h' ∧ h q = none ∧ (∀ a ∈ qs, h a = none) ∧ MatE h' q qs (3 + wide) (iE fun x y => if x = y then 0 else low)) ?_ ?_
        · simp only [x_set]
          refine x_rows (n := 3 + wide) (F := fun x y => if x = y then 0 else low) (by omega) ?_ ?_ ?_ ?_
          · intro P hP
            simp
            rw [show (3 : Int) + wide = ((3 + wide : Nat) : Int) by omega]
            exact hP
          · intro a h3 P ha hP
            simp [wipeE]
            rw [show (3 : Int) + wide = ((3 + wide : Nat) : Int) by omega]
            exact hP
          · intro a b h3 P ha hb hP
            simp [wipeE]
            by_cases e : a = b
            · rw [if_pos e] at hP
              exact .inr ⟨by omega, hP⟩
            · rw [if_neg e] at hP
              exact .inl ⟨by omega, hP⟩
          · intro h3 q3 qs3 s3 n3 nn3 M3
            exact ⟨q3, qs3, rfl, s3, n3, nn3, M3⟩
        rintro _ h3 ⟨q, qs, rfl, s3, nq, nqs, M⟩
        obtain ⟨p0, e01, e02, e03⟩ := M.get (i := 0) (by omega)
        have ix := ixN_nat (n := (rowE (3 + wide) (iE fun x y => if x = y then 0 else low) 0).length) (i := 2) (by rw [rowE_len]; omega)
        have M2 := M.put (v := .int (2 * low * m)) (j := 2) (by omega) e01 (E' := iE fun x y => if x = y then 0 else if x = 0 ∧ y = 2 then 2 * low * m else low) fun a c _ _ => by
          unfold iE
          by_cases e : a = 0 ∧ c = 2
          · obtain ⟨rfl, rfl⟩ := e
            rfl
          · rw [if_neg e]
            show PV.int (if a = c then 0 else if a = 0 ∧ c = 2 then 2 * low * m else low) = .int (if a = c then 0 else low)
            rw [if_neg e]
        refine x_cut (fun ρ h' => ρ = [some (.int f), some (words i), some (.int g), some (words j), some (.int wide), some (.int low), some (.ref q), none, none, none] ∧ SubH h h' ∧ MatE h' q qs (3 + wide) (iE fun x y => if x = y then 0 else if x = 0 ∧ y = 2 then 2 * low * m else low)) ?_ ?_
        · have e02 : L2.atI (qs.map PV.ref) 0 = some (.ref p0) := e02
          have ix : L2.ixN (rowE (3 + wide) (iE fun x y => if x = y then 0 else low) 0).length 2 = some 2 := ix
          have mm : (0 < f → m = f) ∧ (f ≤ 0 → m = 10) := ⟨fun z => if_pos z, fun z => if_neg (by omega)⟩
          have fin : ∀ w : Int, w = m → SubH h (mupd h3 p0 (.lst ((rowE (3 + wide) (iE fun x y => if x = y then 0 else low) 0).set 2 (.int (2 * low * w))))) ∧ MatE (mupd h3 p0 (.lst ((rowE (3 + wide) (iE fun x y => if x = y then 0 else low) 0).set 2 (.int (2 * low * w))))) q qs (3 + wide) (iE fun x y => if x = y then 0 else if x = 0 ∧ y = 2 then 2 * low * m else low) := fun w e => by
            subst e
            exact ⟨s3.up (nqs _ (List.mem_of_getElem? e01)), M2⟩
          simp [M.top, e02, e03, ix]
          refine ⟨cmL (by omega), ?_⟩
          by_cases c : f ≤ 0
          · exact .inl ⟨c, cmR (by omega), fin 10 (mm.2 c).symm⟩
          · exact .inr ⟨by omega, cmR (by omega), fin f (mm.1 (by omega)).symm⟩
        rintro _ h4 ⟨rfl, s4, M4⟩
        obtain ⟨p0, e01, e02, e03⟩ := M4.get (i := 0) (by omega)
        obtain ⟨p2, e21, e22, e23⟩ := M4.get (i := 2) (by omega)
        have a02 := rowE_at (E := iE fun x y => if x = y then 0 else if x = 0 ∧ y = 2 then 2 * low * m else low) (i := 0) (j := 2) (n := 3 + wide) (by omega)
        have ix := ixN_nat (n := (rowE (3 + wide) (iE fun x y => if x = y then 0 else if x = 0 ∧ y = 2 then 2 * low * m else low) 2).length) (i := 0) (by rw [rowE_len]; omega)
        have M5 := M4.put (v := .int (2 * low * m)) (j := 0) (by omega) e21 (E' := iE fun x y => if x = y then 0 else if (x = 0 ∧ y = 2) ∨ (x = 2 ∧ y = 0) then 2 * low * m else low) fun a c _ _ => by
          by_cases e : a = 2 ∧ c = 0
          · obtain ⟨rfl, rfl⟩ := e
            rfl
          · rw [if_neg e]
            show PV.int (if a = c then 0 else if (a = 0 ∧ c = 2) ∨ (a = 2 ∧ c = 0) then 2 * low * m else low) = .int (if a = c then 0 else if a = 0 ∧ c = 2 then 2 * low * m else low)
            by_cases e1 : a = c
            · rw [if_pos e1, if_pos e1]
            · rw [if_neg e1, if_neg e1]
              by_cases e2 : a = 0 ∧ c = 2
              · rw [if_pos e2, if_pos (Or.inl e2)]
              · rw [if_neg e2, if_neg fun z => Or.elim z e2 e]
        have e02 : L2.atI (qs.map PV.ref) 0 = some (.ref p0) := e02
        have e22 : L2.atI (qs.map PV.ref) 2 = some (.ref p2) := e22
        have a02 : L2.atI (rowE (3 + wide) (iE fun x y => if x = y then 0 else if x = 0 ∧ y = 2 then 2 * low * m else low) 0) 2 = some (.int (2 * low * m)) := a02
        have ix : L2.ixN (rowE (3 + wide) (iE fun x y => if x = y then 0 else if x = 0 ∧ y = 2 then 2 * low * m else low) 2).length 0 = some 0 := ix
        simp [M4.top, e02, e03, e22, e23, a02, ix]
        exact ⟨s4.up (nqs _ (List.mem_of_getElem? e21)), q, ⟨rfl, rfl⟩, qs, M5⟩
  rintro _ h2 ⟨s2, q, qs, x7, x8, rfl, M⟩
  simp only [x_cons, x_nil, x_ret]
  refine x_tupE M (by unfold shN; split <;> omega) ?_ ?_ ?_
  · intro P hP
    simp only [x_varS, x_var0]
    exact hP
  · intro a P hP
    simp [wipeE]
    exact hP
  · exact ⟨h, s2, hq⟩
end
end Ev.Lw

set_option Elab.async false
set_option linter.all false
set_option maxRecDepth 100000
set_option maxHeartbeats 4000000
namespace Ev.Lw
open PySem PySem.Spec PyProof.Rows L2
section
variable {G : Ctx} {gl : Str → PV} {ρ : Env} {h : MH} {D : PEnds} {Q : PK} {R : XV} {ex : Env → XV} {k : Nat} {as : List PV}
/-! ### the law -/
theorem eq_words {i j : Nat} (hi : i < 4) (hj : j < 4) : cmpOp .eq (words i) (words j) h Q = Q (.bl (decide (i = j))) h := by
  have dt : ∀ xs : List Str, dat h (.tup (xs.map .str)) = some (.tuple (xs.map .str)) := fun xs => by
    show (datL (deref h 5) (xs.map .str)).map PyData.tuple = _
    rw [datL_map (t := PyData.str) fun _ _ => rfl]
    rfl
  have st : ∀ i, i < 4 → SeqAt.shaped (.tuple ((wl i).map .str)) = true := fun i hi => by
    have : i = 0 ∨ i = 1 ∨ i = 2 ∨ i = 3 := by omega
    rcases this with rfl | rfl | rfl | rfl <;> decide +kernel
  rw [show cmpOp .eq = opEq false from rfl]
  unfold words
  rw [o_eqD (n := false) (dt (wl i)) (dt (wl j)) (st i hi) (st j hj) (fun _ _ z => by cases z), Bool.false_bne]
  have h1 : i = 0 ∨ i = 1 ∨ i = 2 ∨ i = 3 := by omega
  have h2 : j = 0 ∨ j = 1 ∨ j = 2 ∨ j = 3 := by omega
  have e : PyData.eqv (.tuple ((wl i).map .str)) (.tuple ((wl j).map .str)) = decide (i = j) := by
    rcases h1 with rfl | rfl | rfl | rfl <;> rcases h2 with rfl | rfl | rfl | rfl <;> decide +kernel
  rw [e]
theorem len_words {i : Nat} (hi : i < 4) : (wl i).length = if i = 0 then 0 else if i = 3 then 2 else 1 := by
  have : i = 0 ∨ i = 1 ∨ i = 2 ∨ i = 3 := by omega
  rcases this with rfl | rfl | rfl | rfl <;> rfl
theorem ws0 : WsOk [] 0 := ⟨by decide, (fun _ z => nomatch z), by decide +kernel, by decide +kernel, by decide⟩
theorem ws1 : WsOk ["both"] 1 := ⟨by decide, fun w hw => .inl (List.mem_singleton.mp hw), by decide +kernel, by decide +kernel, by decide⟩
theorem ws2 : WsOk ["far"] 2 := ⟨by decide, fun w hw => .inr (List.mem_singleton.mp hw), by decide +kernel, by decide +kernel, by decide⟩
theorem ws3 : WsOk ["far", "both"] 3 := ⟨by decide, fun w hw => by
  simp only [List.mem_cons, List.not_mem_nil, or_false] at hw
  rcases hw with rfl | rfl
  · exact .inr rfl
  · exact .inl rfl, by decide +kernel, by decide +kernel, by decide⟩
theorem ws4 : WsOk ["both", "far"] 3 := ⟨by decide, fun w hw => by
  simp only [List.mem_cons, List.not_mem_nil, or_false] at hw
  exact hw, by decide +kernel, by decide +kernel, by decide⟩
theorem mk_k {Qk : Addr → MH → Prop} (hk : 0 < k - 1) {f : Int} {ws : List Str} {i : Nat} (ok : WsOk ws i) (q : ∀ o, h o = none → Qk o (mupd h o (kdO f i))) :
    1 ≤ (PV.int f :: ws.map .str).length ∧ (PV.int f :: ws.map .str).length < sizeLine ∧ ∀ p, h p = none → (Γ k).fn1 "Kind.__init__" (.ref p :: ((PV.int f :: ws.map .str).take 1 ++ [.tup ((PV.int f :: ws.map .str).drop 1)])) (mupd h p (.ins "Kind" [])) (fun v h2 => v = .non ∧ Qk p h2) noX := by
  refine ⟨by rw [List.length_cons]; omega, by have := ok.len; rw [List.length_cons, List.length_map, sizeLine_eq]; omega, fun p hp => ?_⟩
  rw [c1_Kind___init__]
  exact ⟨hk, p, f, i, ws, rfl, ok, mupd_same, rfl, by rw [mupd_mupd]; exact q p hp⟩
theorem kd_at {o : Addr} {f : Int} {i : Nat} (i4 : i < 4) (f0 : 0 ≤ f) (f9 : f < 10) : KdO (mupd h o (kdO f i)) o f i := ⟨mupd_same, i4, f0, by omega⟩
theorem KdO.up {o p : Addr} {x : MO} {f : Int} {i : Nat} (d : KdO h o f i) (n : h p = none) : KdO (mupd h p x) o f i :=
  ⟨by rw [mupd_ne (fun e => by have := d.1; rw [e, n] at this; cases this)]; exact d.1, d.2⟩
theorem KdO.dr {o p : Addr} {a b c : Int} {f : Int} {i : Nat} (d : KdO h o f i) (n : o ≠ p) : KdO (mupd h p (Ev.dr a b c)) o f i :=
  ⟨by rw [mupd_ne n]; exact d.1, d.2⟩
theorem kd_ne {o p : Addr} {f : Int} {i : Nat} (d : KdO h o f i) (e : Dr h p) : o ≠ p := fun z => by
  obtain ⟨a, b, c, e, _⟩ := e
  have := d.1
  rw [z, e] at this
  cases this
theorem wi_self {f : Int} {i : Nat} (f0 : 0 ≤ f) : withinB f i f i = true := by
  unfold withinB
  cases hasB i <;> cases hasF i <;> simp <;> omega
theorem wi_zero {f : Int} {i : Nat} : withinB f i 0 0 = true := by
  unfold withinB
  rw [show hasB 0 = false from by decide +kernel, show hasF 0 = false from by decide +kernel]
  simp
theorem o_isnB {a : Bool} : cmpOp .isNot (.bl a) (.bl true) h Q = Q (.bl (true != decide (a = true))) h := rfl
theorem t_law (hk : 9 < k + 1) (hs : spLaw.run as h Q R) : wpSs (Γ k) gl ex s_law (startE d_law.N as) h (retE Q) := by
  obtain ⟨ns, rfl, hl, hq⟩ := hs
  show wpSs (Γ k) gl ex s_law [some (.scr (ns.map .int)), none, none, none, none, none, none, none, none, none, none, none, none] h (retE Q)
  unfold s_law
  refine x_cut (fun ρ h' => ∃ p, Dr h' p ∧ ρ = [some (.scr (ns.map .int)), some (.ref p), none, none, none, none, none, none, none, none, none, none, none]) ?_ ?_
  · simp
    exact ⟨by omega, ns, rfl, hl⟩
  rintro _ h1 ⟨p, hd, rfl⟩
  refine x_cut (fun ρ h' => True) ?_ fun ρ h2 _ => by simp [retE]; exact .now (hq _)
  refine x_forR 0 12 (fun _ ρ h' => Dr h' p ∧ ∃ x2 x3 x4 x5 x6 x7 x8 x9 x10 x11 x12, ρ = [some (.scr (ns.map .int)), some (.ref p), x2, x3, x4, x5, x6, x7, x8, x9, x10, x11, x12]) (fun Q q => by simp; exact q) ⟨hd, _, _, _, _, _, _, _, _, _, _, _, rfl⟩ ?_ fun _ _ _ => trivial
  rintro it _ h2 hi ⟨hd, x2, x3, x4, x5, x6, x7, x8, x9, x10, x11, x12, rfl⟩
  refine ⟨_, rfl, ?_⟩
  refine x_cut (fun ρ h' => Dr h' p ∧ ∃ f g : Int, ρ = [some (.scr (ns.map .int)), some (.ref p), some (.int (0 + (it : Int))), some (.int f), some (.int g), x5, x6, x7, x8, x9, x10, x11, x12] ∧ 0 ≤ f ∧ f < 10 ∧ 0 ≤ g ∧ g < 10) ?_ ?_
  · simp only [List.set_cons_succ, List.set_cons_zero, x_par, x_fn, x_econs, x_enil, x_int, x_varS, x_var0]
    rw [c__law_next]
    refine ⟨by omega, hd, by decide, by decide, fun d a b c z1 z2 z3 => ?_⟩
    show (Γ k).fn "_law_next" [.ref p, .int 10] _ _ _
    rw [c__law_next]
    exact ⟨by omega, dr_at.mpr z1, by decide, by decide, fun d2 a2 b2 c2 z4 z5 z6 => ⟨dr_at.mpr z4, d, d2, rfl, z2, z3, z5, z6⟩⟩
  rintro _ h3 ⟨hd, f, g0', rfl, f0, f9, gg0, gg9⟩
  refine x_cut (fun ρ h' => Dr h' p ∧ ∃ g : Int, ρ = [some (.scr (ns.map .int)), some (.ref p), some (.int (0 + (it : Int))), some (.int f), some (.int g), x5, x6, x7, x8, x9, x10, x11, x12] ∧ 0 ≤ g ∧ g < 10) ?_ ?_
  · simp only [x_ifs, x_val, x_cmp, x_fn, x_econs, x_enil, x_int, x_varS, x_var0]
    rw [c__law_next]
    refine ⟨by omega, hd, by decide, by decide, fun d a b c z1 z2 z3 => ?_⟩
    show cmpOp .eq (.int d) (.int 0) _ _
    rw [o_eqI]
    refine ⟨_, rfl, ?_⟩
    by_cases e : d = 0
    · rw [e, beq_self_eq_true, if_pos rfl]
      simp only [x_cons, x_nil, x_set, x_bi, x_bin, x_fn, x_econs, x_enil, x_int, x_varS, x_var0]
      rw [c__law_next]
      refine ⟨by omega, dr_at.mpr z1, by decide, by decide, fun d2 a2 b2 c2 z4 z5 z6 => ?_⟩
      simp
      exact ⟨z4, by omega, by omega⟩
    · rw [beq_false_of_ne e, if_neg Bool.false_ne_true]
      exact ⟨dr_at.mpr z1, g0', rfl, gg0, gg9⟩
  rintro _ h4 ⟨hd, g, rfl, g0, g9⟩
  refine x_cut (fun ρ h' => Dr h' p ∧ ∃ i j : Nat, ρ = [some (.scr (ns.map .int)), some (.ref p), some (.int (0 + (it : Int))), some (.int f), some (.int g), some (words i), some (words j), x7, x8, x9, x10, x11, x12] ∧ i < 4 ∧ j < 4) ?_ ?_
  · simp only [x_unp, x_tup, x_fn, x_econs, x_enil, x_int, x_varS, x_var0]
    rw [c__law_next]
    refine ⟨by omega, hd, by decide, by decide, fun d a b c z1 z2 z3 => ?_⟩
    obtain ⟨i, rfl⟩ := Int.eq_ofNat_of_zero_le z2
    show (Γ k).fn "_law_words" [.int (i : Nat)] _ _ _
    rw [c__law_words]
    refine ⟨by omega, _, ⟨i, rfl, by omega, rfl⟩, ?_⟩
    show (Γ k).fn "_law_next" [.ref p, .int 4] _ _ _
    rw [c__law_next]
    refine ⟨by omega, dr_at.mpr z1, by decide, by decide, fun d2 a2 b2 c2 z4 z5 z6 => ?_⟩
    obtain ⟨j, rfl⟩ := Int.eq_ofNat_of_zero_le z5
    show (Γ k).fn "_law_words" [.int (j : Nat)] _ _ _
    rw [c__law_words]
    exact ⟨by omega, _, ⟨j, rfl, by omega, rfl⟩, (by decide : 2 ≤ sizeLine), _, rfl, dr_at.mpr z4, i, j, rfl, by omega, by omega⟩
  rintro _ h5 ⟨hd, i, j, rfl, i4, j4⟩
  refine x_cut (fun ρ h' => Dr h' p ∧ ∃ o1, KdO h' o1 f (if i = 2 then 2 else 0) ∧ ρ = [some (.scr (ns.map .int)), some (.ref p), some (.int (0 + (it : Int))), some (.int f), some (.int g), some (words i), some (words j), some (.ref o1), x8, x9, x10, x11, x12]) ?_ ?_
  · simp only [x_set, x_ite, x_val, x_cmp, x_tup, x_str, x_econs, x_enil, x_varS, x_var0]
    refine ⟨(by decide : 1 ≤ sizeLine), ?_⟩
    show cmpOp .eq (words i) (words 2) h5 _
    rw [eq_words i4 (by decide)]
    refine ⟨_, rfl, ?_⟩
    by_cases e : i = 2
    · rw [decide_eq_true e, if_pos rfl, if_pos e]
      simp only [x_mk, x_str, x_econs, x_enil, x_varS, x_var0]
      exact mk_k (by omega) ws2 fun o ho => ⟨hd.ne (hd.neq ho), o, kd_at (by decide) f0 f9, rfl⟩
    · rw [decide_eq_false e, if_neg Bool.false_ne_true, if_neg e]
      simp only [x_mk, x_str, x_econs, x_enil, x_varS, x_var0]
      exact mk_k (by omega) ws0 fun o ho => ⟨hd.ne (hd.neq ho), o, kd_at (by decide) f0 f9, rfl⟩
  rintro _ h6 ⟨hd, o1', kd', rfl⟩
  refine x_cut (fun ρ h' => Dr h' p ∧ ∃ o1, KdO h' o1 f i ∧ ρ = [some (.scr (ns.map .int)), some (.ref p), some (.int (0 + (it : Int))), some (.int f), some (.int g), some (words i), some (words j), some (.ref o1), x8, x9, x10, x11, x12]) ?_ ?_
  · simp only [x_set, x_ite, x_val, x_cmp, x_tup, x_str, x_econs, x_enil, x_varS, x_var0]
    refine ⟨(by decide : 1 ≤ sizeLine), ?_⟩
    show cmpOp .eq (words i) (words 1) h6 _
    rw [eq_words i4 (by decide)]
    refine ⟨_, rfl, ?_⟩
    by_cases e : i = 1
    · rw [decide_eq_true e, if_pos rfl, e]
      simp only [x_mk, x_str, x_econs, x_enil, x_varS, x_var0]
      exact mk_k (by omega) ws1 fun o ho => ⟨hd.ne (hd.neq ho), o, kd_at (by decide) f0 f9, rfl⟩
    · rw [decide_eq_false e, if_neg Bool.false_ne_true]
      simp only [x_ite, x_val, x_cmp, x_bi, x_int, x_econs, x_enil, x_varS, x_var0]
      show biOp false .len [.tup ((wl i).map .str)] h6 _
      rw [o_lenT, List.length_map, len_words i4]
      show cmpOp .eq (.int _) (.int 2) h6 _
      rw [o_eqI]
      have ln : (((if i = 0 then 0 else if i = 3 then 2 else 1 : Nat) : Int) == 2) = decide (i = 3) := by
        have : i = 0 ∨ i = 1 ∨ i = 2 ∨ i = 3 := by omega
        rcases this with h | h | h | h <;> rw [h] <;> rfl
      rw [ln]
      refine ⟨_, rfl, ?_⟩
      by_cases e3 : i = 3
      · rw [decide_eq_true e3, if_pos rfl, e3]
        simp only [x_mk, x_str, x_econs, x_enil, x_varS, x_var0]
        exact mk_k (by omega) ws3 fun o ho => ⟨hd.ne (hd.neq ho), o, kd_at (by decide) f0 f9, rfl⟩
      · rw [decide_eq_false e3, if_neg Bool.false_ne_true]
        have e4 : (if i = 2 then 2 else 0) = i := by split <;> omega
        rw [e4] at kd'
        exact ⟨hd, o1', kd', rfl⟩
  rintro _ h7 ⟨hd, o1, kd1, rfl⟩
  refine x_cut (fun ρ h' => Dr h' p ∧ KdO h' o1 f i ∧ ∃ o2, KdO h' o2 g (if j = 2 then 2 else 0) ∧ ρ = [some (.scr (ns.map .int)), some (.ref p), some (.int (0 + (it : Int))), some (.int f), some (.int g), some (words i), some (words j), some (.ref o1), some (.ref o2), x9, x10, x11, x12]) ?_ ?_
  · simp only [x_set, x_ite, x_val, x_cmp, x_tup, x_str, x_econs, x_enil, x_varS, x_var0]
    refine ⟨(by decide : 1 ≤ sizeLine), ?_⟩
    show cmpOp .eq (words j) (words 2) h7 _
    rw [eq_words j4 (by decide)]
    refine ⟨_, rfl, ?_⟩
    by_cases e : j = 2
    · rw [decide_eq_true e, if_pos rfl, if_pos e]
      simp only [x_mk, x_str, x_econs, x_enil, x_varS, x_var0]
      exact mk_k (by omega) ws2 fun o ho => ⟨hd.ne (hd.neq ho), kd1.up ho, o, kd_at (by decide) g0 g9, rfl⟩
    · rw [decide_eq_false e, if_neg Bool.false_ne_true, if_neg e]
      simp only [x_mk, x_str, x_econs, x_enil, x_varS, x_var0]
      exact mk_k (by omega) ws0 fun o ho => ⟨hd.ne (hd.neq ho), kd1.up ho, o, kd_at (by decide) g0 g9, rfl⟩
  rintro _ h8 ⟨hd, kd1, o2', kd', rfl⟩
  refine x_cut (fun ρ h' => Dr h' p ∧ KdO h' o1 f i ∧ ∃ o2, KdO h' o2 g j ∧ ρ = [some (.scr (ns.map .int)), some (.ref p), some (.int (0 + (it : Int))), some (.int f), some (.int g), some (words i), some (words j), some (.ref o1), some (.ref o2), x9, x10, x11, x12]) ?_ ?_
  · simp only [x_set, x_ite, x_val, x_cmp, x_tup, x_str, x_econs, x_enil, x_varS, x_var0]
    refine ⟨(by decide : 1 ≤ sizeLine), ?_⟩
    show cmpOp .eq (words j) (words 1) h8 _
    rw [eq_words j4 (by decide)]
    refine ⟨_, rfl, ?_⟩
    by_cases e : j = 1
    · rw [decide_eq_true e, if_pos rfl, e]
      simp only [x_mk, x_str, x_econs, x_enil, x_varS, x_var0]
      exact mk_k (by omega) ws1 fun o ho => ⟨hd.ne (hd.neq ho), kd1.up ho, o, kd_at (by decide) g0 g9, rfl⟩
    · rw [decide_eq_false e, if_neg Bool.false_ne_true]
      simp only [x_ite, x_val, x_cmp, x_bi, x_int, x_econs, x_enil, x_varS, x_var0]
      show biOp false .len [.tup ((wl j).map .str)] h8 _
      rw [o_lenT, List.length_map, len_words j4]
      show cmpOp .eq (.int _) (.int 2) h8 _
      rw [o_eqI]
      have ln : (((if j = 0 then 0 else if j = 3 then 2 else 1 : Nat) : Int) == 2) = decide (j = 3) := by
        have : j = 0 ∨ j = 1 ∨ j = 2 ∨ j = 3 := by omega
        rcases this with h | h | h | h <;> rw [h] <;> rfl
      rw [ln]
      refine ⟨_, rfl, ?_⟩
      by_cases e3 : j = 3
      · rw [decide_eq_true e3, if_pos rfl, e3]
        simp only [x_mk, x_str, x_econs, x_enil, x_varS, x_var0]
        exact mk_k (by omega) ws4 fun o ho => ⟨hd.ne (hd.neq ho), kd1.up ho, o, kd_at (by decide) g0 g9, rfl⟩
      · rw [decide_eq_false e3, if_neg Bool.false_ne_true]
        have e4 : (if j = 2 then 2 else 0) = j := by split <;> omega
        rw [e4] at kd'
        exact ⟨hd, kd1, o2', kd', rfl⟩
  rintro _ h9 ⟨hd, kd1, o2, kd2, rfl⟩
  refine x_cut (fun ρ h' => h9 = h' ∧ ∃ x10 x11 x12, ρ = [some (.scr (ns.map .int)), some (.ref p), some (.int (0 + (it : Int))), some (.int f), some (.int g), some (words i), some (words j), some (.ref o1), some (.ref o2), some (.bl (withinB f i g j)), x10, x11, x12]) ?_ ?_
  · simp only [x_set, x_and, x_cmp]
    refine x_fmapT (wl j) .str (fun _ => True) (fun w => if (!(wl i).any fun z => z == w) = true then some (PV.str w) else none) ?_ ?_ trivial ?_ ?_
    · intro P hP
      simp only [x_seq, x_varS, x_var0]
      exact ⟨_, rfl, hP⟩
    · have : j = 0 ∨ j = 1 ∨ j = 2 ∨ j = 3 := by omega
      rcases this with rfl | rfl | rfl | rfl <;> decide
    · intro w hw
      have okj := List.all_eq_true.mp (words_ok j4) w hw
      refine ⟨_, rfl, ?_⟩
      simp only [List.map_cons, List.map_nil, wipeE, List.set_cons_succ, List.set_cons_zero, x_val, x_cmp, x_varS, x_var0]
      show cmpOp .notIn (.str w) (.tup ((wl i).map .str)) h9 _
      rw [o_notInS okj (words_ok i4)]
      refine ⟨_, rfl, ?_⟩
      cases (wl i).any fun z => z == w <;> simp
    · rw [al_f, x_lst, x_enil, al_f, o_eqEL, within_words i4 j4]
      refine ⟨by decide, _, rfl, ?_⟩
      have wB : withinB f i g j = (((!hasB j || hasB i) && (!hasF j || hasF i)) && (decide (g = 0) || (decide (1 ≤ f) && decide (f ≤ g)))) := rfl
      rw [wB]
      generalize ((!hasB j || hasB i) && (!hasF j || hasF i)) = A
      cases A with
      | false =>
        rw [Bool.false_and, if_neg Bool.false_ne_true]
        exact ⟨rfl, _, _, _, rfl⟩
      | true =>
        rw [Bool.true_and, if_pos rfl]
        simp only [x_or, x_cmp, x_chain, x_int, x_varS, x_var0]
        rw [o_eqI]
        refine ⟨_, rfl, ?_⟩
        by_cases e : g = 0
        · rw [e, beq_self_eq_true, if_pos rfl, decide_eq_true rfl, Bool.true_or]
          exact ⟨rfl, _, _, _, rfl⟩
        · rw [beq_false_of_ne e, if_neg Bool.false_ne_true, decide_eq_false e, Bool.false_or, o_le]
          refine ⟨_, rfl, ?_⟩
          by_cases e2 : 1 ≤ f
          · rw [decide_eq_true e2, if_pos rfl, Bool.true_and, o_le]
            exact ⟨rfl, _, _, _, rfl⟩
          · rw [decide_eq_false e2, if_neg Bool.false_ne_true, Bool.false_and]
            exact ⟨rfl, _, _, _, rfl⟩
  rintro _ _ ⟨rfl, x10, x11, x12, rfl⟩
  refine x_cut (fun ρ h' => Dr h' p ∧ KdO h' o1 f i ∧ KdO h' o2 g j ∧ ρ = [some (.scr (ns.map .int)), some (.ref p), some (.int (0 + (it : Int))), some (.int f), some (.int g), some (words i), some (words j), some (.ref o1), some (.ref o2), some (.bl (withinB f i g j)), x10, x11, x12]) ?_ ?_
  · have mt : ∀ {h' : MH} {o : Addr} {f : Int} {i : Nat}, KdO h' o f i → ∃ fs, h' o = some (.ins "Kind" fs) ∧ fs.lookup ("within" : Str) = none := fun kd => ⟨_, kd.1, by
      have e1 : (("within" : Str) == ("number" : Str)) = false := by decide +kernel
      have e2 : (("within" : Str) == ("names" : Str)) = false := by decide +kernel
      simp only [List.lookup, e1, e2]⟩
    simp only [x_ifs, x_val, x_cmp, x_bi, x_lst, x_mt, x_bl, x_econs, x_enil, x_varS, x_var0]
    refine ⟨o1, rfl, mt kd1, ?_⟩
    rw [c_Kind_within]
    refine ⟨by omega, o1, o2, f, g, i, j, rfl, kd1, kd2, o1, rfl, mt kd1, ?_⟩
    rw [c_Kind_within]
    refine ⟨by omega, o1, o1, f, f, i, i, rfl, kd1, kd1, o1, rfl, mt kd1, ?_⟩
    simp only [x_mk, x_int, x_econs, x_enil]
    refine mk_k (f := 0) (by omega) ws0 fun o ho => ?_
    rw [c_Kind_within]
    refine ⟨by omega, o1, o, f, 0, i, 0, rfl, kd1.up ho, ⟨mupd_same, by decide, by decide, by decide⟩, (by decide : 3 ≤ sizeLine), ?_⟩
    rw [wi_self f0, wi_zero, al_f]
    have fp : ∀ a b c : Bool, FP 1 10 (.lst [.bl a, .bl b, .bl c]) := fun a b c => (FP.lst (FPL.cons FP.bl (FPL.cons FP.bl (FPL.cons FP.bl FPL.nil)))).mono (by decide) (by decide)
    rw [o_reprP (fp _ _ _) (by decide) (by decide)]
    refine ⟨(by decide : 3 ≤ sizeLine), ?_⟩
    rw [al_f, o_reprP (fp _ _ _) (by decide) (by decide)]
    show cmpOp .ne (.str _) (.str _) _ _
    rw [o_neS, decide_eq_true rfl]
    refine ⟨_, rfl, ?_⟩
    rw [if_neg (by decide)]
    exact ⟨hd.ne (hd.neq ho), kd1.up ho, kd2.up ho, rfl⟩
  rintro _ h10 ⟨hd, kd1, kd2, rfl⟩
  have n1 := kd_ne kd1 hd
  have n2 := kd_ne kd2 hd
  refine x_cut (fun ρ h' => Dr h' p ∧ KdO h' o1 f i ∧ KdO h' o2 g j ∧ ∃ (n : Nat) (F : Fn2), 2 ≤ n ∧ n ≤ 4 ∧ Sv.KT f (hasB i) (hasF i) n F ∧ (∀ a c, F a c ≤ 1000) ∧ ∃ x10 x12, ρ = [some (.scr (ns.map .int)), some (.ref p), some (.int (0 + (it : Int))), some (.int f), some (.int g), some (words i), some (words j), some (.ref o1), some (.ref o2), some (.bl (withinB f i g j)), x10, some (eT (tblF n F)), x12]) ?_ ?_
  · simp only [x_set, x_fn, x_bin, x_int, x_econs, x_enil, x_varS, x_var0]
    rw [c__law_next]
    refine ⟨by omega, hd, by decide, by decide, fun d a b c z1 z2 z3 => ?_⟩
    show binOp false .add (.int 2) (.int d) _ _
    rw [o_add]
    show (Γ k).fn "_law_table" [.ref p, .int (2 + d), .int f, words i] _ _ _
    rw [c__law_table]
    refine ⟨by omega, r_draw.mpr ⟨dr_at.mpr z1, ⟨f, i, (2 + d).toNat, by rw [Int.toNat_of_nonneg (by omega)], i4, by omega, by omega, f0, by omega⟩, ?_⟩⟩
    rintro v a2 b2 c2 ⟨f', i', n', F, e, i4', kt, hi, rfl⟩ z4
    simp only [List.cons.injEq, PV.int.injEq, and_true] at e
    obtain ⟨e3, e1, e2⟩ := e
    have e2 : i = i' := words_inj i4 i4' e2
    subst e1 e2
    rw [mupd_mupd]
    exact ⟨dr_at.mpr z4, kd1.dr n1, kd2.dr n2, n', F, by omega, by omega, kt, hi, _, _, rfl⟩
  rintro _ h11 ⟨hd, kd1, kd2, n, F, n2', n4, kt, hF, x10, x12, rfl⟩
  have sq : Sq n 1000 (tblF n F) := tblF_sq fun x y hx hy => ⟨kt.nn x y hx hy, hF x y⟩
  have isT : ∀ {h' : MH} {o : Addr} {f : Int} {i n : Nat} {m : Int} {t : Tbl} {b : Bool} {P : PK} {R : XV}, KdO h' o f i → 2 ≤ n → n ≤ 6 → Sq n m t → (b = true ↔ KTb f i n t) → P (.bl b) h' → (Γ k).fn "is_table" [.ref o, eT t] h' P R := fun kd a b s e q => by
    rw [c_is_table]
    exact ⟨by omega, _, _, _, _, _, _, _, rfl, kd, a, b, s, e, q⟩
  refine x_cut (fun ρ h' => h11 = h' ∧ ρ = [some (.scr (ns.map .int)), some (.ref p), some (.int (0 + (it : Int))), some (.int f), some (.int g), some (words i), some (words j), some (.ref o1), some (.ref o2), some (.bl (withinB f i g j)), x10, some (eT (tblF n F)), x12]) ?_ ?_
  · simp only [x_ifs, x_orT, x_andT, x_val, x_cmp, x_fn, x_bl, x_econs, x_enil, x_varS, x_var0]
    refine isT (b := true) kd1 n2' (by omega) sq ⟨fun _ => kt_tblF.mpr kt, fun _ => rfl⟩ ?_
    rw [o_isnB]
    refine ⟨_, rfl, ?_⟩
    rw [if_neg (by decide)]
    refine ⟨_, rfl, ?_⟩
    cases hw : withinB f i g j with
    | false =>
      rw [if_neg Bool.false_ne_true, if_neg Bool.false_ne_true]
      exact ⟨rfl, rfl⟩
    | true =>
      rw [if_pos rfl]
      refine isT (b := true) kd2 n2' (by omega) sq ⟨fun _ => within_ktb hw g0 (kt_tblF.mpr kt), fun _ => rfl⟩ ?_
      rw [o_isnB]
      refine ⟨_, rfl, ?_⟩
      rw [if_neg (by decide)]
      exact ⟨rfl, rfl⟩
  rintro _ _ ⟨rfl, rfl⟩
  simp only [x_cons, x_nil]
  rw [x_ifs]
  simp only [x_notT, x_val, x_varS, x_var0]
  refine ⟨_, rfl, ?_⟩
  cases hw : withinB f i g j with
  | true =>
    rw [if_neg (by decide)]
    exact ⟨hd, _, _, _, _, _, _, _, _, _, _, _, rfl⟩
  | false =>
    rw [if_pos (show (!false) = true from rfl)]
    refine x_cut (fun ρ h' => Dr h' p ∧ KdO h' o1 f i ∧ KdO h' o2 g j ∧ ∃ wide : Nat, wide ≤ 1 ∧ ∃ x2 x3 x4 x5 x6 x9 x10 x11, ρ = [some (.scr (ns.map .int)), some (.ref p), x2, x3, x4, x5, x6, some (.ref o1), some (.ref o2), x9, x10, x11, some (eT (tblF (shN i j wide) (shF f i j wide)))]) ?_ ?_
    · simp only [x_set, x_fn, x_int, x_econs, x_enil, x_varS, x_var0]
      rw [c__law_next]
      refine ⟨by omega, hd, by decide, by decide, fun d a b c z1 z2 z3 => ?_⟩
      obtain ⟨wide, rfl⟩ := Int.eq_ofNat_of_zero_le z2
      show (Γ k).fn "_law_shown" [.int f, words i, .int g, words j, .int (wide : Nat)] _ _ _
      rw [c__law_shown]
      exact ⟨by omega, _, ⟨f, g, i, j, wide, rfl, i4, j4, f0, f9, by omega, rfl⟩, dr_at.mpr z1, kd1.dr n1, kd2.dr n2, wide, by omega, _, _, _, _, _, _, _, _, rfl⟩
    rintro _ h12 ⟨hd, kd1, kd2, wide, w1, x2, x3, x4, x5, x6, x9, x10, x11, rfl⟩
    obtain ⟨k1, k2⟩ := shown_kt (wide := wide) f0 f9 g0 g9 w1 hw
    have sq2 : Sq (shN i j wide) 2020 (tblF (shN i j wide) (shF f i j wide)) := tblF_sq fun x y _ _ => shF_rng f0 f9 w1 x y
    have n1' : 2 ≤ shN i j wide ∧ shN i j wide ≤ 6 := by unfold shN; split <;> omega
    simp only [x_cons, x_nil, x_ifs, x_val, x_cmp, x_bi, x_lst, x_fn, x_bl, x_econs, x_enil, x_varS, x_var0]
    refine isT (b := true) kd1 n1'.1 n1'.2 sq2 ⟨fun _ => kt_tblF.mpr k1, fun _ => rfl⟩ ?_
    refine isT (b := false) kd2 n1'.1 n1'.2 sq2 ⟨fun z => (by cases z), fun z => absurd (kt_tblF.mp z) k2⟩ ?_
    refine ⟨(by decide : 2 ≤ sizeLine), ?_⟩
    have fp : ∀ a b : Bool, FP 1 10 (.lst [.bl a, .bl b]) := fun a b => (FP.lst (FPL.cons FP.bl (FPL.cons FP.bl FPL.nil))).mono (by decide) (by decide)
    rw [al_f, o_reprP (fp _ _) (by decide) (by decide)]
    refine ⟨(by decide : 2 ≤ sizeLine), ?_⟩
    rw [al_f, o_reprP (fp _ _) (by decide) (by decide)]
    show cmpOp .ne (.str _) (.str _) _ _
    rw [o_neS, decide_eq_true rfl]
    refine ⟨_, rfl, ?_⟩
    rw [if_neg (by decide)]
    exact ⟨hd, _, _, _, _, _, _, _, _, _, _, _, rfl⟩
end
end Ev.Lw

set_option Elab.async false
set_option linter.all false
set_option maxRecDepth 100000
set_option maxHeartbeats 4000000
namespace Ev.Lw
open PySem PySem.Spec PyProof.Rows L2
section
variable {G : Ctx} {gl : Str → PV} {ρ : Env} {h : MH} {D : PEnds} {Q : PK} {R : XV} {ex : Env → XV} {k : Nat} {as : List PV}
theorem hsp (k : Nat) : ∀ e ∈ ds, ∀ as h Q R, as.length = e.ps.length + e.star.toList.length → (Γ (k + 1)).fn e.key as h Q R → wpSs (Γ k) (glOf lay) (fun _ => R) e.ss (startE e.N as) h (retE Q) := by
  intro e he as h Q R _ hs
  simp only [ds, List.mem_cons, List.not_mem_nil, or_false] at he
  rcases he with rfl | rfl | rfl | rfl | rfl | rfl | rfl | rfl | rfl | rfl | rfl | rfl | rfl | rfl | rfl | rfl | rfl
  · exact t_is_distance (c_is_distance ▸ hs).1 (c_is_distance ▸ hs).2
  · exact t_is_square (c_is_square ▸ hs).1 (c_is_square ▸ hs).2
  · exact t_ways_round (c_ways_round ▸ hs).1 (c_ways_round ▸ hs).2
  · exact t_is_table (c_is_table ▸ hs).1 (c_is_table ▸ hs).2
  · exact t__law_draws (c__law_draws ▸ hs).1 (c__law_draws ▸ hs).2
  · exact t__law_next (c__law_next ▸ hs).1 (c__law_next ▸ hs).2
  · exact t__law_one (c__law_one ▸ hs).1 (c__law_one ▸ hs).2
  · exact t__law_words (c__law_words ▸ hs).1 (c__law_words ▸ hs).2
  · exact t_no (c__law_kind ▸ hs).1 (c__law_kind ▸ hs).2
  · exact t__law_lowered (c__law_lowered ▸ hs).1 (c__law_lowered ▸ hs).2
  · exact t__law_table (c__law_table ▸ hs).1 (c__law_table ▸ hs).2
  · exact t__law_shown (c__law_shown ▸ hs).1 (c__law_shown ▸ hs).2
  · exact t_law (c_law ▸ hs).1 (c_law ▸ hs).2
  · exact t_Kind___init__ rfl (c_Kind___init__ ▸ hs).1 (c_Kind___init__ ▸ hs).2
  · exact t_Kind_factor (c_Kind_factor ▸ hs).1 (c_Kind_factor ▸ hs).2
  · exact t_Kind_within (c_Kind_within ▸ hs).1 (c_Kind_within ▸ hs).2
  · exact t_Kind_words (c_Kind_words ▸ hs).1 (c_Kind_words ▸ hs).2
theorem law_start (ns : List Int) (Q : PK) (R : XV) (hl : ns.length ≤ 63) (hb : ∀ z ∈ ns, Builtin.Int.intBits z ≤ 1048576) (hq : ∀ h, Q (.bl true) h) : (Γ 10).fn d_law.key [.scr (ns.map .int)] (fun _ => none) Q R := by
  show (Γ 10).fn "law" _ _ _ _
  rw [c_law]
  exact ⟨by decide, ns, rfl, hl, hq⟩
end
end Ev.Lw

set_option Elab.async false
set_option linter.all false
set_option maxRecDepth 100000
set_option maxHeartbeats 0
namespace Ev.Lw
open PySem PySem.Spec PyProof.Rows L2
abbrev R : PySem.W.OpenRow := PySem.W.OpenLaw.row PySem.Challenge.rw_anydistance_k02_whole_kinds_within
abbrev hk : PySem.W.Hook := hookV 6 (faOf lay ds) ds
def ob (s : PySem.W.SharedT) : AlV := obsVG 6 (faOf lay ds) ds (HandSHeadRun.getT s)
theorem ob_eq (s : PySem.W.SharedT) : ob s = hk.obs s.abs := obsVG_eq (HandSHeadRun.getT_eq s)
theorem run (w : World) : HandSHeadRun.RunEq R (PySem.W.view R.prog [19]) hk ob 6000 [("DistanceError" : Str), ("BadKind" : Str), ("WORDS" : Str), ("Kind" : Str), ("is_distance" : Str), ("is_square" : Str), ("ways_round" : Str), ("is_table" : Str), ("_law_draws" : Str), ("_law_next" : Str), ("_law_one" : Str), ("_law_words" : Str), ("_law_kind" : Str), ("_law_lowered" : Str), ("_law_table" : Str), ("_law_shown" : Str)] w := by
  intro os
  kernel_rfl
theorem bs : ∀ e ∈ ds, e.Bs := by
  intro e he
  simp only [ds, List.mem_cons, List.not_mem_nil, or_false] at he
  rcases he with rfl | rfl | rfl | rfl | rfl | rfl | rfl | rfl | rfl | rfl | rfl | rfl | rfl | rfl | rfl | rfl | rfl
  · exact b_is_distance
  · exact b_is_square
  · exact b_ways_round
  · exact b_is_table
  · exact b__law_draws
  · exact b__law_next
  · exact b__law_one
  · exact b__law_words
  · exact b__law_kind
  · exact b__law_lowered
  · exact b__law_table
  · exact b__law_shown
  · exact b_law
  · exact b_Kind___init__
  · exact b_Kind_factor
  · exact b_Kind_within
  · exact b_Kind_words
end Ev.Lw
open PySem PySem.W PySem.Calls PyProof.Rows
theorem PySem.Challenge.cw_anydistance_k02_whole_kinds_within_holds : PySem.Challenge.rw_anydistance_k02_whole_kinds_within.Holds := by
  w_on; o_law
  refine HandSHeadRun.head_any (r := OpenLaw.row PySem.Challenge.rw_anydistance_k02_whole_kinds_within) (q := view (OpenLaw.row PySem.Challenge.rw_anydistance_k02_whole_kinds_within).prog [19]) (H := Ev.Lw.hk) (ob := Ev.Lw.ob) (M := 6000) (loose := [("DistanceError" : Str), ("BadKind" : Str), ("WORDS" : Str), ("Kind" : Str), ("is_distance" : Str), ("is_square" : Str), ("ways_round" : Str), ("is_table" : Str), ("_law_draws" : Str), ("_law_next" : Str), ("_law_one" : Str), ("_law_words" : Str), ("_law_kind" : Str), ("_law_lowered" : Str), ("_law_table" : Str), ("_law_shown" : Str)])
    (d := HandSHeadRun.topDef (OpenLaw.row PySem.Challenge.rw_anydistance_k02_whole_kinds_within).prog 19) (kwd := []) Ev.Lw.ob_eq
    (by kernel_rfl) (fun s => by kernel_rfl) Ev.Lw.run (by kernel_rfl) (by kernel_rfl)
    (by kernel_rfl) (by rfl) (by first | assumption | decide +kernel) (by decide +kernel)
    ⟨rfl, rfl, rfl, rfl, rfl, by decide +kernel⟩ ?hw ?hc
  case hw => w_witness2
  case hc =>
    exact Ev.ev_walk (l := PySem.Challenge.rw_anydistance_k02_whole_kinds_within) (n := 63) (k := 10) (x := "_law_script") (L := Ev.Lw.lay) (Γ := Ev.Lw.Γ) Ev.Lw.d_law (by simp [Ev.Lw.ds]) rfl rfl rfl rfl (by decide) (by kernel_rfl) ⟨rfl, by decide, by decide⟩ (by kernel_rfl)
      Ev.Lw.has Ev.Lw.ds_ok Ev.Lw.bs (fun j => Ev.ctxR_one j) (fun _ _ _ _ _ => Ev.ctxR_one0) (fun _ _ _ _ _ => Ev.ctxR_zero) Ev.Lw.hsp Ev.Lw.law_start

