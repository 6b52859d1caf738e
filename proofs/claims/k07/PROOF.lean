import PyProof.Rows.All
import Wide.All
import OpenK.AllK
import Wide.FinOn
import KE.KStateDown
import Lean
import HandS.ForMost
import HandS.Defaults
import HandS.WordsExc
import HandS.TupAny
import HandS.Wide
import HandS.Flow
import HandS.Deep
import HandS.IsInst
import HandS.Walk
import HandS.Zip
import HandS.Conv
import HandS.Head0
import HandS.Head1
import HandS.Head2
import HandS.HeadEnd
import HandS.HeadHook1
import HandS.HeadHook2
import HandS.EndBits
import HandS.TupMul
import KE.DataMinMax
import HandS.SortInts
import HandS.Dict
import HandS.Iter
import HandS.Style
import HandS.Strs
import HandS.Codes
import PyProof.Rows.RegFStrParts
import PyProof.Rows.StrDigitsNeg
import PyProof.Rows.StrJoinMade
import PySem.Challenge.RW_anydistance_k07_forms_and_their_values
set_option Elab.async false
set_option linter.all false
set_option maxRecDepth 100000
set_option maxHeartbeats 4000000
/-! Ev1: pure values as trees, the mutable objects, how they lie in HandS's heap. -/
namespace Ev
open PySem PySem.Spec PyProof.Rows L2

/-- a value: tuples and lists that nobody changes any more are trees (scr: one that may be the script, or a written one); ref: an object that may be changed (or a class) -/
inductive PV where
  | non | bl (b : Bool) | int (i : Int) | str (x : Str) | tup (xs : List PV) | lst (xs : List PV) | scr (xs : List PV) | ref (a : Addr) | ty (n : String) | tpl (xs : List PV)
deriving Inhabited

abbrev Frag := PySem.W.Frag
/-- a list that stays as it is: locked -/
def FzL (H : Hp) (a : Addr) (xs : List V) : Prop := ∃ o, H a = some (.frz o (.lst xs))
theorem FzL.rd {H : Hp} {a : Addr} {xs : List V} (h : FzL H a xs) : Rd H a (.lst xs) := let ⟨o, e⟩ := h; .inr ⟨o, e⟩
/-- locked, or written -/
def FzW (K : Frag) (H : Hp) (a : Addr) (xs : List V) : Prop :=
  (∃ o, H a = some (.frz o (.lst xs))) ∨
    ∃ (o : Obj) (its : Array Value) (n : Nat), K.lookup a = some o ∧ o.cls = .type "list" ∧ o.dict = none ∧ o.data = .seq its n ∧ its.size ≤ sizeLine ∧ Vals xs its.toList
theorem FzW.sq {K : Frag} {H : Hp} {a : Addr} {xs : List V} (h : FzW K H a xs) : SqL K H a xs := by
  rcases h with ⟨o, h⟩ | h
  · exact .inl (.inr ⟨o, h⟩)
  · exact .inr h

/-- a tuple that is known to the object: without a dict of its own -/
def TpD (H : Hp) (a : Addr) (xs : List V) : Prop := ∃ o, H a = some (.frz o (.tup xs)) ∧ o.dict = none
theorem TpD.sq {K : Frag} {H : Hp} {a : Addr} {xs : List V} (h : TpD H a xs) : SqT K H a xs := let ⟨o, e, _⟩ := h; .inl (.inr ⟨o, e⟩)
mutual
inductive RepV (K : Frag) (H : Hp) : PV → V → Prop
  | non : RepV K H .non .non
  | bl (b : Bool) : RepV K H (.bl b) (.bl b)
  | int (i : Int) : RepV K H (.int i) (.int i)
  | str (x : Str) : RepV K H (.str x) (.str x)
  | ty (n : String) : RepV K H (.ty n) (.ty n)
  | ref (a : Addr) : RepV K H (.ref a) (.ref a)
  | tup {a : Addr} {xs : List PV} {vs : List V} : SqT K H a vs → RepL K H xs vs → RepV K H (.tup xs) (.ref a)
  | lst {a : Addr} {xs : List PV} {vs : List V} : FzL H a vs → RepL K H xs vs → RepV K H (.lst xs) (.ref a)
  | scr {a : Addr} {xs : List PV} {vs : List V} : FzW K H a vs → RepL K H xs vs → RepV K H (.scr xs) (.ref a)
  | tpl {a : Addr} {xs : List PV} {vs : List V} : TpD H a vs → RepL K H xs vs → RepV K H (.tpl xs) (.ref a)
inductive RepL (K : Frag) (H : Hp) : List PV → List V → Prop
  | nil : RepL K H [] []
  | cons {x : PV} {xs : List PV} {v : V} {vs : List V} : RepV K H x v → RepL K H xs vs → RepL K H (x :: xs) (v :: vs)
end

/-- what may be changed -/
inductive MO where
  | lst (xs : List PV)
  | dK (kvs : List (Key × PV))
  | dT (kvs : List (List Key × PV))
  | ins (C : Addr) (fs : List (Str × PV))
abbrev MH := Addr → Option MO
def mupd (h : MH) (a : Addr) (o : MO) : MH := fun b => if b = a then some o else h b
theorem mupd_same {h : MH} {a : Addr} {o : MO} : mupd h a o a = some o := by unfold mupd; rw [if_pos rfl]
theorem mupd_ne {h : MH} {a b : Addr} {o : MO} (e : b ≠ a) : mupd h a o b = h b := by unfold mupd; rw [if_neg e]
theorem mupd_mupd {h : MH} {a : Addr} {o u : MO} : mupd (mupd h a o) a u = mupd h a u := by
  funext b; unfold mupd; split <;> rfl

def KR {κ : Type} (K : Frag) (H : Hp) : List (κ × PV) → List (κ × V) → Prop := Paired fun p q => p.1 = q.1 ∧ RepV K H p.2 q.2
def ObjRel (K : Frag) (H : Hp) (a : Addr) : MO → Prop
  | .lst xs => ∃ vs, H a = some (.lst vs) ∧ RepL K H xs vs
  | .dK kvs => ∃ ws, H a = some (.dK ws) ∧ KR K H kvs ws
  | .dT kvs => ∃ ws, H a = some (.dT ws) ∧ KR K H kvs ws
  | .ins C fs => ∃ dx ws, H a = some (.ins C dx ws) ∧ KR K H fs ws

/-- A: addresses that are out of sight -/
structure Rel (K : Frag) (A : Addr → Prop) (H : Hp) (h : MH) : Prop where
  obj : ∀ a o, h a = some o → ObjRel K H a o
  hid : ∀ d, A d → h d = none ∧ ∃ o, H d = some o
structure Mon (A : Addr → Prop) (H H' : Hp) : Prop where
  tup : ∀ b xs, H b = some (.tup xs) → H' b = some (.tup xs)
  frz : ∀ b o u, H b = some (.frz o u) → H' b = some (.frz o u)
  hid : ∀ d, A d → H' d = H d
section
variable {K : Frag} {A B : Addr → Prop} {H H' H1 H2 : Hp} {h h' : MH} {a p : Addr} {o : HO}
theorem Mon.refl : Mon A H H := ⟨fun _ _ e => e, fun _ _ _ e => e, fun _ _ => rfl⟩
theorem Mon.trans (x : Mon A H H1) (y : Mon A H1 H2) : Mon A H H2 :=
  ⟨fun b xs e => y.tup b xs (x.tup b xs e), fun b o u e => y.frz b o u (x.frz b o u e), fun d hd => (y.hid d hd).trans (x.hid d hd)⟩
theorem Mon.sub (x : Mon A H H1) (s : ∀ d, B d → A d) : Mon B H H1 := ⟨x.tup, x.frz, fun d hd => x.hid d (s d hd)⟩
theorem Mon.sqT {vs : List V} (m : Mon A H H') (x : SqT K H a vs) : SqT K H' a vs := by
  rcases x with (x | ⟨o, x⟩) | x
  · exact .inl (.inl (m.tup _ _ x))
  · exact .inl (.inr ⟨o, m.frz _ _ _ x⟩)
  · exact .inr x
theorem Mon.fzL {vs : List V} (m : Mon A H H') (x : FzL H a vs) : FzL H' a vs := let ⟨o, e⟩ := x; ⟨o, m.frz _ _ _ e⟩
theorem Mon.fzW {vs : List V} (m : Mon A H H') (x : FzW K H a vs) : FzW K H' a vs := by
  rcases x with ⟨o, x⟩ | x
  · exact .inl ⟨o, m.frz _ _ _ x⟩
  · exact .inr x
theorem Mon.tpD {vs : List V} (m : Mon A H H') (x : TpD H a vs) : TpD H' a vs := let ⟨o, e, d⟩ := x; ⟨o, m.frz _ _ _ e, d⟩
mutual
theorem RepV.mon (m : Mon A H H') : ∀ {x : PV} {v : V}, RepV K H x v → RepV K H' x v
  | _, _, .non => .non
  | _, _, .bl b => .bl b
  | _, _, .int i => .int i
  | _, _, .str x => .str x
  | _, _, .ty n => .ty n
  | _, _, .ref a => .ref a
  | _, _, .tup s r => .tup (m.sqT s) (RepL.mon m r)
  | _, _, .lst s r => .lst (m.fzL s) (RepL.mon m r)
  | _, _, .scr s r => .scr (m.fzW s) (RepL.mon m r)
  | _, _, .tpl s r => .tpl (m.tpD s) (RepL.mon m r)
theorem RepL.mon (m : Mon A H H') : ∀ {xs : List PV} {vs : List V}, RepL K H xs vs → RepL K H' xs vs
  | _, _, .nil => .nil
  | _, _, .cons r t => .cons (RepV.mon m r) (RepL.mon m t)
end
theorem KR.mon {κ : Type} (m : Mon A H H') {kvs : List (κ × PV)} {ws : List (κ × V)} (r : KR K H kvs ws) : KR K H' kvs ws :=
  Paired.mapP r fun _ _ z => ⟨z.1, z.2.mon m⟩
theorem ObjRel.mon (m : Mon A H H') (e : H' a = H a) : ∀ {o : MO}, ObjRel K H a o → ObjRel K H' a o
  | .lst _, ⟨vs, q, r⟩ => ⟨vs, e.trans q, r.mon m⟩
  | .dK _, ⟨vs, q, r⟩ => ⟨vs, e.trans q, KR.mon m r⟩
  | .dT _, ⟨vs, q, r⟩ => ⟨vs, e.trans q, KR.mon m r⟩
  | .ins _ _, ⟨dx, vs, q, r⟩ => ⟨dx, vs, e.trans q, KR.mon m r⟩
theorem ObjRel.some_ {o : MO} (r : ObjRel K H a o) : ∃ u, H a = some u := by
  cases o with
  | lst xs => obtain ⟨vs, e, _⟩ := r; exact ⟨_, e⟩
  | dK xs => obtain ⟨vs, e, _⟩ := r; exact ⟨_, e⟩
  | dT xs => obtain ⟨vs, e, _⟩ := r; exact ⟨_, e⟩
  | ins C fs => obtain ⟨dx, vs, e, _⟩ := r; exact ⟨_, e⟩
theorem Rel.free (r : Rel K A H h) (e : H p = none) : h p = none := by
  cases q : h p with
  | none => rfl
  | some o =>
    obtain ⟨u, z⟩ := (r.obj p o q).some_
    rw [e] at z; cases z
theorem Rel.nothid (r : Rel K A H h) (e : H p = none) : ∀ d, A d → d ≠ p := fun d hd z => by
  obtain ⟨_, o, q⟩ := r.hid d hd
  rw [z, e] at q; cases q
theorem mon_new (e : H p = none) (hn : ∀ d, A d → d ≠ p) : Mon A H (upd H p o) :=
  ⟨fun b xs q => by rw [upd_ne (ne_of_none q e)]; exact q, fun b ob u q => by rw [upd_ne (ne_of_none q e)]; exact q, fun d hd => upd_ne (hn d hd)⟩
theorem Rel.mon_new (r : Rel K A H h) (e : H p = none) : Mon A H (upd H p o) := Ev.mon_new e (r.nothid e)
/-- a new object that the abstract heap does not tell of -/
theorem Rel.laid (r : Rel K A H h) (e : H p = none) : Rel K A (upd H p o) h := by
  refine ⟨fun a ob q => ?_, fun d hd => ?_⟩
  · have x := r.obj a ob q
    obtain ⟨u, z⟩ := x.some_
    exact x.mon (r.mon_new e) (upd_ne (ne_of_none z e))
  · obtain ⟨h1, o1, h2⟩ := r.hid d hd
    exact ⟨h1, o1, by rw [upd_ne (r.nothid e d hd)]; exact h2⟩
/-- a new object that it tells of -/
theorem Rel.tell {ob : MO} (r : Rel K A H h) (e : H p = none) (n : ObjRel K (upd H p o) p ob) : Rel K A (upd H p o) (mupd h p ob) := by
  have l := r.laid (o := o) e
  refine ⟨fun a u q => ?_, fun d hd => ⟨?_, (l.hid d hd).2⟩⟩
  · by_cases ha : a = p
    · subst ha
      rw [mupd_same] at q; cases q
      exact n
    · rw [mupd_ne ha] at q
      exact l.obj a u q
  · rw [mupd_ne (r.nothid e d hd)]
    exact (l.hid d hd).1
/-- it tells of less -/
theorem Rel.less (r : Rel K A H h) (s : ∀ a o, h' a = some o → h a = some o) : Rel K A H h' := by
  refine ⟨fun a o e => r.obj a o (s a o e), fun d hd => ⟨?_, (r.hid d hd).2⟩⟩
  cases q : h' d with
  | none => rfl
  | some o =>
    have z := s d o q
    rw [(r.hid d hd).1] at z
    cases z
theorem Rel.sub (r : Rel K A H h) (s : ∀ d, B d → A d) : Rel K B H h := ⟨r.obj, fun d hd => r.hid d (s d hd)⟩
/-- an object that it tells of is written -/
theorem mon_write {u : HO} (e : H p = some u) (h1 : ∀ xs, u ≠ .tup xs) (h2 : ∀ ob x, u ≠ .frz ob x) (hn : ∀ d, A d → d ≠ p) : Mon A H (upd H p o) :=
  ⟨fun b xs q => by rw [upd_ne (ne_of q e fun z => h1 xs z.symm)]; exact q, fun b ob x q => by rw [upd_ne (ne_of q e fun z => h2 ob x z.symm)]; exact q, fun d hd => upd_ne (hn d hd)⟩
theorem ObjRel.plain {ob : MO} (r : ObjRel K H a ob) : ∃ u, H a = some u ∧ (∀ xs, u ≠ .tup xs) ∧ ∀ q x, u ≠ .frz q x := by
  cases ob with
  | lst xs => obtain ⟨vs, e, _⟩ := r; exact ⟨_, e, fun _ => (by intro z; cases z), fun _ _ => (by intro z; cases z)⟩
  | dK xs => obtain ⟨vs, e, _⟩ := r; exact ⟨_, e, fun _ => (by intro z; cases z), fun _ _ => (by intro z; cases z)⟩
  | dT xs => obtain ⟨vs, e, _⟩ := r; exact ⟨_, e, fun _ => (by intro z; cases z), fun _ _ => (by intro z; cases z)⟩
  | ins C fs => obtain ⟨dx, vs, e, _⟩ := r; exact ⟨_, e, fun _ => (by intro z; cases z), fun _ _ => (by intro z; cases z)⟩
theorem Rel.seen {ob : MO} (r : Rel K A H h) (e : h p = some ob) : ∀ d, A d → d ≠ p := fun d hd z => by
  have := (r.hid d hd).1
  rw [z, e] at this; cases this
theorem Rel.mon_write {ob : MO} (r : Rel K A H h) (e : h p = some ob) : Mon A H (upd H p o) := by
  obtain ⟨u, q, h1, h2⟩ := (r.obj p ob e).plain
  exact Ev.mon_write q h1 h2 (r.seen e)
theorem Rel.write {ob new : MO} (r : Rel K A H h) (e : h p = some ob) (n : ObjRel K (upd H p o) p new) : Rel K A (upd H p o) (mupd h p new) := by
  have m := r.mon_write (o := o) e
  refine ⟨fun a u q => ?_, fun d hd => ⟨?_, ?_⟩⟩
  · by_cases ha : a = p
    · subst ha
      rw [mupd_same] at q; cases q
      exact n
    · rw [mupd_ne ha] at q
      exact (r.obj a u q).mon m (upd_ne ha)
  · rw [mupd_ne (r.seen e d hd)]
    exact (r.hid d hd).1
  · rw [upd_ne (r.seen e d hd)]
    exact (r.hid d hd).2

/-! ### lists of values -/
theorem RepL.length : ∀ {xs : List PV} {vs : List V}, RepL K H xs vs → xs.length = vs.length
  | _, _, .nil => rfl
  | _, _, .cons _ t => by rw [List.length_cons, List.length_cons, RepL.length t]
theorem RepL.get : ∀ {xs : List PV} {vs : List V} {i : Nat} {x : PV}, RepL K H xs vs → xs[i]? = some x → ∃ v, vs[i]? = some v ∧ RepV K H x v
  | _, _, _, _, .nil, e => by simp at e
  | _, _, 0, _, .cons r _, e => by simp at e; subst e; exact ⟨_, rfl, r⟩
  | _, _, i + 1, x, .cons _ t, e => by
    obtain ⟨u, h1, h2⟩ := RepL.get (i := i) (x := x) t (by simpa using e)
    exact ⟨u, by simpa using h1, h2⟩
theorem RepL.get' : ∀ {xs : List PV} {vs : List V} {i : Nat} {v : V}, RepL K H xs vs → vs[i]? = some v → ∃ x, xs[i]? = some x ∧ RepV K H x v
  | _, _, _, _, .nil, e => by simp at e
  | _, _, 0, _, .cons r _, e => by simp at e; subst e; exact ⟨_, rfl, r⟩
  | _, _, i + 1, x, .cons _ t, e => by
    obtain ⟨u, h1, h2⟩ := RepL.get' (i := i) (v := x) t (by simpa using e)
    exact ⟨u, by simpa using h1, h2⟩
theorem RepL.append : ∀ {xs ys : List PV} {vs ws : List V}, RepL K H xs vs → RepL K H ys ws → RepL K H (xs ++ ys) (vs ++ ws)
  | _, _, _, _, .nil, s => s
  | _, _, _, _, .cons r t, s => .cons r (RepL.append t s)
theorem RepL.take : ∀ {xs : List PV} {vs : List V} (n : Nat), RepL K H xs vs → RepL K H (xs.take n) (vs.take n)
  | _, _, 0, _ => .nil
  | _, _, _ + 1, .nil => .nil
  | _, _, n + 1, .cons r t => .cons r (RepL.take n t)
theorem RepL.drop : ∀ {xs : List PV} {vs : List V} (n : Nat), RepL K H xs vs → RepL K H (xs.drop n) (vs.drop n)
  | _, _, 0, r => r
  | _, _, _ + 1, .nil => .nil
  | _, _, n + 1, .cons _ t => RepL.drop n t
theorem RepL.set {x : PV} {v : V} (r : RepV K H x v) : ∀ {xs : List PV} {vs : List V} (i : Nat), RepL K H xs vs → RepL K H (xs.set i x) (vs.set i v)
  | _, _, _, .nil => .nil
  | _, _, 0, .cons _ t => .cons r t
  | _, _, i + 1, .cons q t => .cons q (RepL.set r i t)
theorem RepL.rep {xs : List PV} {vs : List V} (r : RepL K H xs vs) : ∀ k : Nat, RepL K H (List.replicate k xs).flatten (List.replicate k vs).flatten
  | 0 => .nil
  | k + 1 => by
    rw [List.replicate_succ, List.replicate_succ, List.flatten_cons, List.flatten_cons]
    exact r.append (RepL.rep r k)
theorem RepL.dropLast {xs : List PV} {vs : List V} (r : RepL K H xs vs) : RepL K H xs.dropLast vs.dropLast := by
  rw [List.dropLast_eq_take, List.dropLast_eq_take, r.length]
  exact r.take _
theorem RepL.reverse {xs : List PV} {vs : List V} (r : RepL K H xs vs) : RepL K H xs.reverse vs.reverse := by
  induction xs generalizing vs with
  | nil => cases r; exact .nil
  | cons x xs ih =>
    cases r with
    | cons a b =>
      rw [List.reverse_cons, List.reverse_cons]
      exact (ih b).append (.cons a .nil)
theorem RepL.map_int : ∀ {ns : List Int} {vs : List V}, RepL K H (ns.map PV.int) vs → vs = ns.map V.int
  | [], _, r => by cases r; rfl
  | n :: ns, _, r => by
    cases r with
    | cons a b =>
      cases a
      rw [RepL.map_int b]
      rfl
theorem RepL.of_int : ∀ (ns : List Int), RepL K H (ns.map PV.int) (ns.map V.int)
  | [] => .nil
  | n :: ns => .cons (.int n) (RepL.of_int ns)
theorem RepL.map_bl : ∀ {ns : List Bool} {vs : List V}, RepL K H (ns.map PV.bl) vs → vs = ns.map V.bl
  | [], _, r => by cases r; rfl
  | n :: ns, _, r => by
    cases r with
    | cons a b =>
      cases a
      rw [RepL.map_bl b]
      rfl
theorem RepL.map_str : ∀ {ns : List Str} {vs : List V}, RepL K H (ns.map PV.str) vs → vs = ns.map V.str
  | [], _, r => by cases r; rfl
  | n :: ns, _, r => by
    cases r with
    | cons a b =>
      cases a
      rw [RepL.map_str b]
      rfl

/-- the slots -/
abbrev Env := List (Option PV)
structure RepSt (K : Frag) (H : Hp) (ρ : Env) (σ : L2.St) : Prop where
  len : ρ.length = σ.length
  val : ∀ (i : Nat) (x : PV), ρ[i]? = some (some x) → ∃ v, σ[i]? = some (some v) ∧ RepV K H x v
theorem RepSt.mon {ρ : Env} {σ : L2.St} (m : Mon A H H') (r : RepSt K H ρ σ) : RepSt K H' ρ σ :=
  ⟨r.len, fun i x e => let ⟨v, e1, e2⟩ := r.val i x e; ⟨v, e1, e2.mon m⟩⟩
theorem RepSt.set {ρ : Env} {σ : L2.St} {x : PV} {v : V} (r : RepSt K H ρ σ) (i : Nat) (rv : RepV K H x v) : RepSt K H (ρ.set i (some x)) (σ.set i (some v)) := by
  refine ⟨by simpa using r.len, fun j y e => ?_⟩
  by_cases hj : i = j
  · subst hj
    rw [List.getElem?_set] at e ⊢
    rw [if_pos rfl] at e ⊢
    split at e
    · rename_i hl
      cases e
      exact ⟨v, by rw [if_pos (by rw [← r.len]; exact hl)], rv⟩
    · cases e
  · rw [List.getElem?_set_ne hj] at e ⊢
    exact r.val j y e
end
/-- some slots forgotten -/
def wipeE (ρ : Env) : List Nat → Env
  | [] => ρ
  | i :: is => (wipeE ρ is).set i none
theorem RepSt.wipe {K : Frag} {H : Hp} {ρ : Env} {σ : L2.St} (r : RepSt K H ρ σ) : ∀ is : List Nat, RepSt K H (wipeE ρ is) (L2.wipe σ is)
  | [] => r
  | i :: is => by
    have q := RepSt.wipe r is
    refine ⟨by unfold wipeE L2.wipe; simpa using q.len, fun j x e => ?_⟩
    unfold wipeE at e
    unfold L2.wipe
    by_cases hj : i = j
    · subst hj
      rw [List.getElem?_set, if_pos rfl] at e
      split at e <;> cases e
    · rw [List.getElem?_set_ne hj] at e ⊢
      exact q.val j x e
end Ev

set_option Elab.async false
set_option linter.all false
set_option maxRecDepth 100000
set_option maxHeartbeats 4000000
/-! Ev2: readings over pure values; the operations by values. -/
namespace Ev
open PySem PySem.Spec PyProof.Rows L2

abbrev PK := PV → MH → Prop
abbrev LK := List PV → MH → Prop
abbrev WE := Env → MH → PK → Prop
abbrev WT := Env → MH → (Bool → MH → Prop) → Prop
abbrev WA := Env → MH → LK → Prop
abbrev O1 := PV → MH → PK → Prop
abbrev O2 := PV → PV → MH → PK → Prop
abbrev OL := List PV → MH → PK → Prop
def MonE (w : WE) : Prop := ∀ ρ h (P Q : PK), (∀ x h, P x h → Q x h) → w ρ h P → w ρ h Q
def MonT (w : WT) : Prop := ∀ ρ h (P Q : Bool → MH → Prop), (∀ x h, P x h → Q x h) → w ρ h P → w ρ h Q
def MonA (w : WA) : Prop := ∀ ρ h (P Q : LK), (∀ x h, P x h → Q x h) → w ρ h P → w ρ h Q
def Mon1 (o : O1) : Prop := ∀ x h (P Q : PK), (∀ x h, P x h → Q x h) → o x h P → o x h Q
def Mon2 (o : O2) : Prop := ∀ x y h (P Q : PK), (∀ x h, P x h → Q x h) → o x y h P → o x y h Q
def MonL (o : OL) : Prop := ∀ xs h (P Q : PK), (∀ x h, P x h → Q x h) → o xs h P → o xs h Q

/-- what is kept in mind of the heap as it goes (for what is raised) -/
abbrev Jw := (Addr → Prop) → Hp → Prop
structure JOk (J : Jw) : Prop where
  mon : ∀ {A H H'}, J A H → Mon A H H' → J A H'
  big : ∀ {A B H}, J A H → (∀ d, A d → B d) → J B H
abbrev J0 : Jw := fun _ _ => True
theorem j0 : JOk J0 := ⟨fun _ _ => trivial, fun _ _ => trivial⟩
section
variable (K : Frag)
/-- what a wish about the value's reading wants of the value -/
def up (A : Addr → Prop) (H : Hp) (Q : VK) : PK := fun x h' => ∀ v H', Mon A H H' → Rel K A H' h' → RepV K H' x v → Q v H'
def upL (A : Addr → Prop) (H : Hp) (Q : List V → Hp → Prop) : LK := fun x h' => ∀ v H', Mon A H H' → Rel K A H' h' → RepL K H' x v → Q v H'
def upT (A : Addr → Prop) (H : Hp) (Q : Bool → Hp → Prop) : Bool → MH → Prop := fun b h' => ∀ H', Mon A H H' → Rel K A H' h' → Q b H'
def tE (J : Jw) (w : WE) : TE := fun σ H Q => ∃ A ρ h, J A H ∧ RepSt K H ρ σ ∧ Rel K A H h ∧ w ρ h (up K A H Q)
def tT (J : Jw) (w : WT) : TT := fun σ H Q => ∃ A ρ h, J A H ∧ RepSt K H ρ σ ∧ Rel K A H h ∧ w ρ h (upT K A H Q)
def tA (J : Jw) (w : WA) : TA := fun σ H Q => ∃ A ρ h, J A H ∧ RepSt K H ρ σ ∧ Rel K A H h ∧ w ρ h (upL K A H Q)
def l1 (o : O1) : V → Hp → VK → Prop := fun x H Q => ∃ A a h, Rel K A H h ∧ RepV K H a x ∧ o a h (up K A H Q)
def l2 (o : O2) : R2 := fun x y H Q => ∃ A a b h, Rel K A H h ∧ RepV K H a x ∧ RepV K H b y ∧ o a b h (up K A H Q)
def lL (o : OL) : List V → Hp → VK → Prop := fun xs H Q => ∃ A as h, Rel K A H h ∧ RepL K H as xs ∧ o as h (up K A H Q)
end
section
variable {K : Frag} {A : Addr → Prop} {H H' H1 : Hp} {h h1 : MH} {ρ : Env} {σ : L2.St}
theorem up.trans {Q : VK} {x : PV} {h' : MH} (m : Mon A H H1) (u : up K A H Q x h') : up K A H1 Q x h' := fun v H' m' r rv => u v H' (m.trans m') r rv
theorem tE_of {J : Jw} {w : WE} {R : VK} {P : PK} (jj : JOk J) (j : J A H) (rs : RepSt K H ρ σ) (r : Rel K A H h) (m : MonE w) (hw : w ρ h P)
    (k : ∀ x h1 v H1, P x h1 → J A H1 → RepSt K H1 ρ σ → Mon A H H1 → Rel K A H1 h1 → RepV K H1 x v → R v H1) : tE K J w σ H R :=
  ⟨A, ρ, h, j, rs, r, m _ _ _ _ (fun x h1 p v H1 mo re rv => k x h1 v H1 p (jj.mon j mo) (rs.mon mo) mo re rv) hw⟩
theorem tT_of {J : Jw} {w : WT} {R : Bool → Hp → Prop} {P : Bool → MH → Prop} (jj : JOk J) (j : J A H) (rs : RepSt K H ρ σ) (r : Rel K A H h) (m : MonT w) (hw : w ρ h P)
    (k : ∀ x h1 H1, P x h1 → J A H1 → RepSt K H1 ρ σ → Mon A H H1 → Rel K A H1 h1 → R x H1) : tT K J w σ H R :=
  ⟨A, ρ, h, j, rs, r, m _ _ _ _ (fun x h1 p H1 mo re => k x h1 H1 p (jj.mon j mo) (rs.mon mo) mo re) hw⟩
theorem tA_of {J : Jw} {w : WA} {R : List V → Hp → Prop} {P : LK} (jj : JOk J) (j : J A H) (rs : RepSt K H ρ σ) (r : Rel K A H h) (m : MonA w) (hw : w ρ h P)
    (k : ∀ x h1 v H1, P x h1 → J A H1 → RepSt K H1 ρ σ → Mon A H H1 → Rel K A H1 h1 → RepL K H1 x v → R v H1) : tA K J w σ H R :=
  ⟨A, ρ, h, j, rs, r, m _ _ _ _ (fun x h1 p v H1 mo re rv => k x h1 v H1 p (jj.mon j mo) (rs.mon mo) mo re rv) hw⟩
theorem up.now {Q : VK} {x : PV} {v : V} {h : MH} (u : up K A H Q x h) (r : Rel K A H h) (rv : RepV K H x v) : Q v H := u v H .refl r rv
end

/-! ### freezing -/
def fz (Q : VK) : VK := fun v H1 => ∃ a xs, v = .ref a ∧ H1 a = some (.lst xs) ∧ ∀ o, Q v (upd H1 a (.frz o (.lst xs)))
section
variable {X : Cx} {pins : List (Addr × Obj)} {σ : L2.St}
theorem ep_fz {Q : VK} {u : Value} {s' : Shared} (e : EP X pins σ (fz Q) u s') : EP X pins σ Q u s' := by
  obtain ⟨v, H', I, r, a, xs, rfl, ha, q⟩ := e
  obtain ⟨od, J⟩ := I.lock ha trivial
  exact ⟨_, _, J, r, q od⟩
theorem pe_fz {e : Expr} {t : TE} (h : PE X e t) : PE X e (fun σ H Q => t σ H (Ev.fz Q)) :=
  ⟨fun pins s σ H Q I hw => thn (h.run pins s σ H _ I hw) fun _ _ z => ep_fz z⟩
theorem opr_fz {f : Value → Value → Sem Value} {r : R2} (h : OpR X f r) : OpR X f (fun x y H Q => r x y H (Ev.fz Q)) :=
  fun pins s σ H x y v u Q I rx ry hw => thn (h pins s σ H x y v u _ I rx ry hw) fun _ _ z => ep_fz z
theorem callr_fz {f : Value} {r : List V → Hp → VK → Prop} (h : CallR X f r) : CallR X f (fun xs H Q => r xs H (Ev.fz Q)) :=
  fun pins s σ H vs us Q I rv hw => thn (h pins s σ H vs us _ I rv hw) fun _ _ z => ep_fz z
end
/-- a new list: one that may be changed, or a frozen one -/
def allocL (m : Bool) (xs : List PV) (h : MH) (Q : PK) : Prop := match m with
  | false => Q (.lst xs) h
  | true => ∀ p, h p = none → Q (.ref p) (mupd h p (.lst xs))
theorem allocL_mono {m : Bool} {xs : List PV} {h : MH} {P Q : PK} (k : ∀ x h, P x h → Q x h) (a : allocL m xs h P) : allocL m xs h Q := by
  cases m with
  | false => exact k _ _ a
  | true => exact fun p hp => k _ _ (a p hp)
def fzm (m : Bool) (Q : VK) : VK := match m with
  | false => fz Q
  | true => Q
section
variable {X : Cx} {K : Frag} {A : Addr → Prop} {H H' : Hp} {h : MH} {xs : List PV} {vs : List V} {Q : VK} {m : Bool}
/-- the new list stands at p already: (the list at p was out of sight, or is new) -/
theorem alloc_at {H0 : Hp} {p : Addr} (m0 : Mon A H0 (upd H p (.lst vs))) (r : Rel K A (upd H p (.lst vs)) h) (hp : h p = none) (np : ∀ d, A d → d ≠ p) (fr : ∀ o, Mon A H0 (upd H p (.frz o (.lst vs))))
    (rl : RepL K (upd H p (.lst vs)) xs vs) (rl2 : ∀ o, RepL K (upd H p (.frz o (.lst vs))) xs vs) (r2 : ∀ o, Rel K A (upd H p (.frz o (.lst vs))) h) (q : allocL m xs h (up K A H0 Q)) : fzm m Q (.ref p) (upd H p (.lst vs)) := by
  cases m with
  | true =>
    refine q p hp (.ref p) _ m0 ⟨fun a u e => ?_, fun d hd => ⟨?_, (r.hid d hd).2⟩⟩ (.ref p)
    · by_cases ha : a = p
      · subst ha
        rw [mupd_same] at e; cases e
        exact ⟨vs, upd_same, rl⟩
      · rw [mupd_ne ha] at e
        exact r.obj a u e
    · rw [mupd_ne (np d hd)]
      exact (r.hid d hd).1
  | false =>
    refine ⟨p, vs, rfl, upd_same, fun o => ?_⟩
    rw [upd_upd]
    exact q (.ref p) _ (fr o) (r2 o) (.lst ⟨o, upd_same⟩ (rl2 o))
theorem alloc_new {p : Addr} (r : Rel K A H h) (rl : RepL K H xs vs) (hp : H p = none) (q : allocL m xs h (up K A H Q)) : fzm m Q (.ref p) (upd H p (.lst vs)) :=
  alloc_at (r.mon_new hp) (r.laid hp) (r.free hp) (r.nothid hp) (fun o => r.mon_new hp) (rl.mon (r.mon_new hp)) (fun o => rl.mon (r.mon_new (o := .frz o (.lst vs)) hp)) (fun o => r.laid hp) q
theorem tup_new {p : Addr} (r : Rel K A H h) (rl : RepL K H xs vs) (hp : H p = none) (q : up K A H Q (.tup xs) h) : Q (.ref p) (upd H p (.tup vs)) :=
  q (.ref p) _ (r.mon_new hp) (r.laid hp) (.tup (.of upd_same) (rl.mon (r.mon_new (o := .tup vs) hp)))
theorem opr_fzm {f : Value → Value → Sem Value} {r : R2} (hr : OpR X f r) (m : Bool) : OpR X f (fun x y H Q => r x y H (Ev.fzm m Q)) := by
  cases m with
  | true => exact hr
  | false => exact opr_fz hr
theorem callr_fzm {f : Value} {r : List V → Hp → VK → Prop} (hr : CallR X f r) (m : Bool) : CallR X f (fun xs H Q => r xs H (Ev.fzm m Q)) := by
  cases m with
  | true => exact hr
  | false => exact callr_fz hr
theorem pe_fzm {e : Expr} {t : TE} (hr : PE X e t) (m : Bool) : PE X e (fun σ H Q => t σ H (Ev.fzm m Q)) := by
  cases m with
  | true => exact hr
  | false => exact pe_fz hr
end

/-! ### the lists behind a value -/
/-- the items of a list -/
def asLst (h : MH) : PV → Option (List PV)
  | .lst xs => some xs
  | .ref r => (match h r with
    | some (.lst xs) => some xs
    | _ => none)
  | _ => none
/-- .. or of the script -/
def asLstW (h : MH) : PV → Option (List PV)
  | .scr xs => some xs
  | x => asLst h x
/-- .. or of a tuple -/
def asSeq (h : MH) : PV → Option (List PV)
  | .tup xs => some xs
  | .tpl xs => some xs
  | x => asLstW h x
section
variable {K : Frag} {A : Addr → Prop} {H : Hp} {h : MH} {x : PV} {v : V} {xs : List PV}
theorem asLst_rd (r : Rel K A H h) (rv : RepV K H x v) (e : asLst h x = some xs) : ∃ a vs, v = .ref a ∧ Rd H a (.lst vs) ∧ RepL K H xs vs := by
  cases rv with
  | lst s l => cases e; exact ⟨_, _, rfl, s.rd, l⟩
  | ref a =>
    have e : (match h a with | some (.lst xs) => some xs | _ => none) = some xs := e
    split at e
    · rename_i ys q
      cases e
      obtain ⟨vs, z, l⟩ := r.obj a _ q
      exact ⟨_, _, rfl, .of z, l⟩
    · cases e
  | _ => cases e
theorem asLstW_sq (r : Rel K A H h) (rv : RepV K H x v) (e : asLstW h x = some xs) : ∃ a vs, v = .ref a ∧ SqL K H a vs ∧ RepL K H xs vs := by
  have go : asLst h x = some xs → ∃ a vs, v = .ref a ∧ SqL K H a vs ∧ RepL K H xs vs := fun e =>
    let ⟨a, vs, e1, q, l⟩ := asLst_rd r rv e
    ⟨a, vs, e1, .inl q, l⟩
  cases rv with
  | scr s l => cases e; exact ⟨_, _, rfl, s.sq, l⟩
  | _ => exact go e
theorem asSeq_sq (r : Rel K A H h) (rv : RepV K H x v) (e : asSeq h x = some xs) : ∃ a vs, v = .ref a ∧ ((SqL K H a vs ∧ asLstW h x = some xs) ∨ (SqT K H a vs ∧ (x = .tup xs ∨ x = .tpl xs))) ∧ RepL K H xs vs := by
  have go : asLstW h x = some xs → ∃ a vs, v = .ref a ∧ ((SqL K H a vs ∧ asLstW h x = some xs) ∨ (SqT K H a vs ∧ (x = .tup xs ∨ x = .tpl xs))) ∧ RepL K H xs vs := fun e =>
    let ⟨a, vs, e1, q, l⟩ := asLstW_sq r rv e
    ⟨a, vs, e1, .inl ⟨q, e⟩, l⟩
  cases rv with
  | tup s l => cases e; exact ⟨_, _, rfl, .inr ⟨s, .inl rfl⟩, l⟩
  | tpl s l => cases e; exact ⟨_, _, rfl, .inr ⟨s.sq, .inr rfl⟩, l⟩
  | _ => exact go e
end
end Ev

set_option Elab.async false
set_option linter.all false
set_option maxRecDepth 100000
set_option maxHeartbeats 4000000
/-! Ev3: the operations by values. -/
namespace Ev
open PySem PySem.Spec PyProof.Rows L2

/-! ### data -/
mutual
def datV (g : Addr → Option PyData) : PV → Option PyData
  | .non => some .none
  | .bl b => some (.bool b)
  | .int i => some (.int i)
  | .str x => some (.str x)
  | .tup xs => (datL g xs).map .tuple
  | .lst xs => (datL g xs).map .list
  | .scr xs => (datL g xs).map .list
  | .ref a => g a
  | .tpl xs => (datL g xs).map .tuple
  | .ty _ => none
def datL (g : Addr → Option PyData) : List PV → Option (List PyData)
  | [] => some []
  | x :: xs => (datV g x).bind fun d => (datL g xs).map fun ds => d :: ds
end
def deref (h : MH) : Nat → Addr → Option PyData
  | 0, _ => none
  | n + 1, a => match h a with
    | some (.lst xs) => (datL (deref h n) xs).map .list
    | _ => none
/-- the data that a value is, lists that may be changed as they stand (five deep) -/
def dat (h : MH) (x : PV) : Option PyData := datV (deref h 5) x
section
variable {K : Frag} {A : Addr → Prop} {H : Hp} {h : MH}
mutual
theorem datV_dp {g : Addr → Option PyData} (hg : ∀ a d, g a = some d → Dp K H (.ref a) d) : ∀ {x : PV} {v : V} {d : PyData}, RepV K H x v → datV g x = some d → Dp K H v d
  | _, _, _, .non, e => by cases e; exact .non
  | _, _, _, .bl b, e => by cases e; exact .bl b
  | _, _, _, .int b, e => by cases e; exact .int b
  | _, _, _, .str b, e => by cases e; exact .str b
  | _, _, _, .ty b, e => by cases e
  | _, _, _, .ref a, e => hg a _ e
  | _, _, _, .tup (xs := xs) s l, e => by
    simp only [datV] at e
    obtain ⟨ds, e1, rfl⟩ := Option.map_eq_some_iff.mp e
    exact .tup s (datL_dp hg l e1)
  | _, _, _, .lst (xs := xs) s l, e => by
    simp only [datV] at e
    obtain ⟨ds, e1, rfl⟩ := Option.map_eq_some_iff.mp e
    exact .lst (.inl s.rd) (datL_dp hg l e1)
  | _, _, _, .scr (xs := xs) s l, e => by
    simp only [datV] at e
    obtain ⟨ds, e1, rfl⟩ := Option.map_eq_some_iff.mp e
    exact .lst s.sq (datL_dp hg l e1)
  | _, _, _, .tpl (xs := xs) s l, e => by
    simp only [datV] at e
    obtain ⟨ds, e1, rfl⟩ := Option.map_eq_some_iff.mp e
    exact .tup s.sq (datL_dp hg l e1)
theorem datL_dp {g : Addr → Option PyData} (hg : ∀ a d, g a = some d → Dp K H (.ref a) d) : ∀ {xs : List PV} {vs : List V} {ds : List PyData}, RepL K H xs vs → datL g xs = some ds → DpAll K H vs ds
  | _, _, _, .nil, e => by cases e; exact .nil
  | _, _, _, .cons r t, e => by
    simp only [datL] at e
    obtain ⟨d, e1, e2⟩ := Option.bind_eq_some_iff.mp e
    obtain ⟨ds, e3, rfl⟩ := Option.map_eq_some_iff.mp e2
    exact .cons (datV_dp hg r e1) (datL_dp hg t e3)
end
theorem deref_dp (r : Rel K A H h) : ∀ (n : Nat) (a : Addr) (d : PyData), deref h n a = some d → Dp K H (.ref a) d
  | 0, _, _, e => by cases e
  | n + 1, a, d, e => by
    unfold deref at e
    split at e
    · rename_i xs q
      obtain ⟨ds, e1, rfl⟩ := Option.map_eq_some_iff.mp e
      obtain ⟨vs, z, l⟩ := r.obj a _ q
      exact .lst (.of z) (datL_dp (deref_dp r n) l e1)
    · cases e
theorem dat_dp (r : Rel K A H h) {x : PV} {v : V} {d : PyData} (rv : RepV K H x v) (e : dat h x = some d) : Dp K H v d := datV_dp (deref_dp r 5) rv e
end

/-! ### binary operations -/
inductive BOp where
  | add | sub | mul | fdiv | mod | pow
  deriving DecidableEq
def BOp.op : BOp → Operator
  | .add => .Add | .sub => .Sub | .mul => .Mult | .fdiv => .FloorDiv | .mod => .Mod | .pow => .Pow
def opAdd (m : Bool) : O2 := fun x y h Q => match x, y with
  | .int i, .int j => Q (.int (i + j)) h
  | .str a, .str b => a.length + b.length ≤ sizeLine ∧ Q (.str (a ++ b)) h
  | .tup xs, .tup ys => xs.length + ys.length ≤ sizeLine ∧ Q (.tup (xs ++ ys)) h
  | x, y => ∃ xs ys, asLst h x = some xs ∧ asLst h y = some ys ∧ xs.length + ys.length ≤ sizeLine ∧ allocL m (xs ++ ys) h Q
def opSub : O2 := fun x y h Q => match x, y with
  | .int i, .int j => Q (.int (i - j)) h
  | _, _ => False
def opMul (m : Bool) : O2 := fun x y h Q => match x, y with
  | .int i, .int j => (CMul i j ∨ CMulW i j) ∧ Q (.int (i * j)) h
  | .tup xs, .int k => xs ≠ [] ∧ 2 ≤ k ∧ k ≤ 1000 ∧ xs.length ≤ 1000 ∧ Q (.tup (List.replicate k.toNat xs).flatten) h
  | x, .int k => ∃ xs, asLst h x = some xs ∧ -(2 ^ 63) ≤ k ∧ k < 2 ^ 63 ∧ xs.length * k.toNat ≤ sizeLine ∧ allocL m (List.replicate k.toNat xs).flatten h Q
  | _, _ => False
def opFdiv : O2 := fun x y h Q => match x, y with
  | .int i, .int j => CDivW i j ∧ Q (.int (i / j)) h
  | _, _ => False
def opMod : O2 := fun x y h Q => match x, y with
  | .int i, .int j => 0 < j ∧ Q (.int (i % j)) h
  | _, _ => False
def opPow : O2 := fun x y h Q => match x, y with
  | .int i, .int j => CPow i j ∧ Q (.int (i ^ j.toNat)) h
  | _, _ => False
def binOp (m : Bool) : BOp → O2
  | .add => opAdd m | .sub => opSub | .mul => opMul m | .fdiv => opFdiv | .mod => opMod | .pow => opPow

theorem mono_opAdd (m : Bool) : Mon2 (opAdd m) := by
  intro x y h P Q k
  unfold opAdd
  split
  · exact k _ _
  · exact fun z => ⟨z.1, k _ _ z.2⟩
  · exact fun z => ⟨z.1, k _ _ z.2⟩
  · exact fun ⟨xs, ys, e1, e2, e3, a⟩ => ⟨xs, ys, e1, e2, e3, allocL_mono k a⟩
theorem mono_opSub : Mon2 opSub := by
  intro x y h P Q k
  unfold opSub
  split
  · exact k _ _
  · exact id
theorem mono_opMul (m : Bool) : Mon2 (opMul m) := by
  intro x y h P Q k
  unfold opMul
  split
  · exact fun z => ⟨z.1, k _ _ z.2⟩
  · exact fun ⟨e1, e2, e3, e4, a⟩ => ⟨e1, e2, e3, e4, k _ _ a⟩
  · exact fun ⟨xs, e1, e2, e3, e4, a⟩ => ⟨xs, e1, e2, e3, e4, allocL_mono k a⟩
  · exact id
theorem mono_opFdiv : Mon2 opFdiv := by
  intro x y h P Q k
  unfold opFdiv
  split
  · exact fun z => ⟨z.1, k _ _ z.2⟩
  · exact id
theorem mono_opMod : Mon2 opMod := by
  intro x y h P Q k
  unfold opMod
  split
  · exact fun z => ⟨z.1, k _ _ z.2⟩
  · exact id
theorem mono_opPow : Mon2 opPow := by
  intro x y h P Q k
  unfold opPow
  split
  · exact fun z => ⟨z.1, k _ _ z.2⟩
  · exact id
theorem mono_bin (m : Bool) : ∀ op, Mon2 (binOp m op)
  | .add => mono_opAdd m | .sub => mono_opSub | .mul => mono_opMul m | .fdiv => mono_opFdiv | .mod => mono_opMod | .pow => mono_opPow

section
variable {X : Cx}
/-- list + list, lists that are read -/
def rCatR : R2 := fun x y H Q => ∃ l b xs zs, x = .ref l ∧ y = .ref b ∧ Rd H l (.lst xs) ∧ Rd H b (.lst zs) ∧ xs.length + zs.length ≤ sizeLine ∧ ∀ p, H p = none → Q (.ref p) (upd H p (.lst (xs ++ zs)))
theorem rdL {pins : List (Addr × Obj)} {σ : L2.St} {H : Hp} {s : Shared} {l : Addr} {xs : List V} (I : Inv X pins σ H s) (hH : Rd H l (.lst xs)) :
    xs.length ≤ sizeLine ∧ ∃ (its : List Value) (n : Nat), Vals xs its ∧ xs.length = its.length ∧ s.heap.get? l = some { cls := .type "list", data := .seq its.toArray n } := by
  obtain ⟨z, its, n, r, e⟩ := hH.ok I.hok
  exact ⟨z, its, n, r, r.length, e⟩
theorem op_catR : OpR X (binaryOp .Add) rCatR := by
  intro pins s σ H x y v u Q I rx ry h
  obtain ⟨l, b, xs, zs, rfl, rfl, hH, hB, hz, q⟩ := h
  cases rx
  cases ry
  obtain ⟨z, its, n, r, hl, e⟩ := rdL I hH
  obtain ⟨z2, its2, n2, r2, hl2, e2⟩ := rdL I hB
  refine PySem.P.add_list e e2 ?_ (by rw [List.size_toArray, List.size_toArray]; omega)
  have ea : its.toArray ++ its2.toArray = (its ++ its2).toArray := by simp
  rw [ea]
  exact ⟨.ref _, _, I.lnew (t' := s.toks) (r.append r2) (by rw [List.length_append]; omega), rfl, q _ I.fresh⟩
def rRepR : R2 := fun x y H Q => ∃ l k xs, x = .ref l ∧ y = .int k ∧ Rd H l (.lst xs) ∧ -(2 ^ 63) ≤ k ∧ k < 2 ^ 63 ∧ xs.length * k.toNat ≤ sizeLine ∧
  ∀ p, H p = none → Q (.ref p) (upd H p (.lst (List.replicate k.toNat xs).flatten))
theorem op_repR : OpR X (binaryOp .Mult) rRepR := by
  intro pins s σ H x y v u Q I rx ry h
  obtain ⟨l, k, xs, rfl, rfl, hH, h1, h2, hz, q⟩ := h
  cases rx
  obtain ⟨t, rfl⟩ := ry
  obtain ⟨z, its, n, r, hl, e⟩ := rdL I hH
  have hlen : its.toArray.size * k.toNat ≤ sizeLine := by rw [List.size_toArray, ← hl]; exact hz
  have hcap : ¬ its.toArray.size * k.toNat > (2 ^ 63 - 1) / 8 := by
    have : (sizeLine : Nat) ≤ (2 ^ 63 - 1) / 8 := by decide
    omega
  have hfit : ¬ (!Builtin.List.listFitsIndex k) = true := by
    rw [fitsIndex_both h1 h2]
    exact Bool.false_ne_true
  have hlong : ¬ Builtin.List.listTooLong (its.toArray.size * k.toNat) = true := by
    rw [notLongL hlen]
    exact Bool.false_ne_true
  have hnew : List.foldl (fun x1 x2 => x1 ++ x2) #[] (List.replicate (if its.toArray.isEmpty = true then 0 else k.toNat) its.toArray) = (List.replicate k.toNat its).flatten.toArray := by
    have f0 : ∀ m : Nat, List.foldl (fun x1 x2 => x1 ++ x2) #[] (List.replicate m its.toArray) = (List.replicate m its).flatten.toArray := fun m => by
      have := foldl_rep its m []
      rw [List.nil_append] at this
      exact this
    rw [f0]
    cases its with
    | nil => simp
    | cons a r' => rw [if_neg (by simp)]
  refine wpAny_binaryOp_repeat_ref (T := "list") (U := "int") (by decide) ⟨_, e, rfl⟩ (fun s' => typeIs_int s' k t) noFill_list_mul F.fills_int_mul F.slot_int_rmul repeat_list F.slot_int_index.lookup
    (call_meets F.slot_int_rmul (typeIs_int s k t) F.entry_int_rmul (F.args_int_rmul_2 _ _) (int___rmul___int_list k t l its.toArray n)
      ⟨e, rfl, ⟨_, e, rfl⟩, call_meets F.slot_list_mul ⟨_, e, rfl⟩ F.entry_list_mul (F.args_list_mul_2 _ _) (AutoListH.list___mul___list_int_3 l its.toArray n k t hfit hcap hlong) ⟨e, ?_⟩⟩)
  rw [hnew]
  exact ⟨.ref _, _, I.lnew (t' := s.toks) (r.rep k.toNat) (by rw [PyProof.Rows.lm_len_rep_flat, Nat.mul_comm]; exact hz), rfl, q _ I.fresh⟩

theorem ok_opAdd (m : Bool) : OpR X (binaryOp .Add) (l2 X.K (opAdd m)) := by
  intro pins s σ H x y v u Q I rx ry hw
  obtain ⟨A, a, b, h, r, ra, rb, q⟩ := hw
  have lists : (∃ xs ys, asLst h a = some xs ∧ asLst h b = some ys ∧ xs.length + ys.length ≤ sizeLine ∧ allocL m (xs ++ ys) h (up X.K A H Q)) → wpAny (model X.prog X.w) X.A (binaryOp .Add v u) (EP X pins σ Q) X.xe s := by
    rintro ⟨xs, ys, e1, e2, hz, al⟩
    obtain ⟨l, vs, rfl, h1, l1⟩ := asLst_rd r ra e1
    obtain ⟨l', ws, rfl, h2, l2⟩ := asLst_rd r rb e2
    exact opr_fzm op_catR m pins s σ H _ _ v u Q I rx ry ⟨l, l', vs, ws, rfl, rfl, h1, h2, by rw [← l1.length, ← l2.length]; exact hz, fun p hp => alloc_new r (l1.append l2) hp al⟩
  unfold opAdd at q
  split at q
  · cases ra; cases rb
    exact op_add pins s σ H _ _ v u Q I rx ry ⟨_, _, rfl, rfl, q.now r (.int _)⟩
  · cases ra; cases rb
    exact op_add_str pins s σ H _ _ v u Q I rx ry ⟨_, _, rfl, rfl, q.1, q.2.now r (.str _)⟩
  · cases ra with
    | tup s1 t1 =>
      cases rb with
      | tup s2 t2 =>
        refine op_catA pins s σ H _ _ v u Q I rx ry ⟨_, _, _, _, rfl, rfl, s1, s2, by rw [← t1.length, ← t2.length]; exact q.1, fun e => ?_, fun e1 e2 => ?_, fun e1 e2 p hp => ?_⟩
        · subst e
          cases t1
          exact q.2.now r (.tup s2 t2)
        · subst e2
          cases t2
          refine q.2.now r ?_
          rw [List.append_nil]
          exact .tup s1 t1
        · exact tup_new r (t1.append t2) hp q.2
  · exact lists q
theorem ok_opSub : OpR X (binaryOp .Sub) (l2 X.K opSub) := by
  intro pins s σ H x y v u Q I rx ry hw
  obtain ⟨A, a, b, h, r, ra, rb, q⟩ := hw
  unfold opSub at q
  split at q
  · cases ra; cases rb
    exact op_sub pins s σ H _ _ v u Q I rx ry ⟨_, _, rfl, rfl, q.now r (.int _)⟩
  · exact q.elim
theorem ok_opMul (m : Bool) : OpR X (binaryOp .Mult) (l2 X.K (opMul m)) := by
  intro pins s σ H x y v u Q I rx ry hw
  obtain ⟨A, a, b, h, r, ra, rb, q⟩ := hw
  unfold opMul at q
  split at q
  · cases ra; cases rb
    rcases q.1 with z | z
    · exact op_mul pins s σ H _ _ v u Q I rx ry ⟨_, _, rfl, rfl, z, q.2.now r (.int _)⟩
    · exact op_mulW pins s σ H _ _ v u Q I rx ry ⟨_, _, rfl, rfl, z, q.2.now r (.int _)⟩
  · cases rb
    cases ra with
    | tup s1 t1 =>
      obtain ⟨n0, k1, k2, hz, q⟩ := q
      refine op_repT pins s σ H _ _ v u Q I rx ry ⟨_, _, _, rfl, rfl, s1, fun e => ?_, k1, k2, by rw [← t1.length]; exact hz, fun p hp => tup_new r (t1.rep _) hp q⟩
      subst e
      cases t1
      exact n0 rfl
  · cases rb
    obtain ⟨xs, e1, k1, k2, hz, al⟩ := q
    obtain ⟨l, vs, rfl, h1, l1⟩ := asLst_rd r ra e1
    exact opr_fzm op_repR m pins s σ H _ _ v u Q I rx ry ⟨l, _, vs, rfl, rfl, h1, k1, k2, by rw [← l1.length]; exact hz, fun p hp => alloc_new r (l1.rep _) hp al⟩
  · exact q.elim
theorem ok_opFdiv : OpR X (binaryOp .FloorDiv) (l2 X.K opFdiv) := by
  intro pins s σ H x y v u Q I rx ry hw
  obtain ⟨A, a, b, h, r, ra, rb, q⟩ := hw
  unfold opFdiv at q
  split at q
  · cases ra; cases rb
    exact op_fdivW pins s σ H _ _ v u Q I rx ry ⟨_, _, rfl, rfl, q.1, q.2.now r (.int _)⟩
  · exact q.elim
theorem ok_opMod : OpR X (binaryOp .Mod) (l2 X.K opMod) := by
  intro pins s σ H x y v u Q I rx ry hw
  obtain ⟨A, a, b, h, r, ra, rb, q⟩ := hw
  unfold opMod at q
  split at q
  · cases ra; cases rb
    exact op_mod pins s σ H _ _ v u Q I rx ry ⟨_, _, rfl, rfl, q.1, q.2.now r (.int _)⟩
  · exact q.elim
theorem ok_opPow : OpR X (binaryOp .Pow) (l2 X.K opPow) := by
  intro pins s σ H x y v u Q I rx ry hw
  obtain ⟨A, a, b, h, r, ra, rb, q⟩ := hw
  unfold opPow at q
  split at q
  · cases ra; cases rb
    exact op_pow pins s σ H _ _ v u Q I rx ry ⟨_, _, rfl, rfl, q.1, q.2.now r (.int _)⟩
  · exact q.elim
theorem ok_bin (m : Bool) : ∀ op, OpR X (binaryOp op.op) (l2 X.K (binOp m op))
  | .add => ok_opAdd m | .sub => ok_opSub | .mul => ok_opMul m | .fdiv => ok_opFdiv | .mod => ok_opMod | .pow => ok_opPow
end

/-! ### comparisons -/
inductive COp where
  | eq | ne | lt | le | gt | ge | in_ | notIn | is_ | isNot | eqE | neE
  deriving DecidableEq
def COp.op : COp → CmpOp
  | .eq => .Eq | .ne => .NotEq | .lt => .Lt | .le => .LtE | .gt => .Gt | .ge => .GtE | .in_ => .In | .notIn => .NotIn | .is_ => .Is | .isNot => .IsNot | .eqE => .Eq | .neE => .NotEq
def opEq (neg : Bool) : O2 := fun x y h Q => match x, y with
  | .str a, .str b => Q (.bl (neg != decide (a = b))) h
  | x, y => ∃ d e, dat h x = some d ∧ dat h y = some e ∧ SeqAt.shaped d = true ∧ SeqAt.shaped e = true ∧ Q (.bl (neg != PyData.eqv d e)) h
def opCmp (p : Int → Int → Bool) : O2 := fun x y h Q => match x, y with
  | .int i, .int j => Q (.bl (p i j)) h
  | _, _ => False
def opIn (neg : Bool) : O2 := fun x y h Q => match x, y with
  | .str a, .str b => Q (.bl (neg != !(Builtin.Str.occurrences b a 0 b.length 1).isEmpty)) h
  | x, y => ∃ xs d ds, asSeq h y = some xs ∧ dat h x = some d ∧ datL (deref h 5) xs = some ds ∧ SeqAt.shaped d = true ∧ SeqAt.shaped (.list ds) = true ∧ Q (.bl (neg != ds.any fun z => PyData.eqv z d)) h
def isNon : PV → Bool
  | .non => true
  | _ => false
def opIs (neg : Bool) : O2 := fun x y h Q => match y with
  | .non => Q (.bl (neg != isNon x)) h
  | _ => False
/-- == with an empty list, an empty tuple -/
def opEqE (neg : Bool) : O2 := fun x y h Q => match y with
  | .lst [] => ∃ xs, asLstW h x = some xs ∧ Q (.bl (neg != xs.isEmpty)) h
  | .tup [] => (match x with
    | .tup xs => Q (.bl (neg != xs.isEmpty)) h
    | _ => False)
  | _ => False
def cmpOp : COp → O2
  | .eq => opEq false | .ne => opEq true
  | .lt => opCmp fun i j => decide (i < j) | .le => opCmp fun i j => decide (i ≤ j)
  | .gt => opCmp fun i j => decide (j < i) | .ge => opCmp fun i j => decide (j ≤ i)
  | .in_ => opIn false | .notIn => opIn true | .is_ => opIs false | .isNot => opIs true | .eqE => opEqE false | .neE => opEqE true
theorem mono_opEq (n : Bool) : Mon2 (opEq n) := by
  intro x y h P Q k
  unfold opEq
  split
  · exact k _ _
  · exact fun ⟨d, e, h1, h2, h3, h4, q⟩ => ⟨d, e, h1, h2, h3, h4, k _ _ q⟩
theorem mono_opCmp (p : Int → Int → Bool) : Mon2 (opCmp p) := by
  intro x y h P Q k
  unfold opCmp
  split
  · exact k _ _
  · exact id
theorem mono_opIn (n : Bool) : Mon2 (opIn n) := by
  intro x y h P Q k
  unfold opIn
  split
  · exact k _ _
  · exact fun ⟨xs, d, ds, h1, h2, h3, h4, h5, q⟩ => ⟨xs, d, ds, h1, h2, h3, h4, h5, k _ _ q⟩
theorem mono_opIs (n : Bool) : Mon2 (opIs n) := by
  intro x y h P Q k
  unfold opIs
  split
  · exact k _ _
  · exact id
theorem mono_opEqE (n : Bool) : Mon2 (opEqE n) := by
  intro x y h P Q k
  unfold opEqE
  split
  · exact fun ⟨xs, e, q⟩ => ⟨xs, e, k _ _ q⟩
  · split
    · exact k _ _
    · exact id
  · exact id
theorem mono_cmp : ∀ op, Mon2 (cmpOp op)
  | .eq => mono_opEq _ | .ne => mono_opEq _ | .lt => mono_opCmp _ | .le => mono_opCmp _ | .gt => mono_opCmp _ | .ge => mono_opCmp _
  | .in_ => mono_opIn _ | .notIn => mono_opIn _ | .is_ => mono_opIs _ | .isNot => mono_opIs _ | .eqE => mono_opEqE _ | .neE => mono_opEqE _
section
variable {X : Cx}
theorem isNon_iff {K : Frag} {H : Hp} {x : PV} {v : V} (r : RepV K H x v) : isNon x = decide (v = .non) := by
  cases r <;> first | rfl | (symm; exact decide_eq_false (fun z => nomatch z))
theorem str_dec {a b : Str} : decide (V.str a = V.str b) = decide (a = b) := by
  by_cases e : a = b
  · rw [decide_eq_true e, decide_eq_true (congrArg V.str e)]
  · rw [decide_eq_false e, decide_eq_false (fun z => e (V.str.inj z))]
theorem ok_opEq (hu : X.A.units + 64 < cLine) : OpR X (compareOp .Eq) (l2 X.K (opEq false)) := by
  intro pins s σ H x y v u Q I rx ry hw
  obtain ⟨A, a, b, h, r, ra, rb, hw⟩ := hw
  unfold opEq at hw
  split at hw
  · cases ra; cases rb
    refine op_eq pins s σ H _ _ v u Q I rx ry ⟨rfl, ?_⟩
    rw [str_dec, ← Bool.false_bne (decide _)]
    exact hw.now r (.bl _)
  obtain ⟨d, e, e1, e2, s1, s2, q⟩ := hw
  exact op_eqD hu pins s σ H x y v u Q I rx ry ⟨d, e, dat_dp r ra e1, dat_dp r rb e2, s1, s2, by rw [← Bool.false_bne (PyData.eqv d e)]; exact q.now r (.bl _)⟩
theorem ok_opNe (hu : X.A.units + 64 < cLine) : OpR X (compareOp .NotEq) (l2 X.K (opEq true)) := by
  intro pins s σ H x y v u Q I rx ry hw
  obtain ⟨A, a, b, h, r, ra, rb, hw⟩ := hw
  unfold opEq at hw
  split at hw
  · cases ra; cases rb
    refine op_ne pins s σ H _ _ v u Q I rx ry ⟨rfl, ?_⟩
    rw [str_dec, ← Bool.true_bne (decide _)]
    exact hw.now r (.bl _)
  obtain ⟨d, e, e1, e2, s1, s2, q⟩ := hw
  exact op_neD hu pins s σ H x y v u Q I rx ry ⟨d, e, dat_dp r ra e1, dat_dp r rb e2, s1, s2, by rw [← Bool.true_bne (PyData.eqv d e)]; exact q.now r (.bl _)⟩
theorem ok_cmpI {op : CmpOp} {p : Int → Int → Bool} (ho : OpR X (compareOp op) (rI0 fun i j => .bl (p i j))) : OpR X (compareOp op) (l2 X.K (opCmp p)) := by
  intro pins s σ H x y v u Q I rx ry hw
  obtain ⟨A, a, b, h, r, ra, rb, q⟩ := hw
  unfold opCmp at q
  split at q
  · cases ra; cases rb
    exact ho pins s σ H _ _ v u Q I rx ry ⟨_, _, rfl, rfl, q.now r (.bl _)⟩
  · exact q.elim
theorem ok_opIs : OpR X (compareOp .Is) (l2 X.K (opIs false)) := by
  intro pins s σ H x y v u Q I rx ry hw
  obtain ⟨A, a, b, h, r, ra, rb, q⟩ := hw
  unfold opIs at q
  split at q
  · cases rb
    refine op_isN pins s σ H _ _ v u Q I rx ry ⟨rfl, ?_⟩
    rw [← isNon_iff ra, ← Bool.false_bne (isNon a)]
    exact q.now r (.bl _)
  · exact q.elim
theorem ok_opIsNot : OpR X (compareOp .IsNot) (l2 X.K (opIs true)) := by
  intro pins s σ H x y v u Q I rx ry hw
  obtain ⟨A, a, b, h, r, ra, rb, q⟩ := hw
  unfold opIs at q
  split at q
  · cases rb
    refine op_notN pins s σ H _ _ v u Q I rx ry ⟨rfl, ?_⟩
    rw [← isNon_iff ra, ← Bool.true_bne (isNon a)]
    exact q.now r (.bl _)
  · exact q.elim
end
end Ev

set_option Elab.async false
set_option linter.all false
set_option maxRecDepth 100000
set_option maxHeartbeats 4000000
/-! Ev4: in, subscripts, slices, calls of built-ins by values. -/
namespace Ev
open PySem PySem.Spec PyProof.Rows L2
section
variable {X : Cx}
/-- the list or tuple behind a value, read -/
theorem seq_reads {K : Frag} {pins : List (Addr × Obj)} {σ : L2.St} {A : Addr → Prop} {H : Hp} {h : MH} {s : Shared} {y : PV} {v : V} {u : Value} {xs : List PV} {ds : List PyData} (I : Inv X pins σ H s) (eK : X.K = K) (r : Rel K A H h) (rv : RepV K H y v) (rx : RelV v u) (e : asSeq h y = some xs) (ed : datL (deref h 5) xs = some ds) :
    (∃ as, Reads s.heap u (.list ds) as) ∨ ∃ as, Reads s.heap u (.tuple ds) as := by
  subst eK
  obtain ⟨a, vs, rfl, hq, l⟩ := asSeq_sq r rv e
  have dl := datL_dp (deref_dp r 5) l ed
  rcases hq with ⟨hq, _⟩ | ⟨hq, _⟩
  · exact .inl (Dp.reads I (.list ds) _ _ (.lst hq dl) rx)
  · exact .inr (Dp.reads I (.tuple ds) _ _ (.tup hq dl) rx)
theorem ok_opIn (hu : X.A.units + 65 < cLine) : OpR X (compareOp .In) (l2 X.K (opIn false)) := by
  intro pins s σ H x y v u Q I rx ry hw
  obtain ⟨A, a, b, h, r, ra, rb, q⟩ := hw
  unfold opIn at q
  split at q
  · cases ra; cases rb
    refine op_in_str pins s σ H _ _ v u Q I rx ry ⟨_, _, rfl, rfl, ?_⟩
    rw [← Bool.false_bne (!_)]
    exact q.now r (.bl _)
  · obtain ⟨xs, d, ds, e1, e2, e3, s1, s2, q⟩ := q
    obtain ⟨bs, r1⟩ := Dp.reads I d x v (dat_dp r ra e2) rx
    rw [Bool.false_bne] at q
    rcases seq_reads I rfl r rb ry e1 e3 with ⟨as, r2⟩ | ⟨as, r2⟩
    · exact SeqAt.in_list_reads r2 r1 (SeqAt.canLay_of_shaped s2) (SeqAt.canLay_of_shaped s1) (room_in_shaped s1 hu) ⟨.bl _, H, I, rfl, q.now r (.bl _)⟩
    · exact SeqAt.in_tuple_reads r2 r1 (SeqAt.canLay_of_shaped s2) (SeqAt.canLay_of_shaped s1) (room_in_shaped s1 hu) ⟨.bl _, H, I, rfl, q.now r (.bl _)⟩
theorem ok_opNotIn (hu : X.A.units + 65 < cLine) : OpR X (compareOp .NotIn) (l2 X.K (opIn true)) := by
  intro pins s σ H x y v u Q I rx ry hw
  obtain ⟨A, a, b, h, r, ra, rb, q⟩ := hw
  unfold opIn at q
  split at q
  · cases ra; cases rb
    refine op_notIn_str pins s σ H _ _ v u Q I rx ry ⟨_, _, rfl, rfl, ?_⟩
    rw [← Bool.true_bne (!_)]
    exact q.now r (.bl _)
  · obtain ⟨xs, d, ds, e1, e2, e3, s1, s2, q⟩ := q
    obtain ⟨bs, r1⟩ := Dp.reads I d x v (dat_dp r ra e2) rx
    rw [Bool.true_bne] at q
    rcases seq_reads I rfl r rb ry e1 e3 with ⟨as, r2⟩ | ⟨as, r2⟩
    · exact SeqAt.notIn_list_reads r2 r1 (SeqAt.canLay_of_shaped s2) (SeqAt.canLay_of_shaped s1) (room_in_shaped s1 hu) ⟨.bl _, H, I, rfl, q.now r (.bl _)⟩
    · exact SeqAt.notIn_tuple_reads r2 r1 (SeqAt.canLay_of_shaped s2) (SeqAt.canLay_of_shaped s1) (room_in_shaped s1 hu) ⟨.bl _, H, I, rfl, q.now r (.bl _)⟩
theorem all_nil {e : Nat → Bool} {n m : Nat} (h : min n m = 0) : (List.range (min n m)).all e = true := by rw [h]; rfl
theorem isEmpty_len {xs : List PV} {vs : List V} {us : List Value} {K : Frag} {H : Hp} (l : RepL K H xs vs) (r : Vals vs us) : xs.isEmpty = us.isEmpty := by
  have h := l.length.trans r.length
  cases xs <;> cases us <;> simp_all
theorem ok_opEqE (hu : X.A.units + 65 < cLine) : OpR X (compareOp .Eq) (l2 X.K (opEqE false)) := by
  intro pins s σ H x y v u Q I rx ry hw
  obtain ⟨A, a, b, h, r, ra, rb, q⟩ := hw
  have hu' : X.A.units < cLine := by omega
  unfold opEqE at q
  split at q
  · obtain ⟨xs, e, q⟩ := q
    rw [Bool.false_bne] at q
    obtain ⟨p, vs, rfl, hq, l⟩ := asLstW_sq r ra e
    cases rb with
    | lst sb lb =>
      cases lb
      cases rx; cases ry
      obtain ⟨its, rv, pl, _⟩ := I.list hq
      obtain ⟨its2, rv2, pl2, _⟩ := I.list (.inl sb.rd)
      cases rv2
      rw [isEmpty_len l rv] at q
      by_cases z : its = []
      · subst z
        exact SeqAt.RcAt.lists (e := fun _ => true) pl.isList pl2.isList rfl hu' (fun j h1 => by simp at h1) X.prog X.w _ _ ⟨.bl true, H, I, rfl, q.now r (.bl _)⟩
      · have hz : (its.toArray.size != ([] : List Value).toArray.size) = true := by cases its <;> simp_all
        have e0 : its.isEmpty = false := by cases its <;> simp_all
        rw [e0] at q
        exact SeqAt.RcAt.lists_lengths pl.isList pl2.isList hz hu' X.prog X.w _ _ ⟨.bl false, H, I, rfl, q.now r (.bl _)⟩
  · split at q
    · cases ra with
      | tup sa la =>
        cases rb with
        | tup sb lb =>
          cases lb
          rename_i xs _ _ _
          cases rx; cases ry
          obtain ⟨its, rv, pl, _⟩ := I.tuple sa
          obtain ⟨its2, rv2, pl2, _⟩ := I.tuple sb
          cases rv2
          rw [Bool.false_bne, isEmpty_len la rv] at q
          refine SeqAt.RcAt.tuples (e := fun _ => true) pl pl2 hu' (fun j h1 h2 => by simp at h2) X.prog X.w _ _ ⟨.bl its.isEmpty, H, I, ?_, q.now r (.bl _)⟩
          show Value.bool _ = Value.bool _
          congr 1
          cases its <;> simp
    · exact q.elim
  · exact q.elim
theorem ok_opNeE (hu : X.A.units + 65 < cLine) : OpR X (compareOp .NotEq) (l2 X.K (opEqE true)) := by
  intro pins s σ H x y v u Q I rx ry hw
  obtain ⟨A, a, b, h, r, ra, rb, q⟩ := hw
  have hu' : X.A.units < cLine := by omega
  unfold opEqE at q
  split at q
  · obtain ⟨xs, e, q⟩ := q
    rw [Bool.true_bne] at q
    obtain ⟨p, vs, rfl, hq, l⟩ := asLstW_sq r ra e
    cases rb with
    | lst sb lb =>
      cases lb
      cases rx; cases ry
      obtain ⟨its, rv, pl, _⟩ := I.list hq
      obtain ⟨its2, rv2, pl2, _⟩ := I.list (.inl sb.rd)
      cases rv2
      rw [isEmpty_len l rv] at q
      by_cases z : its = []
      · subst z
        exact SeqAt.RcNeAt.lists (e := fun _ => true) pl.isList pl2.isList rfl hu' (fun j h1 => by simp at h1) X.prog X.w _ _ ⟨.bl false, H, I, rfl, q.now r (.bl _)⟩
      · have hz : (its.toArray.size != ([] : List Value).toArray.size) = true := by cases its <;> simp_all
        have e0 : its.isEmpty = false := by cases its <;> simp_all
        rw [e0] at q
        exact SeqAt.RcNeAt.lists_lengths pl.isList pl2.isList hz hu' X.prog X.w _ _ ⟨.bl true, H, I, rfl, q.now r (.bl _)⟩
  · split at q
    · cases ra with
      | tup sa la =>
        cases rb with
        | tup sb lb =>
          cases lb
          cases rx; cases ry
          obtain ⟨its, rv, pl, _⟩ := I.tuple sa
          obtain ⟨its2, rv2, pl2, _⟩ := I.tuple sb
          cases rv2
          rw [Bool.true_bne, isEmpty_len la rv] at q
          refine SeqAt.RcNeAt.tuples (e := fun _ => true) pl pl2 hu' (fun j h1 h2 => by simp at h2) X.prog X.w _ _ ⟨.bl (!its.isEmpty), H, I, ?_, q.now r (.bl _)⟩
          show Value.bool _ = Value.bool _
          congr 1
          cases its <;> simp
    · exact q.elim
  · exact q.elim
theorem ok_cmp (hu : X.A.units + 65 < cLine) : ∀ op : COp, OpR X (compareOp op.op) (l2 X.K (cmpOp op))
  | .eq => ok_opEq (by omega) | .ne => ok_opNe (by omega)
  | .lt => ok_cmpI op_lt | .le => ok_cmpI op_le | .gt => ok_cmpI op_gt | .ge => ok_cmpI op_ge
  | .in_ => ok_opIn hu | .notIn => ok_opNotIn hu | .is_ => ok_opIs | .isNot => ok_opIsNot | .eqE => ok_opEqE hu | .neE => ok_opNeE hu

/-! ### subscripts -/
def opIx : O2 := fun x y h Q => match y with
  | .int i => (match x with
    | .str z => z.length ≤ sizeLine ∧ ∃ c, atI z.cps.toList i = some c ∧ Q (.str ⟨#[c]⟩) h
    | x => ∃ xs v, asSeq h x = some xs ∧ atI xs i = some v ∧ Q v h)
  | _ => False
theorem mono_opIx : Mon2 opIx := by
  intro x y h P Q k
  unfold opIx
  split
  · split
    · exact fun ⟨z, c, e, q⟩ => ⟨z, c, e, k _ _ q⟩
    · exact fun ⟨xs, v, e1, e2, q⟩ => ⟨xs, v, e1, e2, k _ _ q⟩
  · exact id
theorem RepL.atI {K : Frag} {H : Hp} {xs : List PV} {vs : List V} {i : Int} {x : PV} (l : RepL K H xs vs) (e : L2.atI xs i = some x) : ∃ v, L2.atI vs i = some v ∧ RepV K H x v := by
  unfold L2.atI at e ⊢
  obtain ⟨j, e1, e2⟩ := Option.bind_eq_some_iff.mp e
  obtain ⟨v, e3, rv⟩ := l.get e2
  exact ⟨v, by rw [← l.length, e1]; exact e3, rv⟩
theorem ok_opIx : IxR X (l2 X.K opIx) := by
  intro value slice pins s σ H x y v u Q I rx ry hw hs
  obtain ⟨A, a, b, h, r, ra, rb, q⟩ := hw
  unfold opIx at q
  split at q
  · cases rb
    split at q
    · cases ra
      obtain ⟨hz, c, e, q⟩ := q
      exact ix_str value slice pins s σ H _ _ v u Q I rx ry ⟨_, _, c, rfl, rfl, hz, e, q.now r (.str _)⟩ hs
    · obtain ⟨xs, z, e1, e2, q⟩ := q
      obtain ⟨p, vs, rfl, hq, l⟩ := asSeq_sq r ra e1
      obtain ⟨w, e3, rw'⟩ := l.atI e2
      rcases hq with ⟨hq, _⟩ | ⟨hq, _⟩
      · exact ix_list value slice pins s σ H _ _ v u Q I rx ry ⟨p, vs, _, w, rfl, rfl, hq, e3, q.now r rw'⟩ hs
      · exact ix_tup value slice pins s σ H _ _ v u Q I rx ry ⟨p, vs, _, w, rfl, rfl, hq, e3, q.now r rw'⟩ hs
  · exact q.elim
/-- a[lo:hi] -/
def cutP (xs : List PV) (lo hi : Option Int) : List PV := (xs.drop (HT.sIx xs.length 0 lo)).take (HT.sIx xs.length xs.length hi - HT.sIx xs.length 0 lo)
def opSl (m : Bool) (x : PV) (lo hi : Option Int) (h : MH) (Q : PK) : Prop := match x with
  | .tup xs => Q (.tup (cutP xs lo hi)) h
  | .tpl xs => Q (.tup (cutP xs lo hi)) h
  | .str z => z.length ≤ sizeLine ∧ Q (.str (cutS z lo hi)) h
  | x => ∃ xs, asLstW h x = some xs ∧ allocL m (cutP xs lo hi) h Q
theorem mono_opSl (m : Bool) (x : PV) (lo hi : Option Int) (h : MH) (P Q : PK) (k : ∀ x h, P x h → Q x h) : opSl m x lo hi h P → opSl m x lo hi h Q := by
  unfold opSl
  split
  · exact k _ _
  · exact k _ _
  · exact fun z => ⟨z.1, k _ _ z.2⟩
  · exact fun ⟨xs, e, q⟩ => ⟨xs, e, allocL_mono k q⟩
theorem cut_rep {K : Frag} {H : Hp} {xs : List PV} {vs : List V} (l : RepL K H xs vs) (lo hi : Option Int) : RepL K H (cutP xs lo hi) (cutV vs lo hi) := by
  unfold cutP cutV
  rw [l.length]
  exact (l.drop _).take _
def l2S (K : Frag) (m : Bool) : V → Option Int → Option Int → Hp → VK → Prop := fun x lo hi H Q => ∃ A a h, Rel K A H h ∧ RepV K H a x ∧ opSl m a lo hi h (up K A H Q)
theorem slr_fzm {r : V → Option Int → Option Int → Hp → VK → Prop} (h : SlR X r) (m : Bool) : SlR X (fun x lo hi H Q => r x lo hi H (fzm m Q)) := by
  cases m with
  | true => exact h
  | false =>
    intro pins s σ H x v vl vu lo hi sl Q I rx hs pl pu q
    obtain ⟨T, id, e1, e2, e3⟩ := h pins s σ H x v vl vu lo hi sl _ I rx hs pl pu q
    exact ⟨T, id, e1, e2, thn e3 fun _ _ z => ep_fz z⟩
theorem ok_opSl (m : Bool) : SlR X (l2S X.K m) := by
  intro pins s σ H x v vl vu lo hi sl Q I rx hs pl pu hw
  obtain ⟨A, a, h, r, ra, q⟩ := hw
  unfold opSl at q
  split at q
  · cases ra with
    | tup s1 l1 =>
      refine sl_tupA pins s σ H _ v vl vu lo hi sl Q I rx hs pl pu ⟨_, _, rfl, s1, fun ⟨z1, z2⟩ => ?_, fun _ p hp => tup_new r (cut_rep l1 lo hi) hp q⟩
      refine q.now r (.tup s1 ?_)
      unfold cutP
      rw [l1.length, z1, z2, List.drop_zero, Nat.sub_zero, ← l1.length, List.take_length]
      exact l1
  · cases ra with
    | tpl s1 l1 =>
      refine sl_tupA pins s σ H _ v vl vu lo hi sl Q I rx hs pl pu ⟨_, _, rfl, s1.sq, fun ⟨z1, z2⟩ => ?_, fun _ p hp => tup_new r (cut_rep l1 lo hi) hp q⟩
      refine q.now r (.tup s1.sq ?_)
      unfold cutP
      rw [l1.length, z1, z2, List.drop_zero, Nat.sub_zero, ← l1.length, List.take_length]
      exact l1
  · cases ra
    exact sl_str pins s σ H _ v vl vu lo hi sl Q I rx hs pl pu ⟨_, rfl, q.1, q.2.now r (.str _)⟩
  · obtain ⟨xs, e, al⟩ := q
    obtain ⟨p, vs, rfl, hq, l⟩ := asLstW_sq r ra e
    exact slr_fzm sl_list m pins s σ H _ v vl vu lo hi sl Q I rx hs pl pu ⟨p, vs, rfl, hq, fun p hp => alloc_new r (cut_rep l lo hi) hp al⟩

/-! ### built-ins -/
inductive Bi where
  | tupd | len | abs | int | min | max | tuple | list | repr | sum | all | any | str | sorted
  deriving DecidableEq
def Bi.name : Bi → Str
  | .tupd => "tuple" | .len => "len" | .abs => "abs" | .int => "int" | .min => "min" | .max => "max" | .tuple => "tuple" | .list => "list" | .repr => "repr" | .sum => "sum" | .all => "all" | .any => "any" | .str => "str" | .sorted => "sorted"
/-- a built-in type, or a function -/
def Bi.val : Bi → Value
  | .tupd => .type "tuple" | .len => .builtin "len" | .abs => .builtin "abs" | .int => .type "int" | .min => .builtin "min" | .max => .builtin "max" | .tuple => .type "tuple" | .list => .type "list" | .repr => .builtin "repr" | .sum => .builtin "sum"
  | .all => .builtin "all" | .any => .builtin "any" | .str => .type "str" | .sorted => .builtin "sorted"
def opLen : OL := fun xs h Q => match xs with
  | [.str z] => z.length ≤ sizeLine ∧ Q (.int z.length) h
  | [x] => ∃ ys, asSeq h x = some ys ∧ Q (.int ys.length) h
  | _ => False
def opAbs : OL := fun xs h Q => match xs with
  | [.int i] => Q (.int i.natAbs) h
  | _ => False
def opInt : OL := fun xs h Q => match xs with
  | [.int i] => Q (.int i) h
  | [.bl b] => Q (.int (if b then 1 else 0)) h
  | _ => False
def opMin : OL := fun xs h Q => match xs with
  | [.int i, .int j] => Q (.int (min i j)) h
  | [x] => ∃ n ns, asSeq h x = some ((n :: ns).map .int) ∧ Q (.int (ns.foldl min n)) h
  | _ => False
def opMax : OL := fun xs h Q => match xs with
  | [.int i, .int j] => Q (.int (max i j)) h
  | [x] => ∃ n ns, asSeq h x = some ((n :: ns).map .int) ∧ Q (.int (ns.foldl max n)) h
  | _ => False
def opTuple : OL := fun xs h Q => match xs with
  | [x] => ∃ ys, asSeq h x = some ys ∧ Q (.tup ys) h
  | _ => False
/-- tuple(a list): a tuple that is known to have no dict -/
def opTupd : OL := fun xs h Q => match xs with
  | [x] => ∃ ys, asLstW h x = some ys ∧ Q (.tpl ys) h
  | _ => False
def opList (m : Bool) : OL := fun xs h Q => match xs with
  | [x] => ∃ ys, asSeq h x = some ys ∧ allocL m ys h Q
  | _ => False
structure Shw (d : PyData) : Prop where
  sh : d.showable = true
  len : d.shown.length ≤ sizeLine
  dep : d.depth ≤ 60
def opRepr : OL := fun xs h Q => match xs with
  | [x] => ∃ d, dat h x = some d ∧ Shw d ∧ Q (.str d.shown) h
  | _ => False
def opSum : OL := fun xs h Q => match xs with
  | [x] => ∃ ns : List Int, asLstW h x = some (ns.map .int) ∧ Q (.int ns.sum) h
  | _ => False
def opAll : OL := fun xs h Q => match xs with
  | [x] => ∃ bs : List Bool, asLstW h x = some (bs.map .bl) ∧ Q (.bl (bs.all id)) h
  | _ => False
def opAny : OL := fun xs h Q => match xs with
  | [x] => ∃ bs : List Bool, asLstW h x = some (bs.map .bl) ∧ Q (.bl (bs.any id)) h
  | _ => False
def opStr : OL := fun xs h Q => match xs with
  | [.int i] => i.natAbs.log2 < 1920 ∧ Q (.str (toString i)) h
  | _ => False
def opSorted (m : Bool) : OL := fun xs h Q => match xs with
  | [x] => ∃ ns : List Int, asLstW h x = some (ns.map .int) ∧ ∀ ns' : List Int, ns'.Perm ns → ns'.Pairwise (· ≤ ·) → allocL m (ns'.map .int) h Q
  | _ => False
def biOp (m : Bool) : Bi → OL
  | .tupd => opTupd | .len => opLen | .abs => opAbs | .int => opInt | .min => opMin | .max => opMax | .tuple => opTuple | .list => opList m | .repr => opRepr | .sum => opSum | .all => opAll | .any => opAny | .str => opStr | .sorted => opSorted m
theorem mono_bi (m : Bool) (b : Bi) : MonL (biOp m b) := by
  intro xs h P Q k
  cases b <;> simp only [biOp, opTupd, opLen, opAbs, opInt, opMin, opMax, opTuple, opList, opRepr, opSum, opAll, opAny, opStr, opSorted] <;> split
  all_goals first
    | exact id
    | exact k _ _
    | exact fun z => ⟨z.1, k _ _ z.2⟩
    | exact fun ⟨ys, e, q⟩ => ⟨ys, e, k _ _ q⟩
    | exact fun ⟨n, ns, e, q⟩ => ⟨n, ns, e, k _ _ q⟩
    | exact fun ⟨ys, e, q⟩ => ⟨ys, e, allocL_mono k q⟩
    | exact fun ⟨ns, e, q⟩ => ⟨ns, e, fun a b c => allocL_mono k (q a b c)⟩
theorem repL1 {K : Frag} {H : Hp} {x : PV} {xs : List V} (l : RepL K H [x] xs) : ∃ v, xs = [v] ∧ RepV K H x v := by
  cases l with
  | cons r t => cases t; exact ⟨_, rfl, r⟩
theorem repL2 {K : Frag} {H : Hp} {x y : PV} {xs : List V} (l : RepL K H [x, y] xs) : ∃ v w, xs = [v, w] ∧ RepV K H x v ∧ RepV K H y w := by
  cases l with
  | cons r t =>
    cases t with
    | cons r2 t2 => cases t2; exact ⟨_, _, rfl, r, r2⟩
theorem ok_opLen : CallR X (.builtin "len") (lL X.K opLen) := by
  intro pins s σ H xs us Q I rv hw
  obtain ⟨A, as, h, r, l, q⟩ := hw
  unfold opLen at q
  split at q
  · obtain ⟨v, rfl, ra⟩ := repL1 l
    cases ra
    exact call_len_str pins s σ H _ us Q I rv ⟨_, rfl, q.1, q.2.now r (.int _)⟩
  · obtain ⟨v, rfl, ra⟩ := repL1 l
    obtain ⟨ys, e, q⟩ := q
    obtain ⟨p, vs, rfl, hq, l2⟩ := asSeq_sq r ra e
    refine call_len_seq pins s σ H _ us Q I rv ⟨p, vs, rfl, hq.elim (fun z => .inl z.1) (fun z => .inr z.1), ?_⟩
    rw [← l2.length]
    exact q.now r (.int _)
  · exact q.elim
theorem ok_opAbs : CallR X (.builtin "abs") (lL X.K opAbs) := by
  intro pins s σ H xs us Q I rv hw
  obtain ⟨A, as, h, r, l, q⟩ := hw
  unfold opAbs at q
  split at q
  · rename_i i
    obtain ⟨v, rfl, ra⟩ := repL1 l
    cases ra
    refine call_abs pins s σ H _ us Q I rv ⟨_, rfl, ?_⟩
    rw [show (if i < 0 then -i else i) = (i.natAbs : Int) by split <;> omega]
    exact q.now r (.int _)
  · exact q.elim
theorem ok_opInt : CallR X (.type "int") (lL X.K opInt) := by
  intro pins s σ H xs us Q I rv hw
  obtain ⟨A, as, h, r, l, q⟩ := hw
  unfold opInt at q
  split at q
  · obtain ⟨v, rfl, ra⟩ := repL1 l
    cases ra
    exact call_int1 pins s σ H _ us Q I rv (.inl ⟨_, rfl, q.now r (.int _)⟩)
  · obtain ⟨v, rfl, ra⟩ := repL1 l
    cases ra
    exact call_int1 pins s σ H _ us Q I rv (.inr ⟨_, rfl, q.now r (.int _)⟩)
  · exact q.elim
theorem alike_ints (ns : List Int) : PySem.W.AlikeAll (ns.map PyData.int) := by
  refine ⟨fun x hx y hy => ?_, fun x hx => ?_⟩
  · obtain ⟨i, _, rfl⟩ := List.mem_map.mp hx
    obtain ⟨j, _, rfl⟩ := List.mem_map.mp hy
    rfl
  · obtain ⟨i, _, rfl⟩ := List.mem_map.mp hx
    exact fun z => nomatch z
theorem depth_ints : ∀ ns : List Int, PyData.depthAll (ns.map PyData.int) = 0
  | [] => rfl
  | n :: ns => by simp [PyData.depthAll, PyData.depth, depth_ints ns]
theorem datL_ints (g : Addr → Option PyData) : ∀ ns : List Int, datL g (ns.map PV.int) = some (ns.map PyData.int)
  | [] => rfl
  | n :: ns => by simp [datL, datV, datL_ints g ns]
/-- a list or a tuple of ints, as the library has it -/
theorem seq_ints {pins : List (Addr × Obj)} {σ : L2.St} {A : Addr → Prop} {H : Hp} {h : MH} {s : Shared} {y : PV} {v : V} {u : Value} {ns : List Int} (I : Inv X pins σ H s) (r : Rel X.K A H h) (rv : RepV X.K H y v) (rx : RelV v u) (e : asSeq h y = some (ns.map .int)) :
    ∃ a, u = .ref a ∧ ∃ its : Array Value, (∃ as, ReadsAll s.heap its.toList (ns.map .int) as) ∧ (s.heap.IsList a its ∨ s.heap.IsTuple a its) := by
  rcases seq_reads I rfl r rv rx e (datL_ints _ ns) with ⟨as, q⟩ | ⟨as, q⟩
  · cases q with
    | list h1 h2 h3 h4 => exact ⟨_, rfl, _, ⟨_, h4⟩, .inl ⟨_, h1, h2, _, h3⟩⟩
  · cases q with
    | tuple h1 h2 h3 h4 => exact ⟨_, rfl, _, ⟨_, h4⟩, .inr ⟨_, h1, h2, _, h3⟩⟩
theorem reads_int {h : Heap} {v : Value} {n : Int} {as : List Addr} (r : Reads h v (.int n) as) : ∃ t, v = .int n t := by
  cases r
  exact ⟨_, rfl⟩
theorem ok_opMin (hc : X.calm = true) (hu : X.A.units + 64 < cLine) : CallR X (.builtin "min") (lL X.K opMin) := by
  intro pins s σ H xs us Q I rv hw
  obtain ⟨A, as, h, r, l, q⟩ := hw
  unfold opMin at q
  split at q
  · rename_i i j
    obtain ⟨v, w, rfl, ra, rb⟩ := repL2 l
    cases ra; cases rb
    refine call_min2 hc pins s σ H _ us Q I rv ⟨_, _, rfl, ?_⟩
    rw [show (if j < i then j else i) = min i j by split <;> omega]
    exact q.now r (.int _)
  · obtain ⟨v, rfl, ra⟩ := repL1 l
    obtain ⟨n, ns, e, q⟩ := q
    obtain ⟨u, rfl, ru⟩ := vals1 rv
    obtain ⟨a, rfl, its, ⟨as', ra'⟩, hq⟩ := seq_ints I r ra ru e
    have hd := alike_ints (n :: ns)
    have hdp : X.A.units + 1 + PyData.depthAll (PyData.int n :: ns.map PyData.int) < cLine := by
      have := depth_ints (n :: ns)
      simp only [List.map_cons] at this
      rw [this]; omega
    have fin : ∀ (i : Nat) (v : Value) (h' : Heap) (tk : Nat) (bs : List Addr), its[i]? = some v → Reads h' v (PySem.W.minD (.int n) (ns.map .int)) bs → (∀ b o, s.heap.get? b = some o → h'.get? b = some o) → EP X pins σ Q v { s with heap := h', toks := tk } := fun i v h' tk bs _ rd k => by
      rw [PySem.W.minD_ints] at rd
      obtain ⟨t, rfl⟩ := reads_int rd
      exact ⟨.int _, H, I.kept k, ⟨t, rfl⟩, q.now r (.int _)⟩
    rcases hq with hq | hq
    · exact PySem.W.min_list_data (I.ok.hd hc) hq ra' hd hdp fin
    · exact PySem.W.min_tuple_data (I.ok.hd hc) hq ra' hd hdp fin
  · exact q.elim
theorem ok_opMax (hc : X.calm = true) (hu : X.A.units + 64 < cLine) : CallR X (.builtin "max") (lL X.K opMax) := by
  intro pins s σ H xs us Q I rv hw
  obtain ⟨A, as, h, r, l, q⟩ := hw
  unfold opMax at q
  split at q
  · rename_i i j
    obtain ⟨v, w, rfl, ra, rb⟩ := repL2 l
    cases ra; cases rb
    refine call_max2 hc pins s σ H _ us Q I rv ⟨_, _, rfl, ?_⟩
    rw [show (if j > i then j else i) = max i j by split <;> omega]
    exact q.now r (.int _)
  · obtain ⟨v, rfl, ra⟩ := repL1 l
    obtain ⟨n, ns, e, q⟩ := q
    obtain ⟨u, rfl, ru⟩ := vals1 rv
    obtain ⟨a, rfl, its, ⟨as', ra'⟩, hq⟩ := seq_ints I r ra ru e
    have hd := alike_ints (n :: ns)
    have hdp : X.A.units + 1 + PyData.depthAll (PyData.int n :: ns.map PyData.int) < cLine := by
      have := depth_ints (n :: ns)
      simp only [List.map_cons] at this
      rw [this]; omega
    have fin : ∀ (i : Nat) (v : Value) (h' : Heap) (tk : Nat) (bs : List Addr), its[i]? = some v → Reads h' v (PySem.W.maxD (.int n) (ns.map .int)) bs → (∀ b o, s.heap.get? b = some o → h'.get? b = some o) → EP X pins σ Q v { s with heap := h', toks := tk } := fun i v h' tk bs _ rd k => by
      rw [PySem.W.maxD_ints] at rd
      obtain ⟨t, rfl⟩ := reads_int rd
      exact ⟨.int _, H, I.kept k, ⟨t, rfl⟩, q.now r (.int _)⟩
    rcases hq with hq | hq
    · exact PySem.W.max_list_data (I.ok.hd hc) hq ra' hd hdp fin
    · exact PySem.W.max_tuple_data (I.ok.hd hc) hq ra' hd hdp fin
  · exact q.elim
theorem ok_opTuple : CallR X (.type "tuple") (lL X.K opTuple) := by
  intro pins s σ H xs us Q I rv hw
  obtain ⟨A, as, h, r, l, q⟩ := hw
  unfold opTuple at q
  split at q
  · obtain ⟨v, rfl, ra⟩ := repL1 l
    obtain ⟨ys, e, q⟩ := q
    obtain ⟨p, vs, rfl, hq, l2⟩ := asSeq_sq r ra e
    refine call_tuple_of pins s σ H _ us Q I rv ⟨p, vs, rfl, ?_⟩
    rcases hq with ⟨hq, _⟩ | ⟨hq, _⟩
    · exact .inl ⟨hq, fun p hp => tup_new r l2 hp q⟩
    · exact .inr ⟨hq, q.now r (.tup hq l2)⟩
  · exact q.elim
theorem ok_opTupd : CallR X (.type "tuple") (lL X.K opTupd) := by
  intro pins s σ H xs us Q I rv hw
  obtain ⟨A, as, h, r, l, q⟩ := hw
  unfold opTupd at q
  split at q
  · obtain ⟨v, rfl, ra⟩ := repL1 l
    obtain ⟨ys, e, q⟩ := q
    obtain ⟨p, vs, rfl, hq, l2⟩ := asLstW_sq r ra e
    obtain ⟨u, rfl, rx⟩ := vals1 rv
    cases rx
    obtain ⟨its, r', pl, hz⟩ := I.list hq
    have hlen := r'.length
    refine call_tuple_list pl.isList (fun h' kp => ?_) (by simp only [List.size_toArray] <;> omega)
    have I1 : Inv X pins σ H { s with heap := h' } := I.kept (t' := s.toks) kp
    have I2 : Inv X pins σ (upd H h'.objs.size (.frz { cls := .type "tuple", data := .seq its.toArray } (.tup vs))) { s with heap := h'.push { cls := .type "tuple", data := .seq its.toArray } } :=
      I1.laid (t' := s.toks) (fun b o e => Heap.get?_push_of_some _ e) (Nat.le_refl _) (show ObjOk X.prog X.w _ _ _ (.frz _ (.tup vs)) from ⟨Heap.get?_push_size _ rfl, hz, its, r', IsTup.new _ _⟩)
    have hn : H h'.objs.size = none := I1.hok.fresh (Nat.le_refl _)
    exact ⟨.ref h'.objs.size, _, I2, rfl, q (.ref _) _ (r.mon_new hn) (r.laid hn) (.tpl ⟨_, upd_same, rfl⟩ (l2.mon (r.mon_new hn)))⟩
  · exact q.elim
theorem ok_opList (m : Bool) : CallR X (.type "list") (lL X.K (opList m)) := by
  intro pins s σ H xs us Q I rv hw
  obtain ⟨A, as, h, r, l, q⟩ := hw
  unfold opList at q
  split at q
  · obtain ⟨v, rfl, ra⟩ := repL1 l
    obtain ⟨ys, e, q⟩ := q
    obtain ⟨p, vs, rfl, hq, l2⟩ := asSeq_sq r ra e
    exact callr_fzm call_list_of m pins s σ H _ us Q I rv ⟨p, vs, rfl, hq.elim (fun z => .inl z.1) (fun z => .inr z.1), fun p hp => alloc_new r l2 hp q⟩
  · exact q.elim
theorem datV_noDict {g : Addr → Option PyData} (hg : ∀ a d, g a = some d → d.hasDict = false) : ∀ n : Nat, (∀ (x : PV) (d : PyData), sizeOf x < n → datV g x = some d → d.hasDict = false) ∧ ∀ (xs : List PV) (ds : List PyData), sizeOf xs < n → datL g xs = some ds → PyData.hasDictAll ds = false := by
  intro n
  induction n with
  | zero => exact ⟨fun _ _ z => absurd z (Nat.not_lt_zero _), fun _ _ z => absurd z (Nat.not_lt_zero _)⟩
  | succ n ih =>
    refine ⟨fun x d hx e => ?_, fun xs ds hx e => ?_⟩
    · cases x with
      | non => cases e; rfl
      | bl b => cases e; rfl
      | int b => cases e; rfl
      | str b => cases e; rfl
      | ty b => cases e
      | ref a => exact hg a d e
      | tup xs =>
        simp only [datV] at e
        obtain ⟨ds, e1, rfl⟩ := Option.map_eq_some_iff.mp e
        simp only [PyData.hasDict]
        exact ih.2 xs ds (by simp at hx; omega) e1
      | lst xs =>
        simp only [datV] at e
        obtain ⟨ds, e1, rfl⟩ := Option.map_eq_some_iff.mp e
        simp only [PyData.hasDict]
        exact ih.2 xs ds (by simp at hx; omega) e1
      | scr xs =>
        simp only [datV] at e
        obtain ⟨ds, e1, rfl⟩ := Option.map_eq_some_iff.mp e
        simp only [PyData.hasDict]
        exact ih.2 xs ds (by simp at hx; omega) e1
      | tpl xs =>
        simp only [datV] at e
        obtain ⟨ds, e1, rfl⟩ := Option.map_eq_some_iff.mp e
        simp only [PyData.hasDict]
        exact ih.2 xs ds (by simp at hx; omega) e1
    · cases xs with
      | nil => cases e; rfl
      | cons x xs =>
        simp only [datL] at e
        obtain ⟨d, e1, e2⟩ := Option.bind_eq_some_iff.mp e
        obtain ⟨ds', e3, rfl⟩ := Option.map_eq_some_iff.mp e2
        simp only [PyData.hasDictAll]
        rw [ih.1 x d (by simp at hx; omega) e1, ih.2 xs ds' (by simp at hx; omega) e3]
        rfl
theorem deref_noDict {h : MH} : ∀ (n : Nat) (a : Addr) (d : PyData), deref h n a = some d → d.hasDict = false
  | 0, _, _, e => by cases e
  | n + 1, a, d, e => by
    unfold deref at e
    split at e
    · rename_i xs q
      obtain ⟨ds, e1, rfl⟩ := Option.map_eq_some_iff.mp e
      simp only [PyData.hasDict]
      exact (datV_noDict (deref_noDict n) (sizeOf xs + 1)).2 xs ds (Nat.lt_succ_self _) e1
    · cases e
theorem dat_noDict {h : MH} (x : PV) (d : PyData) (e : dat h x = some d) : d.hasDict = false :=
  (datV_noDict (deref_noDict 5) (sizeOf x + 1)).1 x d (Nat.lt_succ_self _) e
theorem ok_opRepr (hg : X.A.guards = some []) (hu : X.A.units + 64 < cLine) : CallR X (.builtin "repr") (lL X.K opRepr) := by
  intro pins s σ H xs us Q I rv hw
  obtain ⟨A, as, h, r, l, q⟩ := hw
  unfold opRepr at q
  split at q
  · obtain ⟨v, rfl, ra⟩ := repL1 l
    obtain ⟨d, e, sw, q⟩ := q
    obtain ⟨u, rfl, ru⟩ := vals1 rv
    obtain ⟨as', rd⟩ := Dp.reads I d v u (dat_dp r ra e) ru
    have hz := sw.len
    have hd := sw.dep
    have hsh := sw.sh
    have q := q.now r (.str _)
    have end_ : ∀ h' tk t, (∀ b o, s.heap.get? b = some o → h'.get? b = some o) → EP X pins σ Q (.str d.shown t) { s with heap := h', toks := tk } := fun h' tk t k => ⟨.str _, H, I.kept k, ⟨t, rfl⟩, q⟩
    have keep : ∀ b o, s.heap.get? b = some o → s.heap.get? b = some o := fun _ _ e => e
    cases rd with
    | none =>
      simp only [PyData.shown] at end_
      exact PySem.P.repr_of_none (end_ s.heap _ _ keep)
    | bool b =>
      simp only [PyData.shown] at end_
      exact PySem.P.repr_of_bool (end_ s.heap _ _ keep)
    | int i t =>
      simp only [PyData.shown] at end_
      exact PySem.P.repr_of_int (by simpa [PyData.showable] using hsh) (end_ s.heap _ _ keep)
    | str x t =>
      simp only [PyData.shown] at end_ hz
      exact PySem.P.repr_of_str (end_ s.heap _ _ keep) hz
    | list h1 h2 h3 h4 => exact repr_of_reads' (.list h1 h2 h3 h4) hsh (PyData.noDict_hsm (dat_noDict _ _ e)) hg (by omega) keep (fun h' u tk k => end_ h' tk u k) hz
    | tuple h1 h2 h3 h4 => exact repr_of_reads' (.tuple h1 h2 h3 h4) hsh (PyData.noDict_hsm (dat_noDict _ _ e)) hg (by omega) keep (fun h' u tk k => end_ h' tk u k) hz
    | dict h1 h2 h3 h4 h5 =>
      have := dat_noDict _ _ e
      simp [PyData.hasDict] at this
  · exact q.elim
theorem ok_opSum (hc : X.calm = true) : CallR X (.builtin "sum") (lL X.K opSum) := by
  intro pins s σ H xs us Q I rv hw
  obtain ⟨A, as, h, r, l, q⟩ := hw
  unfold opSum at q
  split at q
  · obtain ⟨v, rfl, ra⟩ := repL1 l
    obtain ⟨ns, e, q⟩ := q
    obtain ⟨p, vs, rfl, hq, l2⟩ := asLstW_sq r ra e
    rw [l2.map_int] at hq
    exact cr_sum hc pins s σ H _ us Q I rv ⟨p, ns, rfl, hq, q.now r (.int _)⟩
  · exact q.elim
theorem ok_opAll (hc : X.calm = true) : CallR X (.builtin "all") (lL X.K opAll) := by
  intro pins s σ H xs us Q I rv hw
  obtain ⟨A, as, h, r, l, q⟩ := hw
  unfold opAll at q
  split at q
  · obtain ⟨v, rfl, ra⟩ := repL1 l
    obtain ⟨ns, e, q⟩ := q
    obtain ⟨p, vs, rfl, hq, l2⟩ := asLstW_sq r ra e
    rw [l2.map_bl] at hq
    exact cr_all hc pins s σ H _ us Q I rv ⟨p, ns, rfl, hq, q.now r (.bl _)⟩
  · exact q.elim
theorem ok_opAny (hc : X.calm = true) : CallR X (.builtin "any") (lL X.K opAny) := by
  intro pins s σ H xs us Q I rv hw
  obtain ⟨A, as, h, r, l, q⟩ := hw
  unfold opAny at q
  split at q
  · obtain ⟨v, rfl, ra⟩ := repL1 l
    obtain ⟨ns, e, q⟩ := q
    obtain ⟨p, vs, rfl, hq, l2⟩ := asLstW_sq r ra e
    rw [l2.map_bl] at hq
    exact cr_any hc pins s σ H _ us Q I rv ⟨p, ns, rfl, hq, q.now r (.bl _)⟩
  · exact q.elim
theorem ok_opStr : CallR X (.type "str") (lL X.K opStr) := by
  intro pins s σ H xs us Q I rv hw
  obtain ⟨A, as, h, r, l, q⟩ := hw
  unfold opStr at q
  split at q
  · obtain ⟨v, rfl, ra⟩ := repL1 l
    cases ra
    exact call_str_int pins s σ H _ us Q I rv ⟨_, rfl, q.1, q.2.now r (.str _)⟩
  · exact q.elim
theorem ok_opSorted (m : Bool) : CallR X (.builtin "sorted") (lL X.K (opSorted m)) := by
  intro pins s σ H xs us Q I rv hw
  obtain ⟨A, as, h, r, l, q⟩ := hw
  unfold opSorted at q
  split at q
  · obtain ⟨v, rfl, ra⟩ := repL1 l
    obtain ⟨ns, e, q⟩ := q
    obtain ⟨p, vs, rfl, hq, l2⟩ := asLstW_sq r ra e
    rw [l2.map_int] at hq
    exact callr_fzm cr_sortedI m pins s σ H _ us Q I rv ⟨p, ns, rfl, hq, fun ns' p hp1 hp2 hp => alloc_new r (RepL.of_int ns') hp (q ns' hp1 hp2)⟩
  · exact q.elim
theorem ok_bi (hc : X.calm = true) (hg : X.A.guards = some []) (hu : X.A.units + 65 < cLine) (m : Bool) : ∀ b : Bi, CallR X b.val (lL X.K (biOp m b))
  | .tupd => ok_opTupd | .len => ok_opLen | .abs => ok_opAbs | .int => ok_opInt | .min => ok_opMin hc (by omega) | .max => ok_opMax hc (by omega) | .tuple => ok_opTuple | .list => ok_opList m | .repr => ok_opRepr hg (by omega)
  | .sum => ok_opSum hc | .all => ok_opAll hc | .any => ok_opAny hc | .str => ok_opStr | .sorted => ok_opSorted m
end
end Ev

set_option Elab.async false
set_option linter.all false
set_option maxRecDepth 100000
set_option maxHeartbeats 4000000
/-! Ev5: defs and what they promise; where a body stands; the rules of expressions. -/
namespace Ev
open PySem PySem.Spec PyProof.Rows L2

/-- a wish about an exception: its class, its fields -/
abbrev XV := Value → List (Str × PV) → MH → Prop
/-- what a def promises -/
abbrev Spec := List PV → MH → PK → XV → Prop
def XF (K : Frag) (H : Hp) (d : Option Addr) (fs : List (Str × PV)) : Prop := (d = none ∧ fs = []) ∨ ∃ dd ws, d = some dd ∧ H dd = some (.xd ws) ∧ KR K H fs ws
def upX (K : Frag) (A : Addr → Prop) (H : Hp) (E : XK) : XV := fun c fs h' => ∀ d H', Mon A H H' → Rel K A H' h' → XF K H' d fs → E c d H'
def liftSp (K : Frag) (sp : Spec) : Sp := fun vs H Q E => ∃ A as h, Rel K A H h ∧ RepL K H as vs ∧ sp as h (up K A H Q) (upX K A H E)
abbrev noX : XV := fun _ _ _ => False

/-- a def keeps its promise (where nothing is being shown by repr) -/
structure FnG (P : Program) (w : World) (K : Frag) (mg : Str → Option Value) (base : Heap) (k : Nat) (f : Addr) (fd : FuncData) (ps : List Str) (sp : Spec) : Prop where
  run : ∀ (A : Around) (outer : List PySem.Env) (st : Shared) (H : Hp) (args : Args) (us : List Value) (vs : List V) (Q : VK) (E : XK),
    A.guards = some [] → Room k A → Env0 P w K mg base A outer st H → BindsTo st fd args (ps.zip us) → Vals vs us → vs.length = ps.length → liftSp K sp vs H Q E →
    codeAny (model P w) A (.call (.ref f) args) (CR (L2.CX P w) outer P w H st Q E) st

section
variable {P : Program} {w : World} {K : Frag} {mg : Str → Option Value} {base : Heap}
/-- a def of the text, by its body -/
theorem fng_of {x qual : Str} {params : Arguments} {body : List Stmt} {scope : Scope} {f : Addr} {fd : FuncData} {N ps : List Str} {k : Nat} {sp : Spec}
    (F : FunD K x qual params body scope [] [] f fd) (S : FnScope N ps scope)
    (hb : ∀ (cdv : Value) (A : Around) (outer : List PySem.Env) (st : Shared) (H : Hp) (vs : List V) (Q : VK) (E : XK),
      A.guards = some [] → Room k (A.deeper (envOfC qual scope st.heap.objs.size f cdv)) → vs.length = ps.length → liftSp K sp vs H Q E →
      ∃ t, PSs (cxOf (L2.CX P w) P w K mg base N qual scope f cdv A outer st H E) body t ∧ t { nx := fun _ H' => Q .non H', rt := Q } (start N vs) H) :
    FnG P w K mg base (k + 1) f fd ps sp := by
  obtain ⟨oc, od, dV, kV, doc, pm, an, cdv, ct, osl, rfl, look, code, _, _⟩ := F.ex
  constructor
  intro A outer st H args us vs Q E hg hr e0 bind rv hl hsp
  have inK : K.In st.heap := e0.mod.kin.keeps fun b o e => (e0.bs b o e).1
  have free : st.heap.NoLimit := e0.mod.nolimit.keeps fun b o e => (e0.bs b o e).1
  have kinds : ∀ y ∈ ps.zip us, scope.names.lookup y.1 = some .local ∨ (scope.names.lookup y.1 = some .cell ∧ ((cellsFrom (st.heap.objs.size + 1) scope.names []).lookup y.1).isSome = true) := by
    intro y hy
    cases S.par y.1 (List.of_mem_zip (a := y.1) (b := y.2) hy).1 with
    | inl q => exact .inl q
    | inr q => exact .inr ⟨q, PySem.W.cellsFrom_some _ _ _ (.inl q)⟩
  apply codeAny_call_function hr.depth (inK _ _ look) rfl S.co S.gen rfl (PySem.W.codeRec_of inK code)
  apply bind
  apply wpAny_newFunctionEnv_cells S.kind kinds
  intro env he s1 x
  subst he
  constructor
  · exact free.keeps x.toInCall.keep
  apply codeAny_func
  obtain ⟨t, ht, hq⟩ := hb cdv A outer st H vs Q E hg (hr.deeper _) hl hsp
  have I := inv_start (CX := L2.CX P w) (E := E) (f := f) (cd := cdv) (qual := qual) S hr.hd e0 hl rv x
  apply wpAny_mono (ht.run [] s1 (start N vs) H _ I hq)
  · intro fl s' hs
    have done : ∀ (σ' : L2.St) (H' : Hp) (v : V) (u : Value), Inv (cxOf (L2.CX P w) P w K mg base N qual scope f cdv A outer st H E) [] σ' H' s' → RelV v u → Q v H' → CE outer P w H st Q u s' := by
      intro σ' H' v u J r q
      exact ⟨v, H', J.os, J.bare, J.base, J.hok, r, q⟩
    cases fl with
    | next => obtain ⟨σ', H', J, q⟩ := hs; exact done σ' H' .non .none J rfl q
    | ret u => obtain ⟨v, σ', H', J, r, q⟩ := hs; exact done σ' H' v u J r q
    | brk => obtain ⟨_, _, _, q⟩ := hs; exact q.elim
    | cont => obtain ⟨_, _, _, q⟩ := hs; exact q.elim
  · exact fun _ _ z => z
end

/-- what a text of a def is looked at with: its names by slot, its scope, the names whose cells are made at its entry; the module's defs with their parameters, the names that are free for built-ins, the module's constants -/
structure Cfg where
  N : List Str
  sc : Scope
  fnb : Str → Bool
  fns : List (Str × List Str)
  free : List Str
  cst : List Str
  kws : List (Str × List Str × List Nat) := []

/-- the promises -/
structure Ctx where
  fn : Str → Spec
  mono : ∀ f as h (P Q : PK) (R T : XV), (∀ x h, P x h → Q x h) → (∀ c fs h, R c fs h → T c fs h) → fn f as h P R → fn f as h Q T

/-- how a call by keywords alone binds: the values in the parameters' order -/
structure KB (K : Frag) (fd : FuncData) (ps ks : List Str) (perm : List Nat) : Prop where
  len : perm.length = ps.length
  lt : ∀ i ∈ perm, i < ks.length
  to : ∀ (s : Shared) (ws : List Value), K.In s.heap → ws.length = ks.length → BindsTo s fd ⟨[], ks.zip ws⟩ (ps.zip (perm.map fun i => ws.getD i .none))
def WJ (K : Frag) (J : Jw) (ex : Env → XV) : WX := fun c d σ H => ∃ A ρ h fs, J A H ∧ RepSt K H ρ σ ∧ Rel K A H h ∧ XF K H d fs ∧ ex ρ c fs h

/-- X is a place in a def (or in a comprehension) that c tells of -/
structure Match (X : Cx) (c : Cfg) (G : Ctx) (gl : Str → PV) (k : Nat) (J : Jw) (ex : Env → XV) : Prop where
  N : X.N = c.N
  nd : c.N.Nodup
  sc : X.env.scope = c.sc
  fnb : X.fn = c.fnb
  calm : X.calm = true
  po : PassesOwn (model X.prog X.w) X.A X.env X.xe
  gd : X.A.guards = some []
  room : Room k X.A
  tk : Takes X (WJ X.K J ex)
  jj : JOk J
  fns : ∀ f ps, (f, ps) ∈ c.fns → ∃ a fd, X.mg f = some (.ref a) ∧ FnG X.prog X.w X.K X.mg X.base k a fd ps (G.fn f) ∧ PySem.W.keepIn X.K (.ref a) = true ∧ Binds X.K fd ps []
  free : ∀ x, x ∈ c.free → X.mg x = none
  cst : ∀ x, x ∈ c.cst → ∃ u w, X.mg x = some u ∧ RelV w u ∧ ∀ H, RepV X.K H (gl x) w
  kind : X.env.scope.kind = .function
  kws : ∀ f ks perm, (f, ks, perm) ∈ c.kws → ∃ a fd ps, X.mg f = some (.ref a) ∧ FnG X.prog X.w X.K X.mg X.base k a fd ps (G.fn f) ∧ PySem.W.keepIn X.K (.ref a) = true ∧ KB X.K fd ps ks perm

theorem room65 {k : Nat} {A : Around} (r : Room k A) : A.units + 65 < cLine := by have := r.un; omega

section
variable {X : Cx} {c : Cfg} {G : Ctx} {gl : Str → PV} {k : Nat} {J : Jw} {ex : Env → XV}

/-! ### names, constants -/
def wVar (i : Nat) : WE := fun ρ h Q => ∃ x, ρ[i]? = some (some x) ∧ Q x h
def wCst (v : PV) : WE := fun _ h Q => Q v h
theorem s_var {i : Nat} {x : Str} {pos : Pos} (hN : X.N[i]? = some x) (hv : Vis X.env.scope x) (hd : (x == ("__debug__" : Str)) = false) (hcd : (x == ("__classdict__" : Str)) = false) : PE X (.Name x pos) (tE X.K J (wVar i)) := by
  refine ⟨fun pins s σ H Q I ⟨A, ρ, h, j, rs, r, y, e, q⟩ => ?_⟩
  obtain ⟨v, e1, rv⟩ := rs.val i y e
  exact (pe_var hN hv hd hcd).run pins s σ H Q I ⟨v, e1, q.now r rv⟩
theorem s_cst {e : Expr} {v : PV} {w : V} (he : PE X e (tC w)) (rv : ∀ H, RepV X.K H v w) : PE X e (tE X.K J (wCst v)) :=
  ⟨fun pins s σ H Q I ⟨A, ρ, h, j, rs, r, q⟩ => he.run pins s σ H Q I (q.now r (rv H))⟩

/-! ### operations -/
variable {a b d : Expr} {wa wb wd : WE} {pos : Pos}
def w2 (o : O2) (wa wb : WE) : WE := fun ρ h Q => wa ρ h fun x h1 => wb ρ h1 fun y h2 => o x y h2 Q
def w1 (o : O1) (wa : WE) : WE := fun ρ h Q => wa ρ h fun x h1 => o x h1 Q
theorem mono_w2 {o : O2} (mo : Mon2 o) (ma : MonE wa) (mb : MonE wb) : MonE (w2 o wa wb) := fun ρ h P Q k hw => ma _ _ _ _ (fun x h1 z => mb _ _ _ _ (fun y h2 z2 => mo _ _ _ _ _ k z2) z) hw
theorem mono_w1 {o : O1} (mo : Mon1 o) (ma : MonE wa) : MonE (w1 o wa) := fun ρ h P Q k hw => ma _ _ _ _ (fun x h1 z => mo _ _ _ _ k z) hw
theorem t2 {o : O2} {σ : L2.St} {H : Hp} {Q : VK} (jj : JOk J) (mo : Mon2 o) (ma : MonE wa) (mb : MonE wb) (hw : tE X.K J (w2 o wa wb) σ H Q) : tOp (l2 X.K o) (tE X.K J wa) (tE X.K J wb) σ H Q := by
  obtain ⟨A, ρ, h, j, rs, r, hw⟩ := hw
  refine tE_of jj j rs r ma hw fun x h1 v H1 p j1 rs1 m1 r1 rv => ?_
  refine tE_of jj j1 rs1 r1 mb p fun y h2 u H2 q j2 rs2 m2 r2 ru => ?_
  exact ⟨A, x, y, h2, r2, rv.mon m2, ru, mo _ _ _ _ _ (fun z h3 up => up.trans (m1.trans m2)) q⟩
theorem s_bin (m : Match X c G gl k J ex) (f : Bool) (op : BOp) (ha : PE X a (tE X.K J wa)) (hb : PE X b (tE X.K J wb)) (ma : MonE wa) (mb : MonE wb) : PE X (.BinOp a op.op b pos) (tE X.K J (w2 (binOp f op) wa wb)) :=
  ⟨fun pins s σ H Q I hw => (pe_op (ok_bin f op) ha hb).run pins s σ H Q I (t2 m.jj (mono_bin f op) ma mb hw)⟩
theorem s_cmp (m : Match X c G gl k J ex) (op : COp) (ha : PE X a (tE X.K J wa)) (hb : PE X b (tE X.K J wb)) (ma : MonE wa) (mb : MonE wb) (hm : behindInMarks op.op b = false) : PE X (.Compare a [op.op] [b] pos) (tE X.K J (w2 (cmpOp op) wa wb)) :=
  ⟨fun pins s σ H Q I hw => (pe_cmpR (ok_cmp (room65 m.room) op) ha hb hm).run pins s σ H Q I (t2 m.jj (mono_cmp op) ma mb hw)⟩
/-- a op b op' c -/
def wChain (o o' : O2) (wa wb wd : WE) : WE := fun ρ h Q => wa ρ h fun x h1 => wb ρ h1 fun y h2 => o x y h2 fun z h3 => ∃ k, z = .bl k ∧ (if k = true then wd ρ h3 fun w h4 => o' y w h4 Q else Q (.bl false) h3)
theorem mono_chain {o o' : O2} (mo : Mon2 o) (mo' : Mon2 o') (ma : MonE wa) (mb : MonE wb) (md : MonE wd) : MonE (wChain o o' wa wb wd) := fun ρ h P Q k hw =>
  ma _ _ _ _ (fun x h1 z => mb _ _ _ _ (fun y h2 z2 => mo _ _ _ _ _ (fun z h3 ⟨b, e, q⟩ => ⟨b, e, by
    cases b with
    | true => exact md _ _ _ _ (fun w h4 z4 => mo' _ _ _ _ _ k z4) q
    | false => exact k _ _ q⟩) z2) z) hw
theorem s_chain (m : Match X c G gl k J ex) (op op' : COp) (ha : PE X a (tE X.K J wa)) (hb : PE X b (tE X.K J wb)) (hd : PE X d (tE X.K J wd)) (ma : MonE wa) (mb : MonE wb) (md : MonE wd)
    (hm : behindInMarks op'.op d = false) : PE X (.Compare a [op.op, op'.op] [b, d] pos) (tE X.K J (wChain (cmpOp op) (cmpOp op') wa wb wd)) := by
  refine ⟨fun pins s σ H Q I hw => (pe_chain (ok_cmp (room65 m.room) op) (ok_cmp (room65 m.room) op') ha hb hd (by simp only [lastMarks]; exact hm)).run pins s σ H Q I ?_⟩
  obtain ⟨A, ρ, h, j, rs, r, hw⟩ := hw
  refine tE_of m.jj j rs r ma hw fun x h1 v H1 p j1 rs1 m1 r1 rv => ?_
  refine tE_of m.jj j1 rs1 r1 mb p fun y h2 u H2 q j2 rs2 m2 r2 ru => ?_
  refine ⟨A, x, y, h2, r2, rv.mon m2, ru, mono_cmp op _ _ _ _ _ (fun z h3 z3 => ?_) q⟩
  obtain ⟨b, rfl, z3⟩ := z3
  intro v3 H3 m3 r3 rv3
  cases rv3
  refine ⟨b, rfl, ?_⟩
  cases b with
  | false => exact z3 _ _ (m1.trans (m2.trans m3)) r3 (.bl _)
  | true =>
    refine tE_of m.jj (m.jj.mon j2 m3) (rs2.mon m3) r3 md z3 fun w h4 u4 H4 q4 j4 rs4 m4 r4 ru4 => ?_
    exact ⟨A, y, w, h4, r4, ru.mon (m3.trans m4), ru4, mono_cmp op' _ _ _ _ _ (fun z h5 up => up.trans (m1.trans (m2.trans (m3.trans m4)))) q4⟩
end
end Ev

set_option Elab.async false
set_option linter.all false
set_option maxRecDepth 100000
set_option maxHeartbeats 4000000
/-! Ev6: more rules of expressions. -/
namespace Ev
open PySem PySem.Spec PyProof.Rows L2

section
variable {X : Cx} {c : Cfg} {G : Ctx} {gl : Str → PV} {k : Nat} {J : Jw} {ex : Env → XV} {a b d e : Expr} {es : List Expr} {wa wb wd : WE} {wt wu : WT} {wl : WA} {pos : Pos}

/-! ### lists of arguments -/
def wNil : WA := fun _ h Q => Q [] h
def wCons (wa : WE) (wl : WA) : WA := fun ρ h Q => wa ρ h fun x h1 => wl ρ h1 fun xs h2 => Q (x :: xs) h2
theorem mono_nil : MonA wNil := fun _ _ _ _ k q => k _ _ q
theorem mono_cons (ma : MonE wa) (ml : MonA wl) : MonA (wCons wa wl) := fun ρ h P Q k hw => ma _ _ _ _ (fun x h1 z => ml _ _ _ _ (fun xs h2 z2 => k _ _ z2) z) hw
theorem a_nil : PA X [] (tA X.K J wNil) := ⟨fun ps pins s σ H Q I ⟨A, ρ, h, j, rs, r, q⟩ => pa_nil.run ps pins s σ H Q I (q [] H .refl r .nil)⟩
theorem a_cons (jj : JOk J) (ha : PE X a (tE X.K J wa)) (hl : PA X es (tA X.K J wl)) (ma : MonE wa) (ml : MonA wl) (hs : starEach (a :: es) X.env = (false, eval a X.env) :: starEach es X.env) : PA X (a :: es) (tA X.K J (wCons wa wl)) := by
  refine ⟨fun ps pins s σ H Q I ⟨A, ρ, h, j, rs, r, hw⟩ => (pa_cons ha hl hs).run ps pins s σ H Q I ?_⟩
  refine tE_of jj j rs r ma hw fun x h1 v H1 p j1 rs1 m1 r1 rv => ?_
  refine tA_of jj j1 rs1 r1 ml p fun xs h2 vs H2 q j2 rs2 m2 r2 rl => ?_
  exact q (v :: vs) H2 (m1.trans m2) r2 (.cons (rv.mon m2) rl)
/-- an operation upon a list of arguments -/
def wL (o : OL) (wl : WA) : WE := fun ρ h Q => wl ρ h fun xs h1 => o xs h1 Q
theorem mono_wL {o : OL} (mo : MonL o) (ml : MonA wl) : MonE (wL o wl) := fun ρ h P Q k hw => ml _ _ _ _ (fun xs h1 z => mo _ _ _ _ k z) hw
theorem tL {o : OL} {σ : L2.St} {H : Hp} {Q : VK} (jj : JOk J) (mo : MonL o) (ml : MonA wl) (hw : tE X.K J (wL o wl) σ H Q) : tA X.K J wl σ H fun vs H1 => lL X.K o vs H1 Q := by
  obtain ⟨A, ρ, h, j, rs, r, hw⟩ := hw
  exact tA_of jj j rs r ml hw fun xs h1 vs H1 p j1 rs1 m1 r1 rl => ⟨A, xs, h1, r1, rl, mo _ _ _ _ (fun z h3 up => up.trans m1) p⟩

/-! ### displays -/
def wTup (wl : WA) : WE := fun ρ h Q => wl ρ h fun xs h1 => xs.length ≤ sizeLine ∧ Q (.tup xs) h1
def wLst (m : Bool) (wl : WA) : WE := fun ρ h Q => wl ρ h fun xs h1 => xs.length ≤ sizeLine ∧ allocL m xs h1 Q
theorem mono_tup (ml : MonA wl) : MonE (wTup wl) := fun ρ h P Q k hw => ml _ _ _ _ (fun xs h1 z => ⟨z.1, k _ _ z.2⟩) hw
theorem mono_lst (m : Bool) (ml : MonA wl) : MonE (wLst m wl) := fun ρ h P Q k hw => ml _ _ _ _ (fun xs h1 z => ⟨z.1, allocL_mono k z.2⟩) hw
theorem s_tup {n : Nat} (jj : JOk J) (hl : PA X es (tA X.K J wl)) (ml : MonA wl) : PE X (.Tuple es n pos) (tE X.K J (wTup wl)) := by
  refine ⟨fun pins s σ H Q I ⟨A, ρ, h, j, rs, r, hw⟩ => (pe_tup hl).run pins s σ H Q I ?_⟩
  refine tA_of jj j rs r ml hw fun xs h1 vs H1 p j1 rs1 m1 r1 rl => ?_
  exact ⟨by rw [← rl.length]; exact p.1, fun q hq => tup_new r1 rl hq (up.trans m1 p.2)⟩
theorem s_lst (jj : JOk J) (m : Bool) (hl : PA X es (tA X.K J wl)) (ml : MonA wl) : PE X (.List es pos) (tE X.K J (wLst m wl)) := by
  refine ⟨fun pins s σ H Q I ⟨A, ρ, h, j, rs, r, hw⟩ => (pe_fzm (pe_lst hl) m).run pins s σ H Q I ?_⟩
  refine tA_of jj j rs r ml hw fun xs h1 vs H1 p j1 rs1 m1 r1 rl => ?_
  exact ⟨by rw [← rl.length]; exact p.1, fun q hq => alloc_new r1 rl hq (allocL_mono (fun _ _ z => up.trans m1 z) p.2)⟩

/-! ### signs, and, or, not, a if t else b -/
def opNeg : O1 := fun x h Q => match x with
  | .int i => Q (.int (-i)) h
  | _ => False
theorem mono_opNeg : Mon1 opNeg := by
  intro x h P Q k
  unfold opNeg
  split
  · exact k _ _
  · exact id
theorem s_neg (jj : JOk J) (ha : PE X a (tE X.K J wa)) (ma : MonE wa) : PE X (.UnaryOp .USub a pos) (tE X.K J (w1 opNeg wa)) := by
  refine ⟨fun pins s σ H Q I ⟨A, ρ, h, j, rs, r, hw⟩ => (pe_un un_neg ha).run pins s σ H Q I ?_⟩
  refine tE_of jj j rs r ma hw fun x h1 v H1 p j1 rs1 m1 r1 rv => ?_
  unfold opNeg at p
  split at p
  · cases rv
    exact ⟨_, rfl, p _ _ m1 r1 (.int _)⟩
  · exact p.elim
def opNot : O1 := fun x h Q => match x with
  | .bl b => Q (.bl (!b)) h
  | _ => False
theorem mono_opNot : Mon1 opNot := by
  intro x h P Q k
  unfold opNot
  split
  · exact k _ _
  · exact id
theorem s_not (jj : JOk J) (ha : PE X a (tE X.K J wa)) (ma : MonE wa) : PE X (.UnaryOp .Not a pos) (tE X.K J (w1 opNot wa)) := by
  refine ⟨fun pins s σ H Q I ⟨A, ρ, h, j, rs, r, hw⟩ => (pe_not ha).run pins s σ H Q I ?_⟩
  refine tE_of jj j rs r ma hw fun x h1 v H1 p j1 rs1 m1 r1 rv => ?_
  unfold opNot at p
  split at p
  · cases rv
    exact ⟨_, rfl, p _ _ m1 r1 (.bl _)⟩
  · exact p.elim
def wAnd (wa wb : WE) : WE := fun ρ h Q => wa ρ h fun x h1 => ∃ b, x = .bl b ∧ if b = true then wb ρ h1 Q else Q (.bl false) h1
def wOr (wa wb : WE) : WE := fun ρ h Q => wa ρ h fun x h1 => ∃ b, x = .bl b ∧ if b = true then Q (.bl true) h1 else wb ρ h1 Q
theorem mono_and (ma : MonE wa) (mb : MonE wb) : MonE (wAnd wa wb) := fun ρ h P Q k hw => ma _ _ _ _ (fun x h1 ⟨b, e, z⟩ => ⟨b, e, by
  cases b with
  | true => exact mb _ _ _ _ k z
  | false => exact k _ _ z⟩) hw
theorem mono_or (ma : MonE wa) (mb : MonE wb) : MonE (wOr wa wb) := fun ρ h P Q k hw => ma _ _ _ _ (fun x h1 ⟨b, e, z⟩ => ⟨b, e, by
  cases b with
  | false => exact mb _ _ _ _ k z
  | true => exact k _ _ z⟩) hw
theorem s_and (jj : JOk J) (ha : PE X a (tE X.K J wa)) (hb : PE X (.BoolOp .And (b :: es) pos) (tE X.K J wb)) (ma : MonE wa) (mb : MonE wb) : PE X (.BoolOp .And (a :: b :: es) pos) (tE X.K J (wAnd wa wb)) := by
  refine ⟨fun pins s σ H Q I ⟨A, ρ, h, j, rs, r, hw⟩ => (pe_and ha hb).run pins s σ H Q I ?_⟩
  refine tE_of jj j rs r ma hw fun x h1 v H1 ⟨z, e, p⟩ j1 rs1 m1 r1 rv => ?_
  subst e
  cases rv
  refine ⟨z, rfl, ?_⟩
  cases z with
  | true => exact ⟨A, ρ, h1, j1, rs1, r1, mb _ _ _ _ (fun _ _ u => up.trans m1 u) p⟩
  | false => exact p _ _ m1 r1 (.bl _)
theorem s_or (jj : JOk J) (ha : PE X a (tE X.K J wa)) (hb : PE X (.BoolOp .Or (b :: es) pos) (tE X.K J wb)) (ma : MonE wa) (mb : MonE wb) : PE X (.BoolOp .Or (a :: b :: es) pos) (tE X.K J (wOr wa wb)) := by
  refine ⟨fun pins s σ H Q I ⟨A, ρ, h, j, rs, r, hw⟩ => (pe_or ha hb).run pins s σ H Q I ?_⟩
  refine tE_of jj j rs r ma hw fun x h1 v H1 ⟨z, e, p⟩ j1 rs1 m1 r1 rv => ?_
  subst e
  cases rv
  refine ⟨z, rfl, ?_⟩
  cases z with
  | false => exact ⟨A, ρ, h1, j1, rs1, r1, mb _ _ _ _ (fun _ _ u => up.trans m1 u) p⟩
  | true => exact p _ _ m1 r1 (.bl _)
/-- tests -/
def truP (h : MH) (x : PV) (k : Bool) : Prop := match x with
  | .non => k = false
  | .bl b => k = b
  | .int i => k = (i != 0)
  | .str y => y.length ≤ sizeLine ∧ k = ((y.length : Int) != 0)
  | .ty _ => False
  | x => ∃ xs, asSeq h x = some xs ∧ k = !xs.isEmpty
def wVal (wa : WE) : WT := fun ρ h Q => wa ρ h fun x h1 => ∃ k, truP h1 x k ∧ Q k h1
def wAndT (wt wu : WT) : WT := fun ρ h Q => wt ρ h fun b h1 => if b = true then wu ρ h1 Q else Q false h1
def wOrT (wt wu : WT) : WT := fun ρ h Q => wt ρ h fun b h1 => if b = true then Q true h1 else wu ρ h1 Q
def wNotT (wt : WT) : WT := fun ρ h Q => wt ρ h fun b h1 => Q (!b) h1
theorem mono_val (ma : MonE wa) : MonT (wVal wa) := fun ρ h P Q k hw => ma _ _ _ _ (fun x h1 ⟨b, e, z⟩ => ⟨b, e, k _ _ z⟩) hw
theorem mono_andT (ma : MonT wt) (mb : MonT wu) : MonT (wAndT wt wu) := fun ρ h P Q k hw => ma _ _ _ _ (fun b h1 z => by
  cases b with
  | true => exact mb _ _ _ _ k z
  | false => exact k _ _ z) hw
theorem mono_orT (ma : MonT wt) (mb : MonT wu) : MonT (wOrT wt wu) := fun ρ h P Q k hw => ma _ _ _ _ (fun b h1 z => by
  cases b with
  | false => exact mb _ _ _ _ k z
  | true => exact k _ _ z) hw
theorem mono_notT (ma : MonT wt) : MonT (wNotT wt) := fun ρ h P Q k hw => ma _ _ _ _ (fun b h1 z => k _ _ z) hw
theorem tru_rep {K : Frag} {A : Addr → Prop} {H : Hp} {h : MH} {x : PV} {v : V} {k : Bool} (r : Rel K A H h) (rv : RepV K H x v) (t : truP h x k) : TruV K v H k := by
  have go : (∃ xs, asSeq h x = some xs ∧ k = !xs.isEmpty) → TruV K v H k := by
    rintro ⟨xs, e, rfl⟩
    obtain ⟨p, vs, rfl, hq, l⟩ := asSeq_sq r rv e
    have em : (!xs.isEmpty) = !vs.isEmpty := by cases l <;> rfl
    rcases hq with ⟨hq, _⟩ | ⟨hq, _⟩
    · exact .inl ⟨vs, hq, em⟩
    · exact .inr (.inl ⟨vs, hq, em⟩)
  cases rv with
  | non => exact t
  | bl b => exact t
  | int b => exact t
  | str b => exact t
  | ty n => exact (show False from t).elim
  | ref a => exact go t
  | tup s l => exact go t
  | lst s l => exact go t
  | scr s l => exact go t
  | tpl s l => exact go t
theorem s_val (jj : JOk J) (ha : PE X a (tE X.K J wa)) (ma : MonE wa) (hp : ∀ whole, isTrue a X.env whole = (do let v ← whole; standAt a.pos; holding [v] (truthy v))) : PT X a (tT X.K J (wVal wa)) := by
  refine ⟨fun pins s σ H Q I ⟨A, ρ, h, j, rs, r, hw⟩ => (pt_truth ha hp).run pins s σ H Q I ?_⟩
  exact tE_of jj j rs r ma hw fun x h1 v H1 ⟨z, e, p⟩ j1 rs1 m1 r1 rv => ⟨z, tru_rep r1 rv e, p H1 m1 r1⟩
theorem s_cmpT (m : Match X c G gl k J ex) (op : COp) (ha : PE X a (tE X.K J wa)) (hb : PE X b (tE X.K J wb)) (ma : MonE wa) (mb : MonE wb) (hm : behindInMarks op.op b = false) (hbool : ∀ x y h (P : PK), cmpOp op x y h P → cmpOp op x y h fun z h' => (∃ k, z = .bl k) ∧ P z h') : PT X (.Compare a [op.op] [b] pos) (tT X.K J (wVal (w2 (cmpOp op) wa wb))) := by
  refine ⟨fun pins s σ H Q I hw => (pt_cmpR (ok_cmp (room65 m.room) op) ha hb hm).run pins s σ H Q I ?_⟩
  obtain ⟨A, ρ, h, j, rs, r, hw⟩ := hw
  have : tE X.K J (w2 (cmpOp op) wa wb) σ H fun v H' => ∃ k, v = .bl k ∧ Q k H' := by
    refine ⟨A, ρ, h, j, rs, r, ma _ _ _ _ (fun x h1 z => mb _ _ _ _ (fun y h2 z2 => ?_) z) hw⟩
    refine mono_cmp op _ _ _ _ _ (fun u h3 ⟨⟨b, e⟩, k', t, p⟩ => ?_) (hbool _ _ _ _ z2)
    subst e
    intro v H3 m3 r3 rv3
    cases rv3
    exact ⟨b, rfl, by rw [show b = k' from (show k' = b from t).symm]; exact p H3 m3 r3⟩
  exact t2 m.jj (mono_cmp op) ma mb this
theorem cmp_bool (op : COp) (x y : PV) (h : MH) (P : PK) (hw : cmpOp op x y h P) : cmpOp op x y h fun z h' => (∃ k, z = .bl k) ∧ P z h' := by
  have e (n : Bool) (hw : opEq n x y h P) : opEq n x y h fun z h' => (∃ k, z = .bl k) ∧ P z h' := by
    unfold opEq at hw ⊢
    split at hw
    · exact ⟨⟨_, rfl⟩, hw⟩
    · rename_i hno
      obtain ⟨d, e, h1, h2, h3, h4, q⟩ := hw
      exact ⟨d, e, h1, h2, h3, h4, ⟨_, rfl⟩, q⟩
  have i (p : Int → Int → Bool) (hw : opCmp p x y h P) : opCmp p x y h fun z h' => (∃ k, z = .bl k) ∧ P z h' := by
    unfold opCmp at hw ⊢
    split at hw
    · exact ⟨⟨_, rfl⟩, hw⟩
    · exact hw.elim
  have o (n : Bool) (hw : opIn n x y h P) : opIn n x y h fun z h' => (∃ k, z = .bl k) ∧ P z h' := by
    unfold opIn at hw ⊢
    split at hw
    · exact ⟨⟨_, rfl⟩, hw⟩
    · rename_i hno
      obtain ⟨xs, d, ds, h1, h2, h3, h4, h5, q⟩ := hw
      exact ⟨xs, d, ds, h1, h2, h3, h4, h5, ⟨_, rfl⟩, q⟩
  have u (n : Bool) (hw : opIs n x y h P) : opIs n x y h fun z h' => (∃ k, z = .bl k) ∧ P z h' := by
    unfold opIs at hw ⊢
    split at hw
    · exact ⟨⟨_, rfl⟩, hw⟩
    · exact hw.elim
  have z (n : Bool) (hw : opEqE n x y h P) : opEqE n x y h fun z h' => (∃ k, z = .bl k) ∧ P z h' := by
    unfold opEqE at hw ⊢
    split at hw
    · obtain ⟨xs, e, q⟩ := hw
      exact ⟨xs, e, ⟨_, rfl⟩, q⟩
    · split at hw
      · exact ⟨⟨_, rfl⟩, hw⟩
      · exact hw.elim
    · exact hw.elim
  cases op
  · exact e _ hw
  · exact e _ hw
  · exact i _ hw
  · exact i _ hw
  · exact i _ hw
  · exact i _ hw
  · exact o _ hw
  · exact o _ hw
  · exact u _ hw
  · exact u _ hw
  · exact z _ hw
  · exact z _ hw
theorem s_chainT (m : Match X c G gl k J ex) (op op' : COp) (ha : PE X a (tE X.K J wa)) (hb : PE X b (tE X.K J wb)) (hd : PE X d (tE X.K J wd)) (ma : MonE wa) (mb : MonE wb) (md : MonE wd)
    (hm : behindInMarks op'.op d = false) : PT X (.Compare a [op.op, op'.op] [b, d] pos) (tT X.K J (wVal (wChain (cmpOp op) (cmpOp op') wa wb wd))) := by
  refine ⟨fun pins s σ H Q I hw => (pt_chain (ok_cmp (room65 m.room) op) (ok_cmp (room65 m.room) op') ha hb hd (by simp only [lastMarks]; exact hm)).run pins s σ H Q I ?_⟩
  obtain ⟨A, ρ, h, j, rs, r, hw⟩ := hw
  refine tE_of m.jj j rs r ma hw fun x h1 v H1 p j1 rs1 m1 r1 rv => ?_
  refine tE_of m.jj j1 rs1 r1 mb p fun y h2 u H2 q j2 rs2 m2 r2 ru => ?_
  refine ⟨A, x, y, h2, r2, rv.mon m2, ru, mono_cmp op _ _ _ _ _ (fun z h3 z3 => ?_) q⟩
  obtain ⟨b, rfl, z3⟩ := z3
  intro v3 H3 m3 r3 rv3
  cases rv3
  refine ⟨b, rfl, ?_⟩
  cases b with
  | false =>
    obtain ⟨k', t, p⟩ := z3
    exact ⟨false, rfl, by rw [← show k' = false from t]; exact p _ (m1.trans (m2.trans m3)) r3⟩
  | true =>
    refine tE_of m.jj (m.jj.mon j2 m3) (rs2.mon m3) r3 md z3 fun w h4 u4 H4 q4 j4 rs4 m4 r4 ru4 => ?_
    refine ⟨A, y, w, h4, r4, ru.mon (m3.trans m4), ru4, mono_cmp op' _ _ _ _ _ (fun z h5 ⟨⟨b, e⟩, k', t, p⟩ => ?_) (cmp_bool op' _ _ _ _ q4)⟩
    subst e
    intro v5 H5 m5 r5 rv5
    cases rv5
    exact ⟨b, rfl, by rw [show b = k' from (show k' = b from t).symm]; exact p _ (m1.trans (m2.trans (m3.trans (m4.trans m5)))) r5⟩
theorem s_notT (jj : JOk J) (ha : PT X a (tT X.K J wt)) (ma : MonT wt) : PT X (.UnaryOp .Not a pos) (tT X.K J (wNotT wt)) := by
  refine ⟨fun pins s σ H Q I ⟨A, ρ, h, j, rs, r, hw⟩ => (pt_not ha).run pins s σ H Q I ?_⟩
  exact ⟨A, ρ, h, j, rs, r, ma _ _ _ _ (fun b h1 z => z) hw⟩
theorem s_andT (jj : JOk J) (ha : PT X a (tT X.K J wt)) (hb : PW X (.BoolOp .And (b :: es) pos) (tT X.K J wu)) (ma : MonT wt) (mb : MonT wu) : PW X (.BoolOp .And (a :: b :: es) pos) (tT X.K J (wAndT wt wu)) := by
  refine ⟨fun wh pins s σ H Q I ⟨A, ρ, h, j, rs, r, hw⟩ => (pw_and ha hb).run wh pins s σ H Q I ?_⟩
  refine tT_of jj j rs r ma hw fun z h1 H1 p j1 rs1 m1 r1 => ?_
  cases z with
  | true => exact ⟨A, ρ, h1, j1, rs1, r1, mb _ _ _ _ (fun b h2 u H' m' r' => u H' (m1.trans m') r') p⟩
  | false => exact p H1 m1 r1
theorem s_orT (jj : JOk J) (ha : PT X a (tT X.K J wt)) (hb : PW X (.BoolOp .Or (b :: es) pos) (tT X.K J wu)) (ma : MonT wt) (mb : MonT wu) : PW X (.BoolOp .Or (a :: b :: es) pos) (tT X.K J (wOrT wt wu)) := by
  refine ⟨fun wh pins s σ H Q I ⟨A, ρ, h, j, rs, r, hw⟩ => (pw_or ha hb).run wh pins s σ H Q I ?_⟩
  refine tT_of jj j rs r ma hw fun z h1 H1 p j1 rs1 m1 r1 => ?_
  cases z with
  | false => exact ⟨A, ρ, h1, j1, rs1, r1, mb _ _ _ _ (fun b h2 u H' m' r' => u H' (m1.trans m') r') p⟩
  | true => exact p H1 m1 r1
def wIte (wt : WT) (wa wb : WE) : WE := fun ρ h Q => wt ρ h fun b h1 => if b = true then wa ρ h1 Q else wb ρ h1 Q
theorem mono_ite (mt : MonT wt) (ma : MonE wa) (mb : MonE wb) : MonE (wIte wt wa wb) := fun ρ h P Q k hw => mt _ _ _ _ (fun b h1 z => by
  cases b with
  | true => exact ma _ _ _ _ k z
  | false => exact mb _ _ _ _ k z) hw
theorem s_ite (jj : JOk J) {t : Expr} (ht : PT X t (tT X.K J wt)) (ha : PE X a (tE X.K J wa)) (hb : PE X b (tE X.K J wb)) (mt : MonT wt) (ma : MonE wa) (mb : MonE wb) : PE X (.IfExp t a b pos) (tE X.K J (wIte wt wa wb)) := by
  refine ⟨fun pins s σ H Q I ⟨A, ρ, h, j, rs, r, hw⟩ => (pe_ifExp ht ha hb).run pins s σ H Q I ?_⟩
  refine tT_of jj j rs r mt hw fun z h1 H1 p j1 rs1 m1 r1 => ?_
  cases z with
  | true => exact ⟨A, ρ, h1, j1, rs1, r1, ma _ _ _ _ (fun _ _ u => up.trans m1 u) p⟩
  | false => exact ⟨A, ρ, h1, j1, rs1, r1, mb _ _ _ _ (fun _ _ u => up.trans m1 u) p⟩

/-! ### subscripts -/
theorem s_ix (jj : JOk J) (ha : PE X a (tE X.K J wa)) (hb : PE X b (tE X.K J wb)) (ma : MonE wa) (mb : MonE wb) (hs : PlainIx b) : PE X (.Subscript a b pos) (tE X.K J (w2 opIx wa wb)) :=
  ⟨fun pins s σ H Q I hw => (pe_ix ok_opIx ha hb hs).run pins s σ H Q I (t2 jj mono_opIx ma mb hw)⟩
/-- a part of a slice -/
abbrev WO := Env → MH → (Option Int → MH → Prop) → Prop
def MonO (w : WO) : Prop := ∀ ρ h (P Q : Option Int → MH → Prop), (∀ x h, P x h → Q x h) → w ρ h P → w ρ h Q
def tO (K : Frag) (J : Jw) (w : WO) : L2.TO := fun σ H Q => ∃ A ρ h, J A H ∧ RepSt K H ρ σ ∧ Rel K A H h ∧ w ρ h fun x h' => ∀ H', Mon A H H' → Rel K A H' h' → Q x H'
def wOmit : WO := fun _ h Q => Q none h
def wPart (wa : WE) : WO := fun ρ h Q => wa ρ h fun x h1 => ∃ i, x = .int i ∧ Q (some i) h1
theorem mono_omit : MonO wOmit := fun _ _ _ _ k q => k _ _ q
theorem mono_part (ma : MonE wa) : MonO (wPart wa) := fun ρ h P Q k hw => ma _ _ _ _ (fun x h1 ⟨i, e, q⟩ => ⟨i, e, k _ _ q⟩) hw
theorem s_omit : PO X none (tO X.K J wOmit) := ⟨fun pins s σ H Q I ⟨A, ρ, h, j, rs, r, q⟩ => po_none.run pins s σ H Q I (q H .refl r)⟩
theorem s_part (jj : JOk J) (ha : PE X a (tE X.K J wa)) (ma : MonE wa) : PO X (some a) (tO X.K J (wPart wa)) := by
  refine ⟨fun pins s σ H Q I ⟨A, ρ, h, j, rs, r, hw⟩ => (po_some ha).run pins s σ H Q I ?_⟩
  refine tE_of jj j rs r ma hw fun x h1 v H1 ⟨i, e, q⟩ j1 rs1 m1 r1 rv => ?_
  subst e
  cases rv
  exact ⟨i, rfl, q H1 m1 r1⟩
def wSl (m : Bool) (wa : WE) (wl wu : WO) : WE := fun ρ h Q => wa ρ h fun x h1 => wl ρ h1 fun l h2 => wu ρ h2 fun u h3 => opSl m x l u h3 Q
theorem mono_sl (m : Bool) {wl wu : WO} (ma : MonE wa) (ml : MonO wl) (mu : MonO wu) : MonE (wSl m wa wl wu) := fun ρ h P Q k hw =>
  ma _ _ _ _ (fun x h1 z => ml _ _ _ _ (fun l h2 z2 => mu _ _ _ _ (fun u h3 z3 => mono_opSl m x l u h3 P Q k z3) z2) z) hw
theorem s_sl {lo hi : Option Expr} {wl wu : WO} {p2 : Pos} (jj : JOk J) (m : Bool) (ha : PE X a (tE X.K J wa)) (hl : PO X lo (tO X.K J wl)) (hu : PO X hi (tO X.K J wu)) (ma : MonE wa) (ml : MonO wl) (mu : MonO wu) :
    PE X (.Subscript a (.Slice lo hi none p2) pos) (tE X.K J (wSl m wa wl wu)) := by
  refine ⟨fun pins s σ H Q I ⟨A, ρ, h, j, rs, r, hw⟩ => (pe_slice (ok_opSl m) ha hl hu).run pins s σ H Q I ?_⟩
  refine tE_of jj j rs r ma hw fun x h1 v H1 p j1 rs1 m1 r1 rv => ?_
  refine ⟨A, ρ, h1, j1, rs1, r1, ml _ _ _ _ (fun l h2 p2 H2 m2 r2 => ?_) p⟩
  refine ⟨A, ρ, h2, jj.mon j1 m2, rs1.mon m2, r2, mu _ _ _ _ (fun u h3 p3 H3 m3 r3 => ?_) p2⟩
  exact ⟨A, x, h3, r3, rv.mon (m2.trans m3), mono_opSl m x l u h3 _ _ (fun z h4 up => up.trans (m1.trans (m2.trans m3))) p3⟩

/-! ### calls -/
theorem s_bi (m : Match X c G gl k J ex) {x : Str} {p : Pos} (f : Bool) (b : Bi) (hx : x = b.name) (hg : Gl X x) (hm : X.mg x = none) (ha : PA X (e :: es) (tA X.K J wl)) (ml : MonA wl)
    (he : starEach (e :: es) X.env = (false, eval e X.env) :: starEach es X.env) (hpl : (backTo pos (starEach es X.env)).any (·.1) = false) : PE X (.Call (.Name x p) (e :: es) [] pos) (tE X.K J (wL (biOp f b) wl)) := by
  subst hx
  have ho := ok_bi (X := X) m.calm m.gd (room65 m.room) f b
  have tl : ∀ {σ H Q}, tE X.K J (wL (biOp f b) wl) σ H Q → tCB (lL X.K (biOp f b)) (tA X.K J wl) σ H Q := fun hw => tL m.jj (mono_bi f b) ml hw
  refine ⟨fun pins s σ H Q I hw => ?_⟩
  cases b
  case len => exact (pe_callB ho hg hm PySem.boot_len ha (by decide) (by decide) he hpl).run pins s σ H Q I (tl hw)
  case int => exact (pe_callTy ho hg hm (by decide +kernel) ha (by decide) (by decide) he hpl).run pins s σ H Q I (tl hw)
  case tupd => exact (pe_callTy ho hg hm (by decide +kernel) ha (by decide) (by decide) he hpl).run pins s σ H Q I (tl hw)
  case tuple => exact (pe_callTy ho hg hm (by decide +kernel) ha (by decide) (by decide) he hpl).run pins s σ H Q I (tl hw)
  case list => exact (pe_callTy ho hg hm (by decide +kernel) ha (by decide) (by decide) he hpl).run pins s σ H Q I (tl hw)
  case str => exact (pe_callTy ho hg hm (by decide +kernel) ha (by decide) (by decide) he hpl).run pins s σ H Q I (tl hw)
  all_goals exact (pe_callB ho hg hm (by decide +kernel) ha (by decide) (by decide) he hpl).run pins s σ H Q I (tl hw)

/-- a def of the module -/
def wFn (sp : Spec) (ex : Env → XV) (wl : WA) : WE := fun ρ h Q => wl ρ h fun xs h1 => sp xs h1 Q (ex ρ)
theorem mono_fn {sp : Spec} (hs : ∀ as h (P Q : PK) (R T : XV), (∀ x h, P x h → Q x h) → (∀ c fs h, R c fs h → T c fs h) → sp as h P R → sp as h Q T) (ml : MonA wl) : MonE (wFn sp ex wl) := fun ρ h P Q k hw => ml _ _ _ _ (fun xs h1 z => hs _ _ _ _ _ _ k (fun _ _ _ z => z) z) hw
theorem run_fng (m : Match X c G gl k J ex) {f : Str} {ps : List Str} {fa : Addr} {fd : FuncData} (F : FnG X.prog X.w X.K X.mg X.base k fa fd ps (G.fn f)) {args : Args} {us : List Value} {vs : List V} {pins : List (Addr × Obj)} {s : Shared} {σ : L2.St} {H : Hp} {Q : VK} (I : Inv X pins σ H s)
    (hb : BindsTo s fd args (ps.zip us)) (rv : Vals vs us) (hl : vs.length = ps.length) {A : Addr → Prop} {ρ : Env} {h : MH} {as : List PV} (j : J A H) (rs : RepSt X.K H ρ σ) (r : Rel X.K A H h) (rl : RepL X.K H as vs) (hw : G.fn f as h (up X.K A H Q) (ex ρ)) :
    codeAny (model X.prog X.w) X.A (.call (.ref fa) args) (fun r s' => match r with
      | .ok (.ret u) => EP X pins σ Q u s'
      | .ok _ => False
      | .error e => X.xe e s') s := by
  refine codeAny_mono (F.run X.A X.stack s H args us vs Q (fun cls d H' => WJ X.K J ex cls d σ H') m.gd m.room I.env0 hb rv hl ⟨A, as, h, r, rl, ?_⟩) fun r s' hq => ?_
  · exact G.mono _ _ _ _ _ _ _ (fun _ _ z => z) (fun cl fs h' z d H' mo re xf => ⟨A, ρ, h', fs, m.jj.mon j mo, rs.mon mo, re, xf, z⟩) hw
  · cases r with
    | error e => exact m.tk _ _ (XE.of_call I (fun _ _ _ z => z) hq)
    | ok fl =>
      cases fl with
      | ret u => exact I.after hq
      | next => exact False.elim hq
      | brk => exact False.elim hq
      | cont => exact False.elim hq
theorem call_of {M : Model} {A : Around} {f : Value} {us : List Value} {kw : List (Str × Value)} {Q : Value → Shared → Prop} {E : Value → Shared → Prop} {s : Shared}
    (h : codeAny M A (.call f ⟨us, kw⟩) (fun r s' => match r with
      | .ok (.ret u) => Q u s'
      | .ok _ => False
      | .error e => E e s') s) : wpAny M A (call f us kw) Q E s := by
  refine wpAny_call (codeAny_mono h fun r s' hq => ?_)
  cases r with
  | error e => exact hq
  | ok fl => cases fl <;> first | exact hq | exact False.elim hq
theorem s_fn (m : Match X c G gl k J ex) {f : Str} {ps : List Str} {p : Pos} (hf : (f, ps) ∈ c.fns) (hg : Gl X f) (hd : (f == ("__debug__" : Str)) = false) (ha : PA X (e :: es) (tA X.K J wl)) (ml : MonA wl) (hn : es.length + 1 = ps.length)
    (len : ∀ {ρ h Q}, wl ρ h Q → wl ρ h fun xs h1 => xs.length = es.length + 1 ∧ Q xs h1)
    (he : starEach (e :: es) X.env = (false, eval e X.env) :: starEach es X.env) (hpl : (backTo pos (starEach es X.env)).any (·.1) = false) : PE X (.Call (.Name f p) (e :: es) [] pos) (tE X.K J (wFn (G.fn f) ex wl)) := by
  obtain ⟨fa, fd, hm, F, kp, bd⟩ := m.fns f ps hf
  refine ⟨fun pins s σ H Q I ⟨A, ρ, h, j, rs, r, hw⟩ => ?_⟩
  refine wpAny_Call_Name_kw (ld_glob I hg hm ?_ hd)
  have ht : tA X.K J wl σ H fun vs H1 => vs.length = ps.length ∧ ∃ (A : Addr → Prop) (ρ : Env) (h : MH) (as : List PV), J A H1 ∧ RepSt X.K H1 ρ σ ∧ Rel X.K A H1 h ∧ RepL X.K H1 as vs ∧ G.fn f as h (up X.K A H1 Q) (ex ρ) :=
    tA_of m.jj j rs r ml (len hw) fun xs h1 vs H1 p j1 rs1 m1 r1 rl => ⟨by rw [← rl.length, p.1, hn], A, ρ, h1, xs, j1, rs1, r1, rl, G.mono _ _ _ _ _ _ _ (fun _ _ z => up.trans m1 z) (fun _ _ _ z => z) p.2⟩
  refine PySem.W.callWith_K (h₀ := X.base) I.ok.mod.kin kp (thn (ha.run pos pins s σ H _ I ht) fun us s1 ⟨vs, H1, I1, rv, hl, A1, ρ1, h1, as, j1, rs1, r1, rl, q⟩ => ⟨I1.kIn, ?_⟩) he hpl
  have b := bd s1 us I1.kIn (by rw [List.append_nil, ← rv.length]; exact hl)
  rw [List.append_nil] at b
  exact call_of (run_fng m F I1 b rv hl j1 rs1 r1 rl q)
end
end Ev

set_option Elab.async false
set_option linter.all false
set_option maxRecDepth 100000
set_option maxHeartbeats 4000000
/-! Ev7: targets of loops, what is walked, comprehensions, methods of lists. -/
namespace Ev
open PySem PySem.Spec PyProof.Rows L2

/-! ### targets: names and tuples of them -/
mutual
inductive ST where
  | name (i : Nat)
  | tup (ts : STs)
inductive STs where
  | nil
  | cons (t : ST) (ts : STs)
end
def STs.len : STs → Nat
  | .nil => 0
  | .cons _ ts => ts.len + 1
mutual
def ST.set : ST → PV → Env → Option Env
  | .name i, x, ρ => some (ρ.set i (some x))
  | .tup ts, x, ρ => match x with
    | .tup xs => ts.set xs ρ
    | _ => none
def STs.set : STs → List PV → Env → Option Env
  | .nil, xs, ρ => match xs with
    | [] => some ρ
    | _ => none
  | .cons t ts, xs, ρ => match xs with
    | x :: xs => (t.set x ρ).bind fun ρ' => ts.set xs ρ'
    | _ => none
end
mutual
/-- its reading -/
def ST.g (K : Frag) : ST → TG
  | .name i => gName i
  | .tup ts => gTup K ts.len (ts.g K)
def STs.g (K : Frag) : STs → TGs
  | .nil => gNil
  | .cons t ts => gCons (t.g K) (ts.g K)
end
mutual
def ST.slots : ST → List Nat
  | .name i => [i]
  | .tup ts => ts.slots
def STs.slots : STs → List Nat
  | .nil => []
  | .cons t ts => t.slots ++ ts.slots
end
theorem wipe_set {σ : L2.St} {i : Nat} {x : Option V} : ∀ {vs : List Nat}, i ∈ vs → L2.wipe (σ.set i x) vs = L2.wipe σ vs
  | v :: vs, h => by
    unfold L2.wipe
    by_cases e : i = v
    · subst e
      have go : ∀ (vs : List Nat) (σ : L2.St), (L2.wipe (σ.set i x) vs).set i none = (L2.wipe σ vs).set i none := by
        intro vs
        induction vs with
        | nil => intro σ; show (σ.set i x).set i none = σ.set i none; rw [List.set_set]
        | cons u us ih =>
          intro σ
          unfold L2.wipe
          by_cases e : i = u
          · subst e; rw [ih]
          · rw [List.set_comm _ _ (Ne.symm e), ih, List.set_comm _ _ e]
      exact go vs σ
    · have h' : i ∈ vs := by
        rcases List.mem_cons.mp h with z | z
        · exact absurd z e
        · exact z
      rw [wipe_set h']
theorem STs.set_len : ∀ (ts : STs) {xs : List PV} {ρ ρ' : Env}, ts.set xs ρ = some ρ' → xs.length = ts.len
  | .nil, xs, ρ, ρ', e => by
    cases xs with
    | nil => rfl
    | cons => simp [STs.set] at e
  | .cons t ts, xs, ρ, ρ', e => by
    cases xs with
    | nil => simp [STs.set] at e
    | cons y ys =>
      simp only [STs.set] at e
      obtain ⟨ρ1, _, e2⟩ := Option.bind_eq_some_iff.mp e
      simp only [List.length_cons, STs.len, STs.set_len ts e2]
section
variable {K : Frag} {H : Hp} {A : Addr → Prop} {h : MH}
mutual
theorem ST.set_ok : ∀ (t : ST) {x : PV} {v : V} {ρ ρ' : Env} {σ : L2.St} {R : L2.St → Hp → Prop}, RepV K H x v → RepSt K H ρ σ → t.set x ρ = some ρ' →
    (∀ σ', RepSt K H ρ' σ' → (∀ vs, (∀ i ∈ t.slots, i ∈ vs) → L2.wipe σ' vs = L2.wipe σ vs) → R σ' H) → t.g K v σ H R
  | .name i, x, v, ρ, ρ', σ, R, rv, rs, e, k => by
    simp only [ST.set] at e
    cases e
    simp only [ST.g, gName]
    exact k _ (rs.set i rv) fun vs hv => wipe_set (hv i (by simp [ST.slots]))
  | .tup ts, x, v, ρ, ρ', σ, R, rv, rs, e, k => by
    simp only [ST.set] at e
    split at e
    · rename_i xs
      cases rv with
      | tup s l =>
        simp only [ST.g, gTup]
        refine ⟨_, _, rfl, s, ?_, ?_⟩
        · rw [← l.length]
          exact STs.set_len ts e
        · exact STs.set_ok ts l rs e fun σ' r' w' => k σ' r' fun vs hv => w' vs (by simpa [ST.slots] using hv)
    · cases e
theorem STs.set_ok : ∀ (ts : STs) {xs : List PV} {vs : List V} {ρ ρ' : Env} {σ : L2.St} {R : L2.St → Hp → Prop}, RepL K H xs vs → RepSt K H ρ σ → ts.set xs ρ = some ρ' →
    (∀ σ', RepSt K H ρ' σ' → (∀ us, (∀ i ∈ ts.slots, i ∈ us) → L2.wipe σ' us = L2.wipe σ us) → R σ' H) → ts.g K vs σ H R
  | .nil, xs, vs, ρ, ρ', σ, R, l, rs, e, k => by
    cases l with
    | nil =>
      simp only [STs.set] at e
      cases e
      show gNil [] σ H R
      exact ⟨rfl, k σ rs fun _ _ => rfl⟩
    | cons => simp [STs.set] at e
  | .cons t ts, xs, vs, ρ, ρ', σ, R, l, rs, e, k => by
    cases l with
    | nil => simp [STs.set] at e
    | cons r l =>
      simp only [STs.set] at e
      obtain ⟨ρ1, e1, e2⟩ := Option.bind_eq_some_iff.mp e
      simp only [STs.g, gCons]
      refine ⟨_, _, rfl, ST.set_ok t r rs e1 fun σ1 rs1 w1 => ?_⟩
      exact STs.set_ok ts l rs1 e2 fun σ2 rs2 w2 => k σ2 rs2 fun us hu => (w2 us fun i hi => hu i (by simp [STs.slots, hi])).trans (w1 us fun i hi => hu i (by simp [STs.slots, hi]))
end
end

/-! ### what is walked -/
structure Items where
  xs : List PV
  keep : MH → Prop
structure ItOk (K : Frag) (A : Addr → Prop) (J : It) (it : Items) (H0 : Hp) : Prop where
  go : ∀ i H h, i < it.xs.length → Mon A H0 H → Rel K A H h → it.keep h → J.go i H
  stop : ∀ H h, Mon A H0 H → Rel K A H h → it.keep h → J.stop it.xs.length H
  yld : ∀ i H h x H', i < it.xs.length → Mon A H0 H → Rel K A H h → it.keep h → J.yld i H x H' → ∃ p, it.xs[i]? = some p ∧ RepV K H' p x ∧ (H' = H ∨ ∃ T ws, H T = none ∧ H' = upd H T (.tup ws))
abbrev WI := Env → MH → (Items → MH → Prop) → Prop
def MonI (w : WI) : Prop := ∀ ρ h (P Q : Items → MH → Prop), (∀ x h, P x h → Q x h) → w ρ h P → w ρ h Q
def tI (K : Frag) (J : Jw) (w : WI) : TI := fun σ H R => ∃ A ρ h, J A H ∧ RepSt K H ρ σ ∧ Rel K A H h ∧ w ρ h fun it h1 => ∀ I1 H1, Mon A H H1 → Rel K A H1 h1 → ItOk K A I1 it H1 → R I1 H1

def chars (z : Str) : List PV := z.cps.toList.map fun c => .str ⟨#[c]⟩
def itemsOf (h : MH) : PV → Option (List PV)
  | .str z => some (chars z)
  | x => asSeq h x
def keepOf (x : PV) (xs : List PV) : MH → Prop := match x with
  | .ref r => fun h => h r = some (.lst xs)
  | _ => fun _ => True
def wSeq (wa : WE) : WI := fun ρ h Q => wa ρ h fun x h1 => ∃ xs, itemsOf h1 x = some xs ∧ Q ⟨xs, keepOf x xs⟩ h1
theorem mono_seq {wa : WE} (ma : MonE wa) : MonI (wSeq wa) := fun ρ h P Q k hw => ma _ _ _ _ (fun x h1 ⟨xs, e, q⟩ => ⟨xs, e, k _ _ q⟩) hw
section
variable {X : Cx} {tg a b d : Expr} {K : Frag} {A : Addr → Prop} {H : Hp} {h : MH}
/-- a list, a tuple or a text -/
def iAny (K : Frag) (tl : TE) : TI := fun σ H R => tl σ H fun x H1 => (∃ a, x = .ref a ∧ (((∃ xs, SqL K H1 a xs) ∧ R (Itl K a) H1) ∨ ((∃ xs, SqT K H1 a xs) ∧ R (Itt K a) H1))) ∨ ∃ z, x = .str z ∧ R (Its z) H1
theorem pi_any {tl : TE} (ha : PE X a tl) : PI X tg a (iAny X.K tl) := by
  constructor
  intro pins s σ H R I hw
  apply thn (ha.run pins s σ H _ I hw)
  rintro v s1 ⟨x, H1, I1, r1, ⟨l, rfl, ⟨⟨xs, q⟩, w⟩ | ⟨⟨xs, q⟩, w⟩⟩ | ⟨z, rfl, w⟩⟩
  · cases r1
    obtain ⟨its, _, pl, _⟩ := I1.list q
    exact wpAny_pyIter_list pl.isList (pi_one (tk := s1.toks) I1 _ (turn_list l _) ⟨_, Heap.get?_push_size _ rfl, rfl, rfl⟩ w)
  · cases r1
    obtain ⟨its, _, pl, _⟩ := I1.tuple q
    exact wpAny_pyIter_tuple (show s1.heap.IsTuple l its.toArray from pl) (pi_one (tk := s1.toks) I1 _ (turn_tuple l _) ⟨_, Heap.get?_push_size _ rfl, rfl, rfl⟩ w)
  · obtain ⟨t, rfl⟩ := r1
    cases ha : z.cps.all (· < 128)
    · exact wpAny_pyIter_wide ha (pi_one (tk := s1.toks) I1 _ (turn_str _ z t _ (.inr rfl)) ⟨_, Heap.get?_push_size _ rfl, rfl, rfl⟩ w)
    · exact wpAny_pyIter_ascii ha (pi_one (tk := s1.toks) I1 _ (turn_str _ z t _ (.inl rfl)) ⟨_, Heap.get?_push_size _ rfl, rfl, rfl⟩ w)

/-- what a kept list is later -/
theorem seq_later {H1 H : Hp} {h1 h : MH} {x : PV} {v : V} {xs : List PV} (r1 : Rel K A H1 h1) (rv : RepV K H1 x v) (e : asSeq h1 x = some xs) (m : Mon A H1 H) (r : Rel K A H h) (kp : keepOf x xs h) : asSeq h x = some xs ∧ RepV K H x v := by
  refine ⟨?_, rv.mon m⟩
  cases x with
  | ref p =>
    have q : h p = some (.lst xs) := kp
    show (match h p with | some (.lst ys) => some ys | _ => none) = some xs
    rw [q]
  | tup ys => exact e
  | tpl ys => exact e
  | lst ys => exact e
  | scr ys => exact e
  | _ => cases e
theorem itl_ok {H1 : Hp} {h1 : MH} {x : PV} {p : Addr} {vs : List V} {xs : List PV} (r1 : Rel K A H1 h1) (rv : RepV K H1 x (.ref p)) (e : asLstW h1 x = some xs) (hs : asSeq h1 x = some xs) : ItOk K A (Itl K p) ⟨xs, keepOf x xs⟩ H1 := by
  have at_ : ∀ {H : Hp} {h : MH}, Mon A H1 H → Rel K A H h → keepOf x xs h → ∃ ws, SqL K H p ws ∧ RepL K H xs ws := by
    intro H h m r kp
    obtain ⟨e2, rv2⟩ := seq_later r1 rv hs m r kp
    obtain ⟨q, ws, eq, hq, l⟩ := asSeq_sq r rv2 e2
    cases eq
    rcases hq with ⟨hq, _⟩ | ⟨_, rfl | rfl⟩
    · exact ⟨ws, hq, l⟩
    · cases e
    · cases e
  refine ⟨fun i H h hi m r kp => ?_, fun H h m r kp => ?_, fun i H h y H' hi m r kp yl => ?_⟩
  · obtain ⟨ws, hq, l⟩ := at_ m r kp
    have hi : i < xs.length := hi
    obtain ⟨w, e1, _⟩ := l.get (List.getElem?_eq_getElem hi)
    exact ⟨ws, w, hq, e1⟩
  · obtain ⟨ws, hq, l⟩ := at_ m r kp
    exact ⟨ws, hq, Nat.le_of_eq l.length.symm⟩
  · obtain ⟨ws, hq, l⟩ := at_ m r kp
    obtain ⟨rfl, yl⟩ := yl
    obtain ⟨z, e1, rz⟩ := l.get' (yl ws hq)
    exact ⟨z, e1, rz, .inl rfl⟩
theorem itt_ok {H1 : Hp} {h1 : MH} {p : Addr} {xs : List PV} (r1 : Rel K A H1 h1) (rv : RepV K H1 (.tup xs) (.ref p)) : ItOk K A (Itt K p) ⟨xs, keepOf (.tup xs) xs⟩ H1 := by
  have at_ : ∀ {H : Hp}, Mon A H1 H → ∃ ws, SqT K H p ws ∧ RepL K H xs ws := by
    intro H m
    cases rv.mon m with
    | tup s l => exact ⟨_, s, l⟩
  refine ⟨fun i H h hi m r kp => ?_, fun H h m r kp => ?_, fun i H h y H' hi m r kp yl => ?_⟩
  · obtain ⟨ws, hq, l⟩ := at_ m
    have hi : i < xs.length := hi
    obtain ⟨w, e1, _⟩ := l.get (List.getElem?_eq_getElem hi)
    exact ⟨ws, w, hq, e1⟩
  · obtain ⟨ws, hq, l⟩ := at_ m
    exact ⟨ws, hq, Nat.le_of_eq l.length.symm⟩
  · obtain ⟨ws, hq, l⟩ := at_ m
    obtain ⟨rfl, yl⟩ := yl
    obtain ⟨z, e1, rz⟩ := l.get' (yl ws hq)
    exact ⟨z, e1, rz, .inl rfl⟩
theorem ittd_ok {H1 : Hp} {h1 : MH} {p : Addr} {xs : List PV} (r1 : Rel K A H1 h1) (rv : RepV K H1 (.tpl xs) (.ref p)) : ItOk K A (Itt K p) ⟨xs, keepOf (.tpl xs) xs⟩ H1 := by
  have at_ : ∀ {H : Hp}, Mon A H1 H → ∃ ws, SqT K H p ws ∧ RepL K H xs ws := by
    intro H m
    cases rv.mon m with
    | tpl s l => exact ⟨_, s.sq, l⟩
  refine ⟨fun i H h hi m r kp => ?_, fun H h m r kp => ?_, fun i H h y H' hi m r kp yl => ?_⟩
  · obtain ⟨ws, hq, l⟩ := at_ m
    have hi : i < xs.length := hi
    obtain ⟨w, e1, _⟩ := l.get (List.getElem?_eq_getElem hi)
    exact ⟨ws, w, hq, e1⟩
  · obtain ⟨ws, hq, l⟩ := at_ m
    exact ⟨ws, hq, Nat.le_of_eq l.length.symm⟩
  · obtain ⟨ws, hq, l⟩ := at_ m
    obtain ⟨rfl, yl⟩ := yl
    obtain ⟨z, e1, rz⟩ := l.get' (yl ws hq)
    exact ⟨z, e1, rz, .inl rfl⟩
theorem its_ok {H1 : Hp} {z : Str} {kp : MH → Prop} : ItOk K A (Its z) ⟨chars z, kp⟩ H1 := by
  have hl : (chars z).length = z.cps.size := by simp [chars]
  refine ⟨fun i H h hi m r kp => by show i < z.cps.size; rw [← hl]; exact hi, fun H h m r kp => by show z.cps.size ≤ (chars z).length; rw [hl]; exact Nat.le_refl _, fun i H h y H' hi m r kp yl => ?_⟩
  obtain ⟨rfl, c, e, rfl⟩ := yl
  refine ⟨.str ⟨#[c]⟩, ?_, .str _, .inl rfl⟩
  show (chars z)[i]? = _
  unfold chars
  rw [List.getElem?_map, Array.getElem?_toList, e] <;> rfl
variable {J : Jw} {wa wb wd : WE} {wl : WA} {pos : Pos}
theorem s_seq (jj : JOk J) (ha : PE X a (tE X.K J wa)) (ma : MonE wa) : PI X tg a (tI X.K J (wSeq wa)) := by
  refine ⟨fun pins s σ H R I ⟨A, ρ, h, j, rs, r, hw⟩ => (pi_any ha).run pins s σ H R I ?_⟩
  refine tE_of jj j rs r ma hw fun x h1 v H1 ⟨xs, e, p⟩ j1 rs1 m1 r1 rv => ?_
  have go : asSeq h1 x = some xs → (∃ a, v = .ref a ∧ (((∃ xs, SqL X.K H1 a xs) ∧ R (Itl X.K a) H1) ∨ ((∃ xs, SqT X.K H1 a xs) ∧ R (Itt X.K a) H1))) := by
    intro e
    obtain ⟨l, vs, rfl, hq, rl⟩ := asSeq_sq r1 rv e
    refine ⟨l, rfl, ?_⟩
    rcases hq with ⟨hq, e1⟩ | ⟨hq, rfl | rfl⟩
    · exact .inl ⟨⟨vs, hq⟩, p _ _ m1 r1 (itl_ok (vs := vs) r1 rv e1 e)⟩
    · exact .inr ⟨⟨vs, hq⟩, p _ _ m1 r1 (itt_ok r1 rv)⟩
    · exact .inr ⟨⟨vs, hq⟩, p _ _ m1 r1 (ittd_ok r1 rv)⟩
  cases x with
  | str z =>
    cases e
    cases rv
    exact .inr ⟨z, rfl, p _ _ m1 r1 its_ok⟩
  | _ => exact .inl (go e)
/-! ranges -/
def rangeP (lo c : Int) (n : Nat) : List PV := (List.range n).map fun i => .int (lo + (i : Nat) * c)
theorem rangeP_len (lo c : Int) (n : Nat) : (rangeP lo c n).length = n := by simp [rangeP]
theorem rangeP_get {lo c : Int} {n i : Nat} (hi : i < n) : (rangeP lo c n)[i]? = some (.int (lo + (i : Nat) * c)) := by
  unfold rangeP
  rw [List.getElem?_map, List.getElem?_range hi] <;> rfl
def wRng1 (wl : WA) : WI := fun ρ h Q => wl ρ h fun xs h1 => ∃ j : Int, xs = [.int j] ∧ -(2 ^ 62) ≤ j ∧ j < 2 ^ 62 ∧ Q ⟨rangeP 0 1 j.toNat, fun _ => True⟩ h1
def wRng2 (wl : WA) : WI := fun ρ h Q => wl ρ h fun xs h1 => ∃ i j : Int, xs = [.int i, .int j] ∧ (-(2 ^ 62) ≤ i ∧ i < 2 ^ 62 ∧ -(2 ^ 62) ≤ j ∧ j < 2 ^ 62) ∧ Q ⟨rangeP i 1 (j - i).toNat, fun _ => True⟩ h1
def wRng3 (wl : WA) : WI := fun ρ h Q => wl ρ h fun xs h1 => ∃ (i j c : Int) (n : Nat), xs = [.int i, .int j, .int c] ∧ RgC i j c n ∧ Q ⟨rangeP i c n, fun _ => True⟩ h1
theorem mono_rng1 (ml : MonA wl) : MonI (wRng1 wl) := fun ρ h P Q k hw => ml _ _ _ _ (fun x h1 ⟨j, e, e2, e3, q⟩ => ⟨j, e, e2, e3, k _ _ q⟩) hw
theorem mono_rng2 (ml : MonA wl) : MonI (wRng2 wl) := fun ρ h P Q k hw => ml _ _ _ _ (fun x h1 ⟨i, j, e, e2, q⟩ => ⟨i, j, e, e2, k _ _ q⟩) hw
theorem mono_rng3 (ml : MonA wl) : MonI (wRng3 wl) := fun ρ h P Q k hw => ml _ _ _ _ (fun x h1 ⟨i, j, c, n, e, e2, q⟩ => ⟨i, j, c, n, e, e2, k _ _ q⟩) hw
theorem itc_ok {H1 : Hp} {lo c : Int} {n : Nat} : ItOk K A (Itc lo c n) ⟨rangeP lo c n, fun _ => True⟩ H1 := by
  have hl := rangeP_len lo c n
  refine ⟨fun i H h hi m r kp => by show i < n; rw [← hl]; exact hi, fun H h m r kp => by show n ≤ (rangeP lo c n).length; rw [hl]; exact Nat.le_refl _, fun i H h y H' hi m r kp yl => ?_⟩
  obtain ⟨rfl, rfl⟩ := yl
  exact ⟨_, rangeP_get (by rw [← hl]; exact hi), .int _, .inl rfl⟩
theorem itr_ok {H1 : Hp} {lo : Int} {n : Nat} : ItOk K A (Itr lo n) ⟨rangeP lo 1 n, fun _ => True⟩ H1 := by
  have hl := rangeP_len lo 1 n
  refine ⟨fun i H h hi m r kp => by show i < n; rw [← hl]; exact hi, fun H h m r kp => by show n ≤ (rangeP lo 1 n).length; rw [hl]; exact Nat.le_refl _, fun i H h y H' hi m r kp yl => ?_⟩
  obtain ⟨rfl, rfl⟩ := yl
  refine ⟨_, rangeP_get (by rw [← hl]; exact hi), ?_, .inl rfl⟩
  rw [Int.mul_one]
  exact .int _
theorem int1 {H : Hp} {j : Int} {vs : List V} (l : RepL K H [.int j] vs) : vs = [.int j] := by
  obtain ⟨v, rfl, r⟩ := repL1 l
  cases r; rfl
theorem int2 {H : Hp} {i j : Int} {vs : List V} (l : RepL K H [.int i, .int j] vs) : vs = [.int i, .int j] := by
  obtain ⟨v, w, rfl, r, r2⟩ := repL2 l
  cases r; cases r2; rfl
theorem int3 {H : Hp} {i j c : Int} {vs : List V} (l : RepL K H [.int i, .int j, .int c] vs) : vs = [.int i, .int j, .int c] := by
  cases l with
  | cons r t =>
    obtain ⟨v, w, rfl, r1, r2⟩ := repL2 t
    cases r; cases r1; cases r2; rfl
theorem s_rng1 {p : Pos} (jj : JOk J) (hg : Gl X "range") (hm : X.mg "range" = none) (ha : PA X [a] (tA X.K J wl)) (ml : MonA wl) (hs : starEach [a] X.env = [(false, eval a X.env)]) : PI X tg (.Call (.Name "range" p) [a] [] pos) (tI X.K J (wRng1 wl)) := by
  refine ⟨fun pins s σ H R I ⟨A, ρ, h, j, rs, r, hw⟩ => (pi_range1 hg hm ha hs).run pins s σ H R I ?_⟩
  refine tA_of jj j rs r ml hw fun x h1 v H1 ⟨n, e, b1, b2, q⟩ j1 rs1 m1 r1 rl => ?_
  subst e
  exact ⟨n, int1 rl, b1, b2, q _ _ m1 r1 itr_ok⟩
theorem s_rng2 {p : Pos} (jj : JOk J) (hg : Gl X "range") (hm : X.mg "range" = none) (ha : PA X [a, b] (tA X.K J wl)) (ml : MonA wl) (hs : starEach [a, b] X.env = [(false, eval a X.env), (false, eval b X.env)]) (hs2 : starEach [b] X.env = [(false, eval b X.env)]) :
    PI X tg (.Call (.Name "range" p) [a, b] [] pos) (tI X.K J (wRng2 wl)) := by
  refine ⟨fun pins s σ H R I ⟨A, ρ, h, j, rs, r, hw⟩ => (pi_range2 hg hm ha hs hs2).run pins s σ H R I ?_⟩
  refine tA_of jj j rs r ml hw fun x h1 v H1 ⟨i, n, e, b1, q⟩ j1 rs1 m1 r1 rl => ?_
  subst e
  exact ⟨i, n, int2 rl, b1, q _ _ m1 r1 itr_ok⟩
theorem s_rng3 {p : Pos} (jj : JOk J) (hg : Gl X "range") (hm : X.mg "range" = none) (ha : PA X [a, b, d] (tA X.K J wl)) (ml : MonA wl) (hs : starEach [a, b, d] X.env = (false, eval a X.env) :: starEach [b, d] X.env) (hs2 : (backTo pos (starEach [b, d] X.env)).any (·.1) = false) :
    PI X tg (.Call (.Name "range" p) [a, b, d] [] pos) (tI X.K J (wRng3 wl)) := by
  refine ⟨fun pins s σ H R I ⟨A, ρ, h, j, rs, r, hw⟩ => (pi_range3 hg hm ha hs hs2).run pins s σ H R I ?_⟩
  refine tA_of jj j rs r ml hw fun x h1 v H1 ⟨i, n, c, t, e, b1, q⟩ j1 rs1 m1 r1 rl => ?_
  subst e
  exact ⟨i, n, c, t, int3 rl, b1, q _ _ m1 r1 itc_ok⟩
end
end Ev

set_option Elab.async false
set_option linter.all false
set_option maxRecDepth 100000
set_option maxHeartbeats 4000000
/-! Ev8: comprehensions, methods of lists, freezing. -/
namespace Ev
open PySem PySem.Spec PyProof.Rows L2
section
variable {X : Cx} {c : Cfg} {G : Ctx} {gl : Str → PV} {k : Nat} {J : Jw} {ex : Env → XV} {a b d elt tg iter : Expr} {es : List Expr} {wa wb wd we : WE} {wt : WT} {wl : WA} {wi : WI} {pos : Pos}

/-! ### comprehensions -/
def wComp (m : Bool) (vs : List Nat) (wi : WI) (t : ST) (wt : WT) (we : WE) : WE := fun ρ h Q => wi ρ h fun it h1 => it.xs.length ≤ sizeLine ∧ ∃ Iv : Nat → List PV → MH → Prop, Iv 0 [] h1 ∧
  (∀ i x acc h2, it.xs[i]? = some x → Iv i acc h2 → it.keep h2 ∧ ∃ ρ2, t.set x (wipeE ρ vs) = some ρ2 ∧ wt ρ2 h2 fun b h3 => if b = true then we ρ2 h3 fun y h4 => Iv (i + 1) (acc ++ [y]) h4 else Iv (i + 1) acc h3) ∧
  ∀ acc h2, Iv it.xs.length acc h2 → it.keep h2 ∧ allocL m acc h2 Q
theorem mono_comp {m : Bool} {vs : List Nat} {t : ST} (mi : MonI wi) : MonE (wComp m vs wi t wt we) := fun ρ h P Q k hw =>
  mi _ _ _ _ (fun it h1 ⟨hz, Iv, a0, a1, a2⟩ => ⟨hz, Iv, a0, a1, fun acc h2 z => ⟨(a2 acc h2 z).1, allocL_mono k (a2 acc h2 z).2⟩⟩) hw
/-- the configuration of a comprehension's block -/
def Cfg.blk (c : Cfg) (scope : Scope) : Cfg := { c with sc := relS scope c.sc, fnb := fun x => scope.names.lookup x == some .cell }
theorem Match.blk (m : Match X c G gl k J ex) (scope : Scope) (hk : scope.kind = .function) (s : Shared) (H : Hp) (C : Addr) (cl : List (Str × Addr)) (fp : List Addr) :
    Match (X.blk s H scope (compEnvC scope cl C X.env) fp) (c.blk scope) G gl k J0 (fun _ => noX) := by
  refine ⟨m.N, m.nd, ?_, rfl, m.calm, .never, m.gd, m.room, takes0.imp ?_, j0, m.fns, m.free, m.cst, hk, m.kws⟩
  · show relS scope X.env.scope = relS scope c.sc
    rw [m.sc]
  · rintro _ _ _ _ ⟨_, _, _, _, _, _, _, _, z⟩
    exact z.elim
theorem s_comp {scope : Scope} {own : List (Str × Nat)} {t : ST} {ifs : List Expr} (m : Match X c G gl k J ex) (f : Bool) (hi : PI X tg iter (tI X.K J wi)) (mi : MonI wi) (ok : BlkOk X.N X.env.scope scope own) (sub : ∀ i ∈ t.slots, i ∈ own.map (·.2))
    (hg : ∀ (s : Shared) (H : Hp) (C : Addr) (cl : List (Str × Addr)) (fp : List Addr), PG (X.blk s H scope (compEnvC scope cl C X.env) fp) tg (t.g X.K))
    (ht : ∀ (s : Shared) (H : Hp) (C : Addr) (cl : List (Str × Addr)) (fp : List Addr), PTs (X.blk s H scope (compEnvC scope cl C X.env) fp) ifs (tT X.K J0 wt))
    (he : ∀ (s : Shared) (H : Hp) (C : Addr) (cl : List (Str × Addr)) (fp : List Addr), PE (X.blk s H scope (compEnvC scope cl C X.env) fp) elt (tE X.K J0 we)) (mt : MonT wt) (me : MonE we)
    (hs : ∀ x, foldedSetIterable iter X.env x = pure x) : ∀ {σ : L2.St} {H : Hp} {Q : VK}, tE X.K J (wComp f (own.map (·.2)) wi t wt we) σ H Q → tLc (tI X.K J wi) (t.g X.K) (tT X.K J0 wt) (tE X.K J0 we) (own.map (·.2)) σ H (fzm f Q) := by
  rintro σ H Q ⟨A, ρ, h, j, rs, r, hw⟩
  refine ⟨A, ρ, h, j, rs, r, mi _ _ _ _ (fun it h1 ⟨hz, Iv, a0, a1, a2⟩ It1 H1 m1 r1 io => ?_) hw⟩
  intro D hD
  have np : ∀ d, A d → d ≠ D := r1.nothid hD
  -- with the new list out of sight
  have rB0 : Rel X.K (fun d => A d ∨ d = D) (upd H1 D (.lst [])) h1 := by
    have l := r1.laid (o := .lst []) hD
    refine ⟨l.obj, fun d hd => ?_⟩
    rcases hd with hd | rfl
    · exact l.hid d hd
    · exact ⟨r1.free hD, _, upd_same⟩
  refine ⟨fun i n H2 => ∃ acc h2 ws, n = it.xs.length - i ∧ i ≤ it.xs.length ∧ Iv i acc h2 ∧ Mon A H1 H2 ∧ Rel X.K (fun d => A d ∨ d = D) H2 h2 ∧ H2 D = some (.lst ws) ∧ RepL X.K H2 acc ws ∧ acc.length ≤ i,
    ⟨_, [], h1, [], rfl, Nat.zero_le _, a0, r1.mon_new hD, rB0, upd_same, .nil, Nat.le_refl _⟩, ?_⟩
  rintro i n H2 ⟨acc, h2, ws, rfl, hi, iv, m2, r2, hD2, la, hl⟩
  have r2A : Rel X.K A H2 h2 := r2.sub fun d hd => .inl hd
  by_cases hlt : i < it.xs.length
  · obtain ⟨x0, hx0⟩ : ∃ x, it.xs[i]? = some x := ⟨_, List.getElem?_eq_getElem hlt⟩
    obtain ⟨kp, _⟩ := a1 i x0 acc h2 hx0 iv
    refine .inr ⟨io.go i H2 h2 hlt m2 r2A kp, fun H' => ∃ acc h2 ws, Iv (i + 1) acc h2 ∧ Mon A H1 H' ∧ Rel X.K (fun d => A d ∨ d = D) H' h2 ∧ H' D = some (.lst ws) ∧ RepL X.K H' acc ws ∧ acc.length ≤ i + 1,
      fun H' ⟨acc, h2, ws, q⟩ => ⟨it.xs.length - (i + 1), by omega, acc, h2, ws, rfl, hlt, q⟩, fun x H3 yl => ?_⟩
    obtain ⟨p, ep, rp, hH3⟩ := io.yld i H2 h2 x H3 hlt m2 r2A kp yl
    have m23 : Mon (fun d => A d ∨ d = D) H2 H3 := by
      rcases hH3 with rfl | ⟨T, us, hT, rfl⟩
      · exact .refl
      · exact r2.mon_new hT
    have r3 : Rel X.K (fun d => A d ∨ d = D) H3 h2 := by
      rcases hH3 with rfl | ⟨T, us, hT, rfl⟩
      · exact r2
      · exact r2.laid hT
    obtain ⟨_, ρ2, es, q⟩ := a1 i p acc h2 ep iv
    have rs3 : RepSt X.K H3 ρ σ := rs.mon ((m1.trans m2).trans (m23.sub fun d hd => .inl hd))
    refine ST.set_ok t rp (rs3.wipe _) es fun σ2 rs2 hwp => ⟨?_, ?_⟩
    · rw [hwp _ sub]
      have idem : ∀ (vs : List Nat) (σ : L2.St), (∀ i ∈ vs, ∀ v, σ[i]? ≠ some (some v)) → L2.wipe σ vs = σ := by
        intro vs
        induction vs with
        | nil => intro σ _; rfl
        | cons v vs ih =>
          intro σ hv
          unfold L2.wipe
          rw [ih σ fun i hi => hv i (List.mem_cons_of_mem _ hi)]
          apply List.ext_getElem?
          intro n
          rw [List.getElem?_set]
          split
          · rename_i e
            subst e
            split
            · rename_i hlen
              have := hv v List.mem_cons_self
              rw [List.getElem?_eq_getElem hlen] at this ⊢
              cases z : σ[v] with
              | none => rfl
              | some u => exact (this u (by rw [z])).elim
            · rename_i hlen
              exact (List.getElem?_eq_none (by omega)).symm
          · rfl
      refine idem _ _ fun i hi v e => ?_
      exact (wipe_some e).2 hi
    · refine tT_of (J := J0) (A := fun d => A d ∨ d = D) j0 trivial rs2 r3 mt q fun bb h3 H4 qb _ rs4 m4 r4 => ?_
      have la4 : RepL X.K H4 acc ws := (la.mon m23).mon m4
      have hD4 : H4 D = some (.lst ws) := (m4.hid D (.inr rfl)).trans ((m23.hid D (.inr rfl)).trans hD2)
      have mA4 : Mon A H1 H4 := m2.trans ((m23.trans m4).sub fun d hd => .inl hd)
      cases bb with
      | false => exact ⟨acc, h3, ws, qb, mA4, r4, hD4, la4, Nat.le_succ_of_le hl⟩
      | true =>
        refine tE_of (J := J0) (A := fun d => A d ∨ d = D) j0 trivial rs4 r4 me qb fun y h4 v H5 qy _ rs5 m5 r5 rv => ?_
        have hD5 : H5 D = some (.lst ws) := (m5.hid D (.inr rfl)).trans hD4
        have la5 := la4.mon m5
        have mw : Mon A H5 (upd H5 D (.lst (ws ++ [v]))) := Ev.mon_write hD5 (fun _ z => nomatch z) (fun _ _ z => nomatch z) np
        refine ⟨ws, hD5, ?_, acc ++ [y], h4, ws ++ [v], qy, mA4.trans ((m5.sub fun d hd => .inl hd).trans mw), ⟨fun a o e => ?_, fun d hd => ?_⟩, upd_same, (la5.mon mw).append (.cons (rv.mon mw) .nil), ?_⟩
        · rw [← la5.length]; omega
        · have na : a ≠ D := fun z => by
            have := (r5.hid D (.inr rfl)).1
            rw [← z, e] at this; cases this
          exact (r5.obj a o e).mon mw (upd_ne na)
        · obtain ⟨h1', o', h2'⟩ := r5.hid d hd
          refine ⟨h1', ?_⟩
          by_cases hdD : d = D
          · subst hdD; exact ⟨_, upd_same⟩
          · exact ⟨o', by rw [upd_ne hdD]; exact h2'⟩
        · rw [List.length_append, List.length_singleton]; omega
  · have e : i = it.xs.length := by omega
    subst e
    obtain ⟨kp, al⟩ := a2 acc h2 iv
    refine .inl ⟨io.stop H2 h2 m2 r2A kp, ?_⟩
    have hDh := (r2.hid D (.inr rfl)).1
    have eH : upd H2 D (.lst ws) = H2 := by
      funext b
      by_cases hb : b = D
      · subst hb; rw [upd_same, hD2]
      · rw [upd_ne hb]
    have mz : ∀ o, Mon A H2 (upd H2 D (.frz o (.lst ws))) := fun o => Ev.mon_write hD2 (fun _ z => nomatch z) (fun _ _ z => nomatch z) np
    rw [← eH]
    refine alloc_at (H0 := H) (A := A) (h := h2) (xs := acc) (by rw [eH]; exact m1.trans m2) (by rw [eH]; exact r2A) hDh np (fun o => (m1.trans m2).trans (mz o)) (by rw [eH]; exact la) (fun o => la.mon (mz o)) (fun o => ?_) al
    refine ⟨fun a u e => ?_, fun d hd => ?_⟩
    · have na : a ≠ D := fun z => by rw [z, hDh] at e; cases e
      exact (r2A.obj a u e).mon (mz o) (upd_ne na)
    · obtain ⟨h1', o', h2'⟩ := r2A.hid d hd
      exact ⟨h1', o', by rw [upd_ne (np d hd)]; exact h2'⟩

/-! ### methods of lists -/
inductive Me where
  | append | pop | extend
  deriving DecidableEq
def Me.name : Me → Str
  | .append => "append" | .pop => "pop" | .extend => "extend"
def meOp (mt : Me) (x : PV) (as : List PV) (h : MH) (Q : PK) : Prop := match mt, x, as with
  | .append, .ref p, [y] => ∃ xs, h p = some (.lst xs) ∧ xs.length < sizeLine ∧ Q .non (mupd h p (.lst (xs ++ [y])))
  | .pop, .ref p, [] => ∃ xs y, h p = some (.lst xs) ∧ xs[xs.length - 1]? = some y ∧ Q y (mupd h p (.lst xs.dropLast))
  | .extend, .ref p, [y] => ∃ xs q ys, h p = some (.lst xs) ∧ y = .ref q ∧ h q = some (.lst ys) ∧ xs.length + ys.length ≤ sizeLine ∧ Q .non (mupd h p (.lst (xs ++ ys)))
  | _, _, _ => False
theorem mono_me (mt : Me) (x : PV) (as : List PV) (h : MH) (P Q : PK) (k : ∀ x h, P x h → Q x h) : meOp mt x as h P → meOp mt x as h Q := by
  unfold meOp
  split
  · exact fun ⟨xs, e, z, q⟩ => ⟨xs, e, z, k _ _ q⟩
  · exact fun ⟨xs, y, e, z, q⟩ => ⟨xs, y, e, z, k _ _ q⟩
  · exact fun ⟨xs, p, ys, e, e2, e3, z, q⟩ => ⟨xs, p, ys, e, e2, e3, z, k _ _ q⟩
  · exact id
def isRefL (h : MH) : PV → Prop
  | .ref p => ∃ xs, h p = some (.lst xs)
  | _ => False
def wMe (mt : Me) (wa : WE) (wl : WA) : WE := fun ρ h Q => wa ρ h fun x h1 => isRefL h1 x ∧ wl ρ h1 fun as h2 => meOp mt x as h2 Q
theorem mono_wMe {mt : Me} (ma : MonE wa) (ml : MonA wl) : MonE (wMe mt wa wl) := fun ρ h P Q k hw => ma _ _ _ _ (fun x h1 ⟨e, z⟩ => ⟨e, ml _ _ _ _ (fun as h2 z2 => mono_me mt _ _ _ _ _ k z2) z⟩) hw
/-- a method's rule, by values, from ours -/
def lMe (K : Frag) (mt : Me) : V → List V → Hp → VK → Prop := fun x vs H Q => ∃ A a as h, Rel K A H h ∧ RepV K H a x ∧ RepL K H as vs ∧ meOp mt a as h (up K A H Q)
theorem ok_append : MtR X "list.append" (lMe X.K .append) := by
  rintro pins s σ H x vs v us Q I rx rvs ⟨A, a, as, h, r, ra, l, q⟩
  unfold meOp at q
  split at q
  · obtain ⟨w, rfl, rw'⟩ := repL1 l
    cases ra
    obtain ⟨xs, e, hz, q⟩ := q
    obtain ⟨ws, eH, lx⟩ := r.obj _ _ e
    have mw := r.mon_write (o := .lst (ws ++ [w])) e
    exact mt_append pins s σ H _ _ v us Q I rx rvs ⟨_, ws, w, rfl, rfl, eH, by rw [← lx.length]; exact hz, q .non _ mw (r.write e ⟨_, upd_same, (lx.mon mw).append (.cons (rw'.mon mw) .nil)⟩) .non⟩
  · rename_i h1; exact absurd h1 (by decide)
  · rename_i h1; exact absurd h1 (by decide)
  · exact q.elim
theorem RepL.last {K : Frag} {H : Hp} {xs : List PV} {ws : List V} {y : PV} (l : RepL K H xs ws) (e : xs[xs.length - 1]? = some y) : ∃ w, ws[ws.length - 1]? = some w ∧ RepV K H y w := by
  rw [l.length] at e
  exact l.get e
theorem ok_pop : MtR X "list.pop" (lMe X.K .pop) := by
  rintro pins s σ H x vs v us Q I rx rvs ⟨A, a, as, h, r, ra, l, q⟩
  unfold meOp at q
  split at q
  · rename_i h1; exact absurd h1 (by decide)
  · cases l
    cases ra
    obtain ⟨xs, y, e, ey, q⟩ := q
    obtain ⟨ws, eH, lx⟩ := r.obj _ _ e
    obtain ⟨w, ew, rw'⟩ := lx.last ey
    have mw := r.mon_write (o := .lst ws.dropLast) e
    exact mt_pop pins s σ H _ _ v us Q I rx rvs ⟨_, ws, w, rfl, rfl, eH, ew, q w _ mw (r.write e ⟨_, upd_same, (lx.mon mw).dropLast⟩) (rw'.mon mw)⟩
  · rename_i h1; exact absurd h1 (by decide)
  · exact q.elim
theorem ok_extend : MtR X "list.extend" (lMe X.K .extend) := by
  rintro pins s σ H x vs v us Q I rx rvs ⟨A, a, as, h, r, ra, l, q⟩
  unfold meOp at q
  split at q
  · rename_i h1; exact absurd h1 (by decide)
  · rename_i h1; exact absurd h1 (by decide)
  · obtain ⟨w, rfl, rw'⟩ := repL1 l
    cases ra
    obtain ⟨xs, b, ys, e, rfl, e2, hz, q⟩ := q
    cases rw'
    obtain ⟨ws, eH, lx⟩ := r.obj _ _ e
    obtain ⟨zs, eH2, ly⟩ := r.obj _ _ e2
    have mw := r.mon_write (o := .lst (ws ++ zs)) e
    exact mt_extend pins s σ H _ _ v us Q I rx rvs ⟨_, b, ws, zs, rfl, rfl, eH, eH2, by rw [← lx.length, ← ly.length]; exact hz, q .non _ mw (r.write e ⟨_, upd_same, (lx.mon mw).append (ly.mon mw)⟩) .non⟩
  · exact q.elim
theorem isRefL_ty {K : Frag} {A : Addr → Prop} {H : Hp} {h : MH} {x : PV} {v : V} (r : Rel K A H h) (rv : RepV K H x v) (e : isRefL h x) : tyV K "list" v H := by
  cases rv with
  | ref p =>
    obtain ⟨xs, e⟩ := e
    obtain ⟨ws, eH, _⟩ := r.obj _ _ e
    exact .inl ⟨rfl, ws, .of eH⟩
  | _ => exact (show False from e).elim
theorem t_me {mt : Me} (jj : JOk J) (ma : MonE wa) (ml : MonA wl) : ∀ {σ : L2.St} {H : Hp} {Q : VK}, tE X.K J (wMe mt wa wl) σ H Q → tBM X.K "list" (lMe X.K mt) (tE X.K J wa) (tA X.K J wl) σ H Q := by
  rintro σ H Q ⟨A, ρ, h, j, rs, r, hw⟩
  refine tE_of jj j rs r ma hw fun x h1 v H1 ⟨e, p⟩ j1 rs1 m1 r1 rv => ⟨isRefL_ty r1 rv e, ?_⟩
  refine tA_of jj j1 rs1 r1 ml p fun as h2 vs H2 q j2 rs2 m2 r2 rl => ?_
  exact ⟨A, x, as, h2, r2, rv.mon m2, rl, mono_me mt _ _ _ _ _ (fun z h3 u => up.trans (m1.trans m2) u) q⟩
theorem s_append {apos : Pos} (jj : JOk J) (ha : PE X a (tE X.K J wa)) (hl : PA X [b] (tA X.K J wl)) (ma : MonE wa) (ml : MonA wl) (hbase : attributeBase a "append" X.env (eval a X.env) = eval a X.env)
    (hfew : ((backTo pos (starEach [b] X.env)).all (fun x => !x.1) && (backToKw pos (keywordEach [] X.env)).all (fun x => x.1.isSome) && decide ([b].length + ([] : List Keyword).length + (if ([] : List Keyword).isEmpty then 0 else 1) < 30)) = true)
    (hline : (apos.endLine == pos.line) = true) (hs : starEach [b] X.env = (false, eval b X.env) :: starEach [] X.env) : PE X (.Call (.Attribute a "append" apos) [b] [] pos) (tE X.K J (wMe .append wa wl)) :=
  ⟨fun pins s σ H Q I hw => (pe_bm PySem.F.plainAttrs_list PySem.F.slot_list_append PySem.F.type_list_append ok_append ha hl hbase hfew hline hs rfl).run pins s σ H Q I (t_me jj ma ml hw)⟩
theorem s_extend {apos : Pos} (jj : JOk J) (ha : PE X a (tE X.K J wa)) (hl : PA X [b] (tA X.K J wl)) (ma : MonE wa) (ml : MonA wl) (hbase : attributeBase a "extend" X.env (eval a X.env) = eval a X.env)
    (hfew : ((backTo pos (starEach [b] X.env)).all (fun x => !x.1) && (backToKw pos (keywordEach [] X.env)).all (fun x => x.1.isSome) && decide ([b].length + ([] : List Keyword).length + (if ([] : List Keyword).isEmpty then 0 else 1) < 30)) = true)
    (hline : (apos.endLine == pos.line) = true) (hs : starEach [b] X.env = (false, eval b X.env) :: starEach [] X.env) : PE X (.Call (.Attribute a "extend" apos) [b] [] pos) (tE X.K J (wMe .extend wa wl)) :=
  ⟨fun pins s σ H Q I hw => (pe_bm PySem.F.plainAttrs_list PySem.F.slot_list_extend PySem.F.type_list_extend ok_extend ha hl hbase hfew hline hs rfl).run pins s σ H Q I (t_me jj ma ml hw)⟩
def wMe0 (mt : Me) (wa : WE) : WE := fun ρ h Q => wa ρ h fun x h1 => isRefL h1 x ∧ meOp mt x [] h1 Q
theorem mono_wMe0 {mt : Me} (ma : MonE wa) : MonE (wMe0 mt wa) := fun ρ h P Q k hw => ma _ _ _ _ (fun x h1 ⟨e, z⟩ => ⟨e, mono_me mt _ _ _ _ _ k z⟩) hw
theorem s_pop {apos : Pos} (jj : JOk J) (ha : PE X a (tE X.K J wa)) (ma : MonE wa) (hbase : attributeBase a "pop" X.env (eval a X.env) = eval a X.env)
    (hline : (apos.endLine == pos.line) = true) : PE X (.Call (.Attribute a "pop" apos) [] [] pos) (tE X.K J (wMe0 .pop wa)) := by
  refine ⟨fun pins s σ H Q I ⟨A, ρ, h, j, rs, r, hw⟩ => (pe_bm0 PySem.F.plainAttrs_list PySem.F.slot_list_pop PySem.F.type_list_pop ok_pop ha hbase hline).run pins s σ H Q I ?_⟩
  refine tE_of jj j rs r ma hw fun x h1 v H1 ⟨e, p⟩ j1 rs1 m1 r1 rv => ⟨isRefL_ty r1 rv e, ?_⟩
  exact ⟨A, x, [], h1, r1, rv, .nil, mono_me .pop _ _ _ _ _ (fun z h3 u => up.trans m1 u) p⟩

/-! ### a list that nobody changes any more -/
def mdel (h : MH) (p : Addr) : MH := fun b => if b = p then none else h b
def wFrz (wa : WE) : WE := fun ρ h Q => wa ρ h fun x h1 => ∃ p xs, x = .ref p ∧ h1 p = some (.lst xs) ∧ Q (.lst xs) (mdel h1 p)
theorem mono_frz (ma : MonE wa) : MonE (wFrz wa) := fun ρ h P Q k hw => ma _ _ _ _ (fun x h1 ⟨p, xs, e, e2, q⟩ => ⟨p, xs, e, e2, k _ _ q⟩) hw
theorem s_frz (jj : JOk J) (ha : PE X a (tE X.K J wa)) (ma : MonE wa) : PE X a (tE X.K J (wFrz wa)) := by
  refine ⟨fun pins s σ H Q I ⟨A, ρ, h, j, rs, r, hw⟩ => (pe_fz ha).run pins s σ H Q I ?_⟩
  refine tE_of jj j rs r ma hw fun x h1 v H1 ⟨p, xs, e, e2, q⟩ j1 rs1 m1 r1 rv => ?_
  subst e
  cases rv
  obtain ⟨ws, eH, l⟩ := r1.obj _ _ e2
  refine ⟨p, ws, rfl, eH, fun o => ?_⟩
  have mw := r1.mon_write (o := .frz o (.lst ws)) e2
  refine q _ _ (m1.trans mw) ⟨fun b u eb => ?_, fun d hd => ?_⟩ (.lst ⟨o, upd_same⟩ (l.mon mw))
  · unfold mdel at eb
    split at eb
    · cases eb
    · rename_i hb
      exact (r1.obj b u eb).mon mw (upd_ne hb)
  · have nd := r1.seen e2 d hd
    obtain ⟨z1, o1, z2⟩ := r1.hid d hd
    refine ⟨by unfold mdel; rw [if_neg nd]; exact z1, o1, by rw [upd_ne nd]; exact z2⟩
end
end Ev

set_option Elab.async false
set_option linter.all false
set_option maxRecDepth 100000
set_option maxHeartbeats 4000000
/-! Ev9: statements. -/
namespace Ev
open PySem PySem.Spec PyProof.Rows L2

abbrev EK := Env → MH → Prop
structure PEnds where
  nx : EK
  rt : PK
  bk : EK
  ct : EK
abbrev WS := Env → MH → PEnds → Prop
structure PEnds.Le (D D' : PEnds) : Prop where
  nx : ∀ ρ h, D.nx ρ h → D'.nx ρ h
  rt : ∀ x h, D.rt x h → D'.rt x h
  bk : ∀ ρ h, D.bk ρ h → D'.bk ρ h
  ct : ∀ ρ h, D.ct ρ h → D'.ct ρ h
theorem PEnds.Le.refl {D : PEnds} : PEnds.Le D D := ⟨fun _ _ z => z, fun _ _ z => z, fun _ _ z => z, fun _ _ z => z⟩
def MonS (w : WS) : Prop := ∀ ρ h (D D' : PEnds), D.Le D' → w ρ h D → w ρ h D'
theorem MonS.go {w : WS} (m : MonS w) {ρ : Env} {h : MH} {D D' : PEnds} (z : w ρ h D) (l : D.Le D') : w ρ h D' := m ρ h D D' l z
def upK (K : Frag) (A : Addr → Prop) (H : Hp) (Q : L2.St → Hp → Prop) : EK := fun ρ h' => ∀ σ' H', Mon A H H' → RepSt K H' ρ σ' → Rel K A H' h' → Q σ' H'
def upD (K : Frag) (A : Addr → Prop) (H : Hp) (D : Ends) : PEnds := ⟨upK K A H D.nx, up K A H D.rt, upK K A H D.bk, upK K A H D.ct⟩
def tS (K : Frag) (J : Jw) (w : WS) : TS := fun D σ H => ∃ A ρ h, J A H ∧ RepSt K H ρ σ ∧ Rel K A H h ∧ w ρ h (upD K A H D)
section
variable {K : Frag} {A : Addr → Prop} {H H1 : Hp} {h : MH} {ρ : Env} {σ : L2.St} {J : Jw}
theorem upK.trans {Q : L2.St → Hp → Prop} {x : Env} {h' : MH} (m : Mon A H H1) (u : upK K A H Q x h') : upK K A H1 Q x h' := fun σ' H' m' rs r => u σ' H' (m.trans m') rs r
theorem upD.le {D : Ends} (m : Mon A H H1) : (upD K A H D).Le (upD K A H1 D) := ⟨fun _ _ z => upK.trans m z, fun _ _ z => up.trans m z, fun _ _ z => upK.trans m z, fun _ _ z => upK.trans m z⟩
/-- on with a statement later -/
theorem tS_on {w : WS} {D : Ends} (m : Mon A H H1) (mw : MonS w) (j : J A H1) (rs : RepSt K H1 ρ σ) (r : Rel K A H1 h) (hw : w ρ h (upD K A H D)) : tS K J w D σ H1 := ⟨A, ρ, h, j, rs, r, mw _ _ _ _ (upD.le m) hw⟩
end
section
variable {X : Cx} {c : Cfg} {G : Ctx} {gl : Str → PV} {k : Nat} {J : Jw} {ex : Env → XV} {a b d tg iter e : Expr} {es : List Expr} {st : Stmt} {sts body orelse : List Stmt} {wa wb wd we : WE} {wt : WT} {wl : WA} {wi : WI} {w1 w2 : WS} {pos pos' : Pos}

/-! ### blocks -/
def wNx : WS := fun ρ h D => D.nx ρ h
def wSq (w1 w2 : WS) : WS := fun ρ h D => w1 ρ h { D with nx := fun ρ1 h1 => w2 ρ1 h1 D }
theorem mono_nx : MonS wNx := fun ρ h D D' l z => l.nx _ _ z
theorem mono_sq (m1 : MonS w1) (m2 : MonS w2) : MonS (wSq w1 w2) := fun ρ h D D' l z => MonS.go (w := w1) m1 z ⟨fun ρ1 h1 z1 => MonS.go (w := w2) m2 z1 l, l.rt, l.bk, l.ct⟩
theorem b_nil : PSs X [] (tS X.K J wNx) := ⟨fun pins s σ H D I ⟨A, ρ, h, j, rs, r, q⟩ => pss_nil.run pins s σ H D I (q σ H .refl rs r)⟩
theorem b_cons (jj : JOk J) (h1 : PSs X [st] (tS X.K J w1)) (h2 : PSs X sts (tS X.K J w2)) (m1 : MonS w1) (m2 : MonS w2) (hs : PS X st (tS X.K J w1)) : PSs X (st :: sts) (tS X.K J (wSq w1 w2)) := by
  refine ⟨fun pins s σ H D I ⟨A, ρ, h, j, rs, r, hw⟩ => (pss_cons hs h2).run pins s σ H D I ?_⟩
  refine ⟨A, ρ, h, j, rs, r, MonS.go (w := w1) m1 hw ⟨fun ρ1 h1 z σ1 H1 mo rs1 r1 => ?_, fun _ _ z => z, fun _ _ z => z, fun _ _ z => z⟩⟩
  exact tS_on (w := w2) mo m2 (jj.mon j mo) rs1 r1 z
theorem b_cons' (jj : JOk J) (hs : PS X st (tS X.K J w1)) (h2 : PSs X sts (tS X.K J w2)) (m1 : MonS w1) (m2 : MonS w2) : PSs X (st :: sts) (tS X.K J (wSq w1 w2)) := b_cons jj (pss_one hs) h2 m1 m2 hs

/-! ### small statements -/
def wBk : WS := fun ρ h D => D.bk ρ h
def wCt : WS := fun ρ h D => D.ct ρ h
theorem mono_bk : MonS wBk := fun ρ h D D' l z => l.bk _ _ z
theorem mono_ct : MonS wCt := fun ρ h D D' l z => l.ct _ _ z
theorem s_pass : PS X (.Pass pos) (tS X.K J wNx) := ⟨fun pins s σ H D I ⟨A, ρ, h, j, rs, r, q⟩ => ps_pass.run pins s σ H D I (q σ H .refl rs r)⟩
theorem s_break : PS X (.Break pos) (tS X.K J wBk) := ⟨fun pins s σ H D I ⟨A, ρ, h, j, rs, r, q⟩ => ps_break.run pins s σ H D I (q σ H .refl rs r)⟩
theorem s_continue : PS X (.Continue pos) (tS X.K J wCt) := ⟨fun pins s σ H D I ⟨A, ρ, h, j, rs, r, q⟩ => ps_continue.run pins s σ H D I (q σ H .refl rs r)⟩
def wExpr (wa : WE) : WS := fun ρ h D => wa ρ h fun _ h1 => D.nx ρ h1
theorem mono_expr (ma : MonE wa) : MonS (wExpr wa) := fun ρ h D D' l z => ma _ _ _ _ (fun x h1 z => l.nx _ _ z) z
theorem s_expr (jj : JOk J) (ha : PE X a (tE X.K J wa)) (ma : MonE wa) (hs : swapsWith a none pos.line X.env = pure false) : PS X (.Expr a pos) (tS X.K J (wExpr wa)) := by
  refine ⟨fun pins s σ H D I ⟨A, ρ, h, j, rs, r, hw⟩ => (ps_expr ha hs).run pins s σ H D I ?_⟩
  exact tE_of jj j rs r ma hw fun x h1 v H1 p j1 rs1 m1 r1 rv => p _ _ m1 rs1 r1
/-- a return may forget objects -/
def wRet (wa : WE) : WS := fun ρ h D => wa ρ h fun x h1 => ∃ h2, (∀ a o, h2 a = some o → h1 a = some o) ∧ D.rt x h2
theorem mono_ret (ma : MonE wa) : MonS (wRet wa) := fun ρ h D D' l z => ma _ _ _ _ (fun x h1 ⟨h2, s, z⟩ => ⟨h2, s, l.rt _ _ z⟩) z
theorem s_ret (jj : JOk J) (ha : PE X a (tE X.K J wa)) (ma : MonE wa) : PS X (.Return (some a) pos) (tS X.K J (wRet wa)) := by
  refine ⟨fun pins s σ H D I ⟨A, ρ, h, j, rs, r, hw⟩ => (ps_ret ha).run pins s σ H D I ?_⟩
  exact tE_of jj j rs r ma hw fun x h1 v H1 ⟨h2, s, p⟩ j1 rs1 m1 r1 rv => p _ _ m1 (r1.less s) rv
def wIf (wt : WT) (w1 w2 : WS) : WS := fun ρ h D => wt ρ h fun b h1 => if b = true then w1 ρ h1 D else w2 ρ h1 D
theorem mono_if (mt : MonT wt) (m1 : MonS w1) (m2 : MonS w2) : MonS (wIf wt w1 w2) := fun ρ h D D' l z => mt _ _ _ _ (fun b h1 z => by
  cases b with
  | true => exact m1 _ _ _ _ l z
  | false => exact m2 _ _ _ _ l z) z
theorem s_if (jj : JOk J) (ht : PT X a (tT X.K J wt)) (h1 : PSs X body (tS X.K J w1)) (h2 : PSs X orelse (tS X.K J w2)) (mt : MonT wt) (m1 : MonS w1) (m2 : MonS w2) : PS X (.If a body orelse pos) (tS X.K J (wIf wt w1 w2)) := by
  refine ⟨fun pins s σ H D I ⟨A, ρ, h, j, rs, r, hw⟩ => (ps_if ht h1 h2).run pins s σ H D I ?_⟩
  refine tT_of jj j rs r mt hw fun x h1 H1 p j1 rs1 mo r1 => ?_
  cases x with
  | true => exact tS_on mo m1 j1 rs1 r1 p
  | false => exact tS_on mo m2 j1 rs1 r1 p

/-! ### assignments -/
/-- name = value -/
def wSet (i : Nat) (wa : WE) : WS := fun ρ h D => wa ρ h fun x h1 => D.nx (ρ.set i (some x)) h1
theorem mono_set {i : Nat} (ma : MonE wa) : MonS (wSet i wa) := fun ρ h D D' l z => ma _ _ _ _ (fun x h1 z => l.nx _ _ z) z
theorem t_set {i : Nat} (jj : JOk J) (ma : MonE wa) : ∀ {D : Ends} {σ : L2.St} {H : Hp}, tS X.K J (wSet i wa) D σ H → tAsg (tE X.K J wa) (gName i) D σ H := fun ⟨A, ρ, h, j, rs, r, hw⟩ =>
  tE_of jj j rs r ma hw fun x h1 v H1 p j1 rs1 m1 r1 rv => p _ _ m1 (rs1.set i rv) r1
theorem s_set {i : Nat} {x : Str} (m : Match X c G gl k J ex) (hi : X.N[i]? = some x) (hx : Loc X.env.scope x) (ha : PE X a (tE X.K J wa)) (ma : MonE wa) (hs : swapsWith a (some (.Name x pos')) pos.line X.env = pure false) (hf : X.fn x = true ∨ X.env.scope.names.lookup x = some .local) :
    PS X (.Assign [.Name x pos'] a pos) (tS X.K J (wSet i wa)) :=
  ⟨fun pins s σ H D I hw => (ps_set (m.N ▸ m.nd) hi hx ha hs hf).run pins s σ H D I (t_set m.jj ma hw)⟩
/-- target of names = value -/
def wUnp (t : ST) (wa : WE) : WS := fun ρ h D => wa ρ h fun x h1 => ∃ ρ2, t.set x ρ = some ρ2 ∧ D.nx ρ2 h1
theorem mono_unp {t : ST} (ma : MonE wa) : MonS (wUnp t wa) := fun ρ h D D' l z => ma _ _ _ _ (fun x h1 ⟨ρ2, e, z⟩ => ⟨ρ2, e, l.nx _ _ z⟩) z
theorem s_unp {t : ST} (jj : JOk J) (ha : PE X a (tE X.K J wa)) (ma : MonE wa) (hg : PG X tg (t.g X.K)) (hs : swapsWithSole [tg] a pos.line X.env = pure false) (hw : swappedStores [tg] a X.env = pure none)
    (h1 : (assignEach [tg] X.env).map (·.2) = [assign tg X.env]) : PS X (.Assign [tg] a pos) (tS X.K J (wUnp t wa)) := by
  refine ⟨fun pins s σ H D I ⟨A, ρ, h, j, rs, r, hw'⟩ => (ps_asg ha hg hs hw h1).run pins s σ H D I ?_⟩
  exact tE_of jj j rs r ma hw' fun x h1 v H1 ⟨ρ2, e, p⟩ j1 rs1 m1 r1 rv => ST.set_ok t rv rs1 e fun σ' rs' _ => p _ _ m1 rs' r1
/-- a, b = x, y: plain locals -/
def wPar (i j : Nat) (wl : WA) : WS := fun ρ h D => wl ρ h fun xs h1 => ∃ x y, xs = [x, y] ∧ D.nx ((ρ.set i (some x)).set j (some y)) h1
theorem mono_par {i j : Nat} (ml : MonA wl) : MonS (wPar i j wl) := fun ρ h D D' l z => ml _ _ _ _ (fun xs h1 ⟨x, y, e, z⟩ => ⟨x, y, e, l.nx _ _ z⟩) z
theorem s_par {i j : Nat} {x y : Str} {px py pt pt2 : Pos} {kt k2 : Nat} (m : Match X c G gl k J ex) (hi : X.N[i]? = some x) (hj : X.N[j]? = some y) (hij : i ≠ j) (hx : X.env.scope.names.lookup x = some .local) (hy : X.env.scope.names.lookup y = some .local)
    (ha : PA X [a, b] (tA X.K J wl)) (ml : MonA wl) (hw : swappedStores [.Tuple [.Name x px, .Name y py] kt pt] (.Tuple [a, b] k2 pt2) X.env = pure (some [x, y])) (hs : swapsWithSole [.Tuple [.Name x px, .Name y py] kt pt] (.Tuple [a, b] k2 pt2) pos.line X.env = pure false) :
    PS X (.Assign [.Tuple [.Name x px, .Name y py] kt pt] (.Tuple [a, b] k2 pt2) pos) (tS X.K J (wPar i j wl)) := by
  refine ⟨fun pins s σ H D I ⟨A, ρ, h, jw, rs, r, hw'⟩ => (ps_par m.calm (m.N ▸ m.nd) hi hj hij hx hy ha hw hs).run pins s σ H D I ?_⟩
  refine tA_of m.jj jw rs r ml hw' fun xs h1 vs H1 ⟨z, u, e, p⟩ j1 rs1 m1 r1 rl => ?_
  subst e
  obtain ⟨v, w, rfl, rz, ru⟩ := repL2 rl
  exact ⟨v, w, rfl, p _ _ m1 ((rs1.set i rz).set j ru) r1⟩
/-- o[i] = value -/
def setOp (o i v : PV) (h : MH) (Q : MH → Prop) : Prop := match o, i with
  | .ref p, .int n => ∃ xs j, h p = some (.lst xs) ∧ ixN xs.length n = some j ∧ Q (mupd h p (.lst (xs.set j v)))
  | _, _ => False
theorem mono_setOp {o i v : PV} {h : MH} {P Q : MH → Prop} (k : ∀ h, P h → Q h) : setOp o i v h P → setOp o i v h Q := by
  unfold setOp
  split
  · exact fun ⟨xs, j, e, e2, q⟩ => ⟨xs, j, e, e2, k _ q⟩
  · exact id
def lSet (K : Frag) : L2.TSet := fun o i v H Q => ∃ A po pi pv h, Rel K A H h ∧ RepV K H po o ∧ RepV K H pi i ∧ RepV K H pv v ∧ setOp po pi pv h fun h' => ∀ H', Mon A H H' → Rel K A H' h' → Q H'
theorem ok_set : PSet X (lSet X.K) := by
  rintro pins s σ H o i v ov iv u Q I ro ri rv ⟨A, po, pi, pv, h, r, eo, ei, ev, q⟩
  unfold setOp at q
  split at q
  · cases eo; cases ei
    obtain ⟨xs, j, e, e2, q⟩ := q
    obtain ⟨ws, eH, lx⟩ := r.obj _ _ e
    have mw := r.mon_write (o := .lst (ws.set j v)) e
    exact set_list pins s σ H _ _ v ov iv u Q I ro ri rv ⟨_, ws, _, j, rfl, rfl, eH, by rw [← lx.length]; exact e2, q _ mw (r.write e ⟨_, upd_same, (lx.mon mw).set (ev.mon mw) j⟩)⟩
  · exact q.elim
def wSub (wo wi wv : WE) : WS := fun ρ h D => wv ρ h fun v h1 => wo ρ h1 fun o h2 => wi ρ h2 fun i h3 => setOp o i v h3 fun h4 => D.nx ρ h4
theorem mono_wSub {wo wi wv : WE} (mo : MonE wo) (mi : MonE wi) (mv : MonE wv) : MonS (wSub wo wi wv) := fun ρ h D D' l z =>
  mv _ _ _ _ (fun v h1 z => mo _ _ _ _ (fun o h2 z => mi _ _ _ _ (fun i h3 z => mono_setOp (fun h4 z => l.nx _ _ z) z) z) z) z
theorem s_sub {wo wi wv : WE} (jj : JOk J) (ho : PE X a (tE X.K J wo)) (hi : PE X b (tE X.K J wi)) (hv : PE X d (tE X.K J wv)) (mo : MonE wo) (mi : MonE wi) (mv : MonE wv)
    (hs : swapsWithSole [.Subscript a b pos'] d pos.line X.env = pure false) (hw : swappedStores [.Subscript a b pos'] d X.env = pure none) (h1 : (assignEach [.Subscript a b pos'] X.env).map (·.2) = [assign (.Subscript a b pos') X.env])
    (hset : ∀ v, assign (.Subscript a b pos') X.env v = (do
      let ov ← holding [v] (eval a X.env)
      let iv ← holding [v, ov] (eval b X.env)
      standAt pos'
      holding [v, ov, iv] (setItem ov iv v)
      release [v, ov, iv] [])) : PS X (.Assign [.Subscript a b pos'] d pos) (tS X.K J (wSub wo wi wv)) := by
  refine ⟨fun pins s σ H D I ⟨A, ρ, h, j, rs, r, hw'⟩ => (ps_asg hv (pg_sub ho hi ok_set hset) hs hw h1).run pins s σ H D I ?_⟩
  refine tE_of jj j rs r mv hw' fun v h1 vv H1 p j1 rs1 m1 r1 rv => ?_
  refine tE_of jj j1 rs1 r1 mo p fun o h2 ov H2 p2 j2 rs2 m2 r2 ro => ?_
  refine tE_of jj j2 rs2 r2 mi p2 fun i h3 iv H3 p3 j3 rs3 m3 r3 ri => ?_
  exact ⟨A, o, i, v, h3, r3, ro.mon m3, ri, rv.mon (m2.trans m3), mono_setOp (fun h4 z H4 m4 r4 => z _ _ (m1.trans (m2.trans (m3.trans m4))) (rs3.mon m4) r4) p3⟩

/-! ### while, for -/
def wWhile (wt : WT) (wb : WS) : WS := fun ρ h D => ∃ Iv : Nat → Env → MH → Prop, (∃ n, Iv n ρ h) ∧ ∀ n ρ h, Iv n ρ h → wt ρ h fun b h1 => if b = true then wb ρ h1 ⟨fun ρ2 h2 => ∃ n', n' < n ∧ Iv n' ρ2 h2, D.rt, D.nx, fun ρ2 h2 => ∃ n', n' < n ∧ Iv n' ρ2 h2⟩ else D.nx ρ h1
theorem mono_while {wb : WS} (mt : MonT wt) (mb : MonS wb) : MonS (wWhile wt wb) := fun ρ h D D' l ⟨Iv, h0, step⟩ => ⟨Iv, h0, fun n ρ h iv => mt _ _ _ _ (fun b h1 z => by
  cases b with
  | true => exact MonS.go mb z ⟨fun _ _ z => z, l.rt, l.nx, fun _ _ z => z⟩
  | false => exact l.nx _ _ z) (step n ρ h iv)⟩
theorem s_while {wb : WS} (m : Match X c G gl k J ex) (ht : PT X a (tT X.K J wt)) (hb : PSs X body (tS X.K J wb)) (mt : MonT wt) (mb : MonS wb) : PS X (.While a body [] pos) (tS X.K J (wWhile wt wb)) := by
  refine ⟨fun pins s σ H D I ⟨A, ρ, h, j, rs, r, Iv, ⟨n0, i0⟩, step⟩ => (ps_while m.po ht hb).run pins s σ H D I ?_⟩
  refine ⟨fun n σ1 H1 => ∃ ρ1 h1, Mon A H H1 ∧ RepSt X.K H1 ρ1 σ1 ∧ Rel X.K A H1 h1 ∧ Iv n ρ1 h1, ⟨n0, ρ, h, .refl, rs, r, i0⟩, ?_⟩
  rintro n σ1 H1 ⟨ρ1, h1, m1, rs1, r1, iv⟩
  refine tT_of m.jj (m.jj.mon j m1) rs1 r1 mt (step n ρ1 h1 iv) fun bb h2 H2 p j2 rs2 m2 r2 => ?_
  cases bb with
  | false => exact p _ _ (m1.trans m2) rs2 r2
  | true =>
    refine ⟨fun σ3 H3 => ∃ n', n' < n ∧ ∃ ρ3 h3, Mon A H H3 ∧ RepSt X.K H3 ρ3 σ3 ∧ Rel X.K A H3 h3 ∧ Iv n' ρ3 h3, fun σ3 H3 ⟨n', hn, z⟩ => ⟨n', hn, z⟩, ?_⟩
    have m12 := m1.trans m2
    exact ⟨A, ρ1, h2, j2, rs2, r2, MonS.go mb p ⟨fun ρ3 h3 ⟨n', hn, iv'⟩ σ3 H3 mo rs3 r3 => ⟨n', hn, ρ3, h3, m12.trans mo, rs3, r3, iv'⟩, fun _ _ z => up.trans m12 z, fun _ _ z => upK.trans m12 z,
      fun ρ3 h3 ⟨n', hn, iv'⟩ σ3 H3 mo rs3 r3 => ⟨n', hn, ρ3, h3, m12.trans mo, rs3, r3, iv'⟩⟩⟩
def wFor (wi : WI) (t : ST) (wb : WS) : WS := fun ρ h D => wi ρ h fun it h1 => ∃ Iv : Nat → Env → MH → Prop, Iv 0 ρ h1 ∧
  (∀ i x ρ h2, it.xs[i]? = some x → Iv i ρ h2 → it.keep h2 ∧ ∃ ρ2, t.set x ρ = some ρ2 ∧ wb ρ2 h2 ⟨Iv (i + 1), D.rt, D.nx, Iv (i + 1)⟩) ∧ ∀ ρ h2, Iv it.xs.length ρ h2 → it.keep h2 ∧ D.nx ρ h2
theorem mono_for {t : ST} {wb : WS} (mi : MonI wi) (mb : MonS wb) : MonS (wFor wi t wb) := fun ρ h D D' l hw => mi _ _ _ _ (fun it h1 ⟨Iv, a0, a1, a2⟩ => ⟨Iv, a0, fun i x ρ h2 e iv =>
  let ⟨kp, ρ2, es, z⟩ := a1 i x ρ h2 e iv
  ⟨kp, ρ2, es, MonS.go mb z ⟨fun _ _ z => z, l.rt, l.nx, fun _ _ z => z⟩⟩, fun ρ h2 iv => ⟨(a2 ρ h2 iv).1, l.nx _ _ (a2 ρ h2 iv).2⟩⟩) hw
theorem s_for {t : ST} {wb : WS} (m : Match X c G gl k J ex) (hi : PI X tg iter (tI X.K J wi)) (mi : MonI wi) (hg : PG X tg (t.g X.K)) (hb : PSs X body (tS X.K J wb)) (mb : MonS wb) (hs : ∀ x, foldedSetIterable iter X.env x = pure x) : PS X (.For tg iter body [] pos) (tS X.K J (wFor wi t wb)) := by
  refine ⟨fun pins s σ H D I ⟨A, ρ, h, j, rs, r, hw⟩ => (ps_for m.po m.calm hi hg hb hs).run pins s σ H D I ?_⟩
  refine ⟨A, ρ, h, j, rs, r, mi _ _ _ _ (fun it h1 ⟨Iv, a0, a1, a2⟩ It1 H1 m1 r1 io => ?_) hw⟩
  refine ⟨fun i n σ2 H2 => ∃ ρ2 h2, n = it.xs.length - i ∧ i ≤ it.xs.length ∧ Mon A H1 H2 ∧ RepSt X.K H2 ρ2 σ2 ∧ Rel X.K A H2 h2 ∧ Iv i ρ2 h2, ⟨_, ρ, h1, rfl, Nat.zero_le _, .refl, rs.mon m1, r1, a0⟩, ?_⟩
  rintro i n σ2 H2 ⟨ρ2, h2, rfl, hi, m2, rs2, r2, iv⟩
  by_cases hlt : i < it.xs.length
  · obtain ⟨kp, _⟩ := a1 i _ ρ2 h2 (List.getElem?_eq_getElem hlt) iv
    refine .inr ⟨io.go i H2 h2 hlt m2 r2 kp, fun σ3 H3 => ∃ ρ3 h3, Mon A H1 H3 ∧ RepSt X.K H3 ρ3 σ3 ∧ Rel X.K A H3 h3 ∧ Iv (i + 1) ρ3 h3, fun σ3 H3 ⟨ρ3, h3, z⟩ => ⟨it.xs.length - (i + 1), by omega, ρ3, h3, rfl, hlt, z⟩, fun x H3 yl => ?_⟩
    obtain ⟨p, ep, rp, hH3⟩ := io.yld i H2 h2 x H3 hlt m2 r2 kp yl
    have m23 : Mon A H2 H3 := by
      rcases hH3 with rfl | ⟨T, us, hT, rfl⟩
      · exact .refl
      · exact r2.mon_new hT
    have r3 : Rel X.K A H3 h2 := by
      rcases hH3 with rfl | ⟨T, us, hT, rfl⟩
      · exact r2
      · exact r2.laid hT
    obtain ⟨_, ρ4, es, q⟩ := a1 i p ρ2 h2 ep iv
    refine ST.set_ok t rp (rs2.mon m23) es fun σ4 rs4 _ => ?_
    have m123 := m2.trans m23
    exact ⟨A, ρ4, h2, m.jj.mon j (m1.trans m123), rs4, r3, MonS.go mb q ⟨fun ρ5 h5 iv5 σ5 H5 mo rs5 r5 => ⟨ρ5, h5, m123.trans mo, rs5, r5, iv5⟩, fun _ _ z => up.trans (m1.trans m123) z, fun _ _ z => upK.trans (m1.trans m123) z,
      fun ρ5 h5 iv5 σ5 H5 mo rs5 r5 => ⟨ρ5, h5, m123.trans mo, rs5, r5, iv5⟩⟩⟩
  · have e : i = it.xs.length := by omega
    subst e
    obtain ⟨kp, q⟩ := a2 ρ2 h2 iv
    exact .inl ⟨io.stop H2 h2 m2 r2 kp, q _ _ (m1.trans m2) rs2 r2⟩
end
end Ev

set_option Elab.async false
set_option linter.all false
set_option maxRecDepth 100000
set_option maxHeartbeats 4000000
/-! EvA: calls by keywords, dicts, ranges as lists, isinstance, enumerate, zip, more stores. -/
namespace Ev
open PySem PySem.Spec PyProof.Rows L2
section
variable {X : Cx} {c : Cfg} {G : Ctx} {gl : Str → PV} {k : Nat} {J : Jw} {ex : Env → XV} {a b d e tg iter : Expr} {es : List Expr} {wa wb wd we : WE} {wl : WA} {pos pos' : Pos}

/-! ### calls by keywords alone -/
theorem k_nil : L2.PK X [] (tA X.K J wNil) := ⟨fun ps pins s σ H Q I ⟨A, ρ, h, j, rs, r, q⟩ => pk_nil.run ps pins s σ H Q I (q [] H .refl r .nil)⟩
theorem k_cons {nm : Option Str} {kpos : Pos} {kws : List Keyword} (jj : JOk J) (ha : PE X a (tE X.K J wa)) (hl : L2.PK X kws (tA X.K J wl)) (ma : MonE wa) (ml : MonA wl) : L2.PK X (⟨nm, a, kpos⟩ :: kws) (tA X.K J (wCons wa wl)) := by
  refine ⟨fun ps pins s σ H Q I ⟨A, ρ, h, j, rs, r, hw⟩ => (pk_cons ha hl).run ps pins s σ H Q I ?_⟩
  refine tE_of jj j rs r ma hw fun x h1 v H1 p j1 rs1 m1 r1 rv => ?_
  refine tA_of jj j1 rs1 r1 ml p fun xs h2 vs H2 q j2 rs2 m2 r2 rl => ?_
  exact q (v :: vs) H2 (m1.trans m2) r2 (.cons (rv.mon m2) rl)
theorem RepL.getD {K : Frag} {H : Hp} {xs : List PV} {vs : List V} (l : RepL K H xs vs) {i : Nat} (hi : i < xs.length) : RepV K H (xs.getD i .non) (vs.getD i .non) := by
  obtain ⟨v, e, rv⟩ := l.get (List.getElem?_eq_getElem hi)
  rw [List.getD_eq_getElem?_getD, List.getD_eq_getElem?_getD, e, List.getElem?_eq_getElem hi]
  exact rv
theorem vals_perm {vs : List V} {us : List Value} (r : Vals vs us) : ∀ {perm : List Nat}, (∀ i ∈ perm, i < vs.length) → Vals (perm.map fun i => vs.getD i .non) (perm.map fun i => us.getD i .none)
  | [], _ => .nil
  | i :: is, h => by
    refine .cons ?_ (vals_perm r fun j hj => h j (List.mem_cons_of_mem _ hj))
    have hi := h i List.mem_cons_self
    have go : ∀ {vs : List V} {us : List Value} {i : Nat}, Vals vs us → i < vs.length → RelV (vs.getD i .non) (us.getD i .none) := by
      intro vs us i r
      induction r generalizing i with
      | nil => intro h; exact absurd h (Nat.not_lt_zero _)
      | cons p _ ih =>
        intro h
        cases i with
        | zero => exact p
        | succ i => exact ih (Nat.lt_of_succ_lt_succ h)
    exact go r hi
theorem rep_perm {K : Frag} {H : Hp} {xs : List PV} {vs : List V} (l : RepL K H xs vs) : ∀ {perm : List Nat}, (∀ i ∈ perm, i < xs.length) → RepL K H (perm.map fun i => xs.getD i .non) (perm.map fun i => vs.getD i .non)
  | [], _ => .nil
  | i :: is, h => .cons (l.getD (h i List.mem_cons_self)) (rep_perm l fun j hj => h j (List.mem_cons_of_mem _ hj))
def wFnK (sp : Spec) (ex : Env → XV) (perm : List Nat) (wl : WA) : WE := fun ρ h Q => wl ρ h fun xs h1 => sp (perm.map fun i => xs.getD i .non) h1 Q (ex ρ)
theorem mono_fnK {sp : Spec} {perm : List Nat} (hs : ∀ as h (P Q : PK) (R T : XV), (∀ x h, P x h → Q x h) → (∀ c fs h, R c fs h → T c fs h) → sp as h P R → sp as h Q T) (ml : MonA wl) : MonE (wFnK sp ex perm wl) := fun ρ h P Q k hw => ml _ _ _ _ (fun xs h1 z => hs _ _ _ _ _ _ k (fun _ _ _ z => z) z) hw
theorem s_fnK (m : Match X c G gl k J ex) {f : Str} {ks : List Str} {perm : List Nat} {p : Pos} {kws : List Keyword} (hf : (f, ks, perm) ∈ c.kws) (hg : Gl X f) (hd : (f == ("__debug__" : Str)) = false) (ha : L2.PK X kws (tA X.K J wl)) (ml : MonA wl) (hn : kws.length = ks.length)
    (len : ∀ {ρ h Q}, wl ρ h Q → wl ρ h fun xs h1 => xs.length = kws.length ∧ Q xs h1) (hall : (backToKw pos (keywordEach kws X.env)).all (·.1.isSome) = true) (hks : (backToKw pos (keywordEach kws X.env)).filterMap (·.1) = ks)
    (hpl : (backToKw pos (keywordEach kws X.env)).any (·.1.isNone) = false) : PE X (.Call (.Name f p) [] kws pos) (tE X.K J (wFnK (G.fn f) ex perm wl)) := by
  obtain ⟨fa, fd, ps, hm, F, kp, kb⟩ := m.kws f ks perm hf
  refine ⟨fun pins s σ H Q I ⟨A, ρ, h, j, rs, r, hw⟩ => ?_⟩
  refine wpAny_Call_Name_kw (ld_glob I hg hm ?_ hd)
  have ht : tA X.K J wl σ H fun vs H1 => vs.length = ks.length ∧ ∃ (A : Addr → Prop) (ρ : Env) (h : MH) (as : List PV), J A H1 ∧ RepSt X.K H1 ρ σ ∧ Rel X.K A H1 h ∧ RepL X.K H1 as vs ∧ G.fn f (perm.map fun i => as.getD i .non) h (up X.K A H1 Q) (ex ρ) :=
    tA_of m.jj j rs r ml (len hw) fun xs h1 vs H1 p j1 rs1 m1 r1 rl => ⟨by rw [← rl.length, p.1, hn], A, ρ, h1, xs, j1, rs1, r1, rl, G.mono _ _ _ _ _ _ _ (fun _ _ z => up.trans m1 z) (fun _ _ _ z => z) p.2⟩
  refine PySem.W.callWith_KW0 (h₀ := X.base) I.ok.mod.kin kp hall (thn (ha.run pos pins s σ H _ I ht) fun us s1 ⟨vs, H1, I1, rv, hl, A1, ρ1, h1, as, j1, rs1, r1, rl, q⟩ => ⟨I1.kIn, ?_⟩) (by rw [hpl]; rfl)
  rw [hks]
  have lu : us.length = ks.length := by rw [← rv.length]; exact hl
  exact call_of (run_fng m F I1 (kb.to s1 us I1.kIn lu) (vals_perm rv fun i hi => by rw [hl]; exact kb.lt i hi) (by rw [List.length_map]; exact kb.len) j1 rs1 r1 (rep_perm rl fun i hi => by rw [rl.length, hl]; exact kb.lt i hi) q)

/-! ### dicts whose keys are ints and texts -/
def keyP : PV → Option Key
  | .int i => some (.inl i)
  | .str x => some (.inr x)
  | _ => none
def lookP (kvs : List (Key × PV)) (k : Key) : Option PV := (kvs.find? fun kv => decide (kv.1 = k)).map (·.2)
def putP (kvs : List (Key × PV)) (k : Key) (x : PV) : List (Key × PV) :=
  if kvs.any (fun kv => decide (kv.1 = k)) then kvs.map (fun kv => if kv.1 = k then (kv.1, x) else kv) else kvs ++ [(k, x)]
section
variable {K : Frag} {H : Hp}
theorem key_rep {x : PV} {v : V} {k : Key} (r : RepV K H x v) (e : keyP x = some k) : v = kV k := by
  cases r <;> cases e <;> rfl
theorem kr_find {kvs : List (Key × PV)} {ws : List (Key × V)} (r : KR K H kvs ws) (k : Key) : (∀ x, lookP kvs k = some x → ∃ v, valV ws k = some v ∧ RepV K H x v) ∧ (lookP kvs k).isSome = (valV ws k).isSome := by
  unfold KR at r
  induction r with
  | nil => exact ⟨fun _ e => (nomatch e), rfl⟩
  | @cons p q tl tl2 h t ih =>
    obtain ⟨h1, h2⟩ := h
    by_cases e : p.1 = k
    · have e2 : q.1 = k := h1 ▸ e
      rw [valV_pos e2]
      have e3 : lookP (p :: tl) k = some p.2 := by unfold lookP; rw [List.find?_cons_of_pos (by simpa using e)]; rfl
      rw [e3]
      exact ⟨fun x ex => by cases ex; exact ⟨_, rfl, h2⟩, rfl⟩
    · have e2 : ¬ q.1 = k := h1 ▸ e
      rw [valV_neg e2]
      have e3 : ∀ t, lookP (p :: t) k = lookP t k := fun t => by unfold lookP; rw [List.find?_cons_of_neg (by simpa using e)]
      rw [e3]
      exact ih
theorem kr_len {kvs : List (Key × PV)} {ws : List (Key × V)} (r : KR K H kvs ws) : kvs.length = ws.length := Paired.length r
theorem kr_any {kvs : List (Key × PV)} {ws : List (Key × V)} (r : KR K H kvs ws) (k : Key) : (kvs.any fun kv => decide (kv.1 = k)) = ws.any fun kv => decide (kv.1 = k) := by
  unfold KR at r
  induction r with
  | nil => rfl
  | cons h t ih => simp only [List.any_cons, ih, h.1]
theorem kr_map {kvs : List (Key × PV)} {ws : List (Key × V)} (r : KR K H kvs ws) (k : Key) {x : PV} {v : V} (rv : RepV K H x v) : KR K H (kvs.map fun kv => if kv.1 = k then (kv.1, x) else kv) (ws.map fun kv => if kv.1 = k then (kv.1, v) else kv) := by
  unfold KR at r ⊢
  induction r with
  | nil => exact .nil
  | @cons p q _ _ h t ih =>
    refine .cons ?_ ih
    simp only [h.1]
    by_cases z : q.1 = k
    · rw [if_pos z, if_pos z]; exact ⟨rfl, rv⟩
    · rw [if_neg z, if_neg z]; exact h
theorem kr_snoc {kvs : List (Key × PV)} {ws : List (Key × V)} (r : KR K H kvs ws) (k : Key) {x : PV} {v : V} (rv : RepV K H x v) : KR K H (kvs ++ [(k, x)]) (ws ++ [(k, v)]) := by
  unfold KR at r ⊢
  induction r with
  | nil => exact .cons ⟨rfl, rv⟩ .nil
  | cons h t ih => exact .cons h ih
theorem kr_put {kvs : List (Key × PV)} {ws : List (Key × V)} (r : KR K H kvs ws) (k : Key) {x : PV} {v : V} (rv : RepV K H x v) : KR K H (putP kvs k x) (putK ws k v) := by
  unfold putP putK
  rw [kr_any r k]
  split
  · exact kr_map r k rv
  · exact kr_snoc r k rv
end
/-- d[k] -/
def opDix : O2 := fun x y h Q => match x with
  | .ref p => ∃ kvs k v, h p = some (.dK kvs) ∧ keyP y = some k ∧ lookP kvs k = some v ∧ Q v h
  | _ => False
theorem mono_opDix : Mon2 opDix := by
  intro x y h P Q k
  unfold opDix
  split
  · exact fun ⟨kvs, q, v, e1, e2, e3, z⟩ => ⟨kvs, q, v, e1, e2, e3, k _ _ z⟩
  · exact id
theorem s_dix (m : Match X c G gl k J ex) (ha : PE X a (tE X.K J wa)) (hb : PE X b (tE X.K J wb)) (ma : MonE wa) (mb : MonE wb) (hs : NoSl b) : PE X (.Subscript a b pos) (tE X.K J (w2 opDix wa wb)) := by
  refine ⟨fun pins s σ H Q I ⟨A, ρ, h, j, rs, r, hw⟩ => (pe_dget (by have := room65 m.room; omega) ha hb hs).run pins s σ H Q I ?_⟩
  refine tE_of m.jj j rs r ma hw fun x h1 v H1 p j1 rs1 m1 r1 rv => ?_
  refine tE_of m.jj j1 rs1 r1 mb p fun y h2 u H2 q j2 rs2 m2 r2 ru => ?_
  unfold opDix at q
  split at q
  · obtain ⟨kvs, ky, z, e1, e2, e3, q⟩ := q
    have rv2 := rv.mon m2
    cases rv2
    obtain ⟨ws, eH, kr⟩ := r2.obj _ _ e1
    obtain ⟨w, ew, rw'⟩ := (kr_find kr ky).1 _ e3
    have ek := key_rep ru e2
    subst ek
    refine ⟨_, w, rfl, ?_, q w H2 (m1.trans m2) r2 rw'⟩
    rw [← ew]
    exact DGet.k eH
  · exact q.elim
/-- k in d -/
def opDin (neg : Bool) : O2 := fun y x h Q => match x with
  | .ref p => ∃ kvs k, h p = some (.dK kvs) ∧ keyP y = some k ∧ Q (.bl (neg != (lookP kvs k).isSome)) h
  | _ => False
theorem mono_opDin (n : Bool) : Mon2 (opDin n) := by
  intro y x h P Q k
  unfold opDin
  split
  · exact fun ⟨kvs, q, e1, e2, z⟩ => ⟨kvs, q, e1, e2, k _ _ z⟩
  · exact id
theorem s_din (m : Match X c G gl k J ex) (n : Bool) (ha : PE X a (tE X.K J wa)) (hb : PE X b (tE X.K J wb)) (ma : MonE wa) (mb : MonE wb) (hm : behindInMarks (if n then .NotIn else .In) b = false) : PE X (.Compare a [if n then .NotIn else .In] [b] pos) (tE X.K J (w2 (opDin n) wa wb)) := by
  refine ⟨fun pins s σ H Q I ⟨A, ρ, h, j, rs, r, hw⟩ => ?_⟩
  have hu : X.A.units + 1 < cLine := by have := room65 m.room; omega
  cases n with
  | false =>
    refine (pe_cmp (pc_din hu ha hb) hm).run pins s σ H Q I ?_
    refine tE_of m.jj j rs r ma hw fun x h1 v H1 p j1 rs1 m1 r1 rv => ?_
    refine tE_of m.jj j1 rs1 r1 mb p fun y h2 u H2 q j2 rs2 m2 r2 ru => ?_
    unfold opDin at q
    split at q
    · obtain ⟨kvs, ky, e1, e2, q⟩ := q
      cases ru
      obtain ⟨ws, eH, kr⟩ := r2.obj _ _ e1
      have ek := key_rep rv e2
      subst ek
      refine ⟨_, _, rfl, DGet.k eH, ?_⟩
      rw [← (kr_find kr ky).2, ← Bool.false_bne (lookP kvs ky).isSome]
      exact q _ H2 (m1.trans m2) r2 (.bl _)
    · exact q.elim
  | true =>
    refine (pe_cmp (pc_dnotin hu ha hb) hm).run pins s σ H Q I ?_
    refine tE_of m.jj j rs r ma hw fun x h1 v H1 p j1 rs1 m1 r1 rv => ?_
    refine tE_of m.jj j1 rs1 r1 mb p fun y h2 u H2 q j2 rs2 m2 r2 ru => ?_
    unfold opDin at q
    split at q
    · obtain ⟨kvs, ky, e1, e2, q⟩ := q
      cases ru
      obtain ⟨ws, eH, kr⟩ := r2.obj _ _ e1
      have ek := key_rep rv e2
      subst ek
      refine ⟨_, _, rfl, DGet.k eH, ?_⟩
      rw [← (kr_find kr ky).2, ← Bool.true_bne (lookP kvs ky).isSome]
      exact q _ H2 (m1.trans m2) r2 (.bl _)
    · exact q.elim
/-- d[k] = v -/
def dputP (o i v : PV) (h : MH) (Q : MH → Prop) : Prop := match o with
  | .ref p => ∃ kvs k, h p = some (.dK kvs) ∧ keyP i = some k ∧ kvs.length < sizeLine ∧ Q (mupd h p (.dK (putP kvs k v)))
  | _ => False
theorem mono_dput {o i v : PV} {h : MH} {P Q : MH → Prop} (k : ∀ h, P h → Q h) : dputP o i v h P → dputP o i v h Q := by
  unfold dputP
  split
  · exact fun ⟨kvs, ky, e, e2, e3, q⟩ => ⟨kvs, ky, e, e2, e3, k _ q⟩
  · exact id
def wDput (wo wi wv : WE) : WS := fun ρ h D => wv ρ h fun v h1 => wo ρ h1 fun o h2 => wi ρ h2 fun i h3 => dputP o i v h3 fun h4 => D.nx ρ h4
theorem mono_wDput {wo wi wv : WE} (mo : MonE wo) (mi : MonE wi) (mv : MonE wv) : MonS (wDput wo wi wv) := fun ρ h D D' l z =>
  mv _ _ _ _ (fun v h1 z => mo _ _ _ _ (fun o h2 z => mi _ _ _ _ (fun i h3 z => mono_dput (fun h4 z => l.nx _ _ z) z) z) z) z
theorem s_dput {wo wi wv : WE} (m : Match X c G gl k J ex) (ho : PE X a (tE X.K J wo)) (hi : PE X b (tE X.K J wi)) (hv : PE X d (tE X.K J wv)) (mo : MonE wo) (mi : MonE wi) (mv : MonE wv)
    (hs : swapsWith d (some (.Subscript a b pos')) pos.line X.env = pure false) : PS X (.Assign [.Subscript a b pos'] d pos) (tS X.K J (wDput wo wi wv)) := by
  refine ⟨fun pins s σ H D I ⟨A, ρ, h, j, rs, r, hw'⟩ => (ps_dput (by have := room65 m.room; omega) ho hi hv hs).run pins s σ H D I ?_⟩
  refine tE_of m.jj j rs r mv hw' fun v h1 vv H1 p j1 rs1 m1 r1 rv => ?_
  refine tE_of m.jj j1 rs1 r1 mo p fun o h2 ov H2 p2 j2 rs2 m2 r2 ro => ?_
  refine tE_of m.jj j2 rs2 r2 mi p2 fun i h3 iv H3 p3 j3 rs3 m3 r3 ri => ?_
  unfold dputP at p3
  split at p3
  · obtain ⟨kvs, ky, e1, e2, e3, q⟩ := p3
    have ro2 := ro.mon m3
    cases ro2
    obtain ⟨ws, eH, kr⟩ := r3.obj _ _ e1
    have ek := key_rep ri e2
    subst ek
    have mw := r3.mon_write (o := .dK (putK ws ky vv)) e1
    refine ⟨_, _, rfl, DPut.k eH (by rw [← kr_len kr]; exact e3), q σ _ (m1.trans (m2.trans (m3.trans mw))) (rs3.mon mw) (r3.write e1 ⟨_, upd_same, kr_put (KR.mon mw kr) ky ((rv.mon (m2.trans m3)).mon mw)⟩)⟩
  · exact p3.elim
/-- {} -/
def wDnew : WE := fun _ h Q => ∀ p, h p = none → Q (.ref p) (mupd h p (.dK []))
theorem mono_dnew : MonE wDnew := fun _ _ _ _ k q p hp => k _ _ (q p hp)
theorem s_dnew : PE X (.Dict [] [] pos) (tE X.K J wDnew) := by
  refine ⟨fun pins s σ H Q I ⟨A, ρ, h, j, rs, r, hw⟩ => pe_dnewK.run pins s σ H Q I fun p hp => ?_⟩
  exact hw p (r.free hp) (.ref p) _ (r.mon_new hp) (r.tell hp ⟨[], upd_same, .nil⟩) (.ref p)

/-! ### {k: v, ..} -/
abbrev WP := Env → MH → (List (PV × PV) → MH → Prop) → Prop
def MonP (w : WP) : Prop := ∀ ρ h (P Q : List (PV × PV) → MH → Prop), (∀ x h, P x h → Q x h) → w ρ h P → w ρ h Q
def wPnil : WP := fun _ h Q => Q [] h
def wPcons (wa wb : WE) (wp : WP) : WP := fun ρ h Q => wa ρ h fun x h1 => wb ρ h1 fun y h2 => wp ρ h2 fun ps h3 => Q ((x, y) :: ps) h3
theorem mono_pnil : MonP wPnil := fun _ _ _ _ k q => k _ _ q
theorem mono_pcons {wp : WP} (ma : MonE wa) (mb : MonE wb) (mp : MonP wp) : MonP (wPcons wa wb wp) := fun ρ h P Q k hw => ma _ _ _ _ (fun x h1 z => mb _ _ _ _ (fun y h2 z => mp _ _ _ _ (fun ps h3 z => k _ _ z) z) z) hw
def keysP : List (PV × PV) → Option (List (Key × PV))
  | [] => some []
  | (x, y) :: ps => (keyP x).bind fun k => (keysP ps).map fun r => (k, y) :: r
def mergeP (kvs more : List (Key × PV)) : List (Key × PV) := more.foldl (fun acc kv => putP acc kv.1 kv.2) kvs
def wDisp (wp : WP) : WE := fun ρ h Q => wp ρ h fun ps h1 => ∃ kvs, keysP ps = some kvs ∧ kvs.length ≤ 15 ∧ ∀ p, h1 p = none → Q (.ref p) (mupd h1 p (.dK (mergeP [] kvs)))
theorem mono_disp {wp : WP} (mp : MonP wp) : MonE (wDisp wp) := fun ρ h P Q k hw => mp _ _ _ _ (fun ps h1 ⟨kvs, e, l, q⟩ => ⟨kvs, e, l, fun p hp => k _ _ (q p hp)⟩) hw
abbrev PR (K : Frag) (H : Hp) : List (PV × PV) → List (V × V) → Prop := Paired fun p q => RepV K H p.1 q.1 ∧ RepV K H p.2 q.2
theorem pr_mon {K : Frag} {A : Addr → Prop} {H H' : Hp} (m : Mon A H H') {ps : List (PV × PV)} {qs : List (V × V)} (r : PR K H ps qs) : PR K H' ps qs := Paired.mapP r fun _ _ z => ⟨z.1.mon m, z.2.mon m⟩
theorem keys_pr {K : Frag} {H : Hp} : ∀ {ps : List (PV × PV)} {qs : List (V × V)} {kvs : List (Key × PV)}, PR K H ps qs → keysP ps = some kvs → ∃ ws : List (Key × V), qs = ws.map (fun kv => (kV kv.1, kv.2)) ∧ KR K H kvs ws := by
  intro ps qs kvs r
  induction r generalizing kvs with
  | nil => intro e; cases e; exact ⟨[], rfl, .nil⟩
  | @cons p q ps qs h t ih =>
    intro e
    obtain ⟨x, y⟩ := p
    simp only [keysP] at e
    obtain ⟨k, e1, e2⟩ := Option.bind_eq_some_iff.mp e
    obtain ⟨r, e3, rfl⟩ := Option.map_eq_some_iff.mp e2
    obtain ⟨ws, rfl, kr⟩ := ih e3
    obtain ⟨v, w⟩ := q
    cases key_rep h.1 e1
    exact ⟨(k, w) :: ws, rfl, .cons ⟨rfl, h.2⟩ kr⟩
theorem kr_merge {K : Frag} {H : Hp} {more : List (Key × PV)} {ws : List (Key × V)} (r : KR K H more ws) : ∀ {kvs : List (Key × PV)} {vs : List (Key × V)}, KR K H kvs vs → KR K H (mergeP kvs more) (mergeK vs ws) := by
  unfold KR at r
  induction r with
  | nil => exact fun r => r
  | @cons p q ps qs h t ih =>
    intro kvs vs r
    show KR K H (mergeP (putP kvs p.1 p.2) ps) (mergeK (putK vs q.1 q.2) qs)
    rw [h.1]
    exact ih (kr_put r q.1 h.2)
/-- pairs: their readings -/
inductive PPt (X : Cx) (J : Jw) (pos : Pos) : List (Option Expr) → List Expr → WP → Prop where
  | nil : PPt X J pos [] [] wPnil
  | cons {a b : Expr} {ks : List (Option Expr)} {vs : List Expr} {wa wb : WE} {wp : WP} : PE X a (tE X.K J wa) → PE X b (tE X.K J wb) → MonE wa → MonE wb → MonP wp → PPt X J pos ks vs wp → PPt X J pos (some a :: ks) (b :: vs) (wPcons wa wb wp)
theorem ppt_run (jj : JOk J) {ks : List (Option Expr)} {vs : List Expr} {wp : WP} (t : PPt X J pos ks vs wp) : ∃ trs, PPs X pos ks vs trs ∧ ∀ {A : Addr → Prop} {ρ : Env} {h : MH} {σ : L2.St} {H : Hp} {P : List (PV × PV) → MH → Prop} {R : List (V × V) → Hp → Prop}, J A H → RepSt X.K H ρ σ → Rel X.K A H h → wp ρ h P →
    (∀ ps h1 qs H1, P ps h1 → RepSt X.K H1 ρ σ → Mon A H H1 → Rel X.K A H1 h1 → PR X.K H1 ps qs → R qs H1) → tPairs trs σ H R := by
  induction t with
  | nil => exact ⟨[], pps_nil, fun j rs r q k => k _ _ _ _ q rs .refl r .nil⟩
  | @cons a b ks vs wa wb wp ha hb ma mb mp t ih =>
    obtain ⟨trs, hp, run⟩ := ih
    refine ⟨_, pps_cons ha hb hp, fun {A ρ h σ H P R} j rs r hw k => ?_⟩
    show tE X.K J wa σ H fun x H1 => tE X.K J wb σ H1 fun y H2 => tPairs trs σ H2 fun ps H3 => R ((x, y) :: ps) H3
    refine tE_of jj j rs r ma hw fun x h1 v H1 p1 j1 rs1 m1 r1 rv => ?_
    refine tE_of jj j1 rs1 r1 mb p1 fun y h2 u H2 p2 j2 rs2 m2 r2 ru => ?_
    exact run j2 rs2 r2 p2 fun ps h3 qs H3 p3 rs3 m3 r3 pr => k _ _ _ _ p3 rs3 (m1.trans (m2.trans m3)) r3 (.cons ⟨rv.mon (m2.trans m3), ru.mon m3⟩ pr)
theorem s_disp (jj : JOk J) {ks : List (Option Expr)} {vs : List Expr} {wp : WP} (t : PPt X J pos ks vs wp) (mp : MonP wp) (hall : ks.all (·.isSome) = true) (hl : ks.length = vs.length) (h0 : ks ≠ []) (h15 : ks.length ≤ 15) : PE X (.Dict ks vs pos) (tE X.K J (wDisp wp)) := by
  obtain ⟨trs, hp, run⟩ := ppt_run jj t
  refine ⟨fun pins s σ H Q I ⟨A, ρ, h, j, rs, r, hw⟩ => (pe_disp hp hall hl h0 h15).run pins s σ H Q I fun p hn => ?_⟩
  have np : ∀ d, A d → d ≠ p := r.nothid hn
  have rB : Rel X.K (fun d => A d ∨ d = p) (upd H p (.dK [])) h := by
    have l := r.laid (o := .dK []) hn
    refine ⟨l.obj, fun d hd => ?_⟩
    rcases hd with hd | rfl
    · exact l.hid d hd
    · exact ⟨r.free hn, _, upd_same⟩
  have jB : J (fun d => A d ∨ d = p) (upd H p (.dK [])) := jj.big (jj.mon j (r.mon_new hn)) fun d hd => .inl hd
  refine run jB (rs.mon (r.mon_new (o := .dK []) hn)) rB hw fun ps h1 qs H1 ⟨kvs, ek, el, q⟩ rs1 m1 r1 pr => ?_
  have e1 : H1 p = some (.dK []) := (m1.hid p (.inr rfl)).trans upd_same
  obtain ⟨ws, rfl, kr⟩ := keys_pr pr ek
  have hf : h1 p = none := (r1.hid p (.inr rfl)).1
  have mA : Mon A H H1 := (r.mon_new hn).trans (m1.sub fun d hd => .inl hd)
  have mw : Mon A H1 (upd H1 p (.dK (mergeK [] ws))) := Ev.mon_write e1 (fun _ z => nomatch z) (fun _ _ z => nomatch z) np
  refine ⟨e1, ws, rfl, by rw [← kr_len kr]; exact el, q p hf (.ref p) _ (mA.trans mw) ⟨fun a o e => ?_, fun d hd => ?_⟩ (.ref p)⟩
  · by_cases ha : a = p
    · subst ha
      rw [mupd_same] at e; cases e
      exact ⟨_, upd_same, KR.mon mw (kr_merge kr .nil)⟩
    · rw [mupd_ne ha] at e
      exact (r1.obj a o e).mon mw (upd_ne ha)
  · rw [mupd_ne (np d hd)]
    obtain ⟨z1, o', z2⟩ := r1.hid d (.inl hd)
    exact ⟨z1, o', by rw [upd_ne (np d hd)]; exact z2⟩

/-! ### list(range(..)) -/
def rngL (i j : Int) : List PV := (List.range (j - i).toNat).map fun t => .int (i + (t : Nat))
theorem rngL_rep {K : Frag} {H : Hp} {i j : Int} : RepL K H (rngL i j) (rgV i j) := by
  unfold rngL rgV
  generalize List.range (j - i).toNat = l
  induction l with
  | nil => exact .nil
  | cons t l ih => exact .cons (.int _) ih
def wLr1 (m : Bool) (wa : WE) : WE := fun ρ h Q => wa ρ h fun x h1 => ∃ j, x = .int j ∧ RgOk 0 j ∧ allocL m (rngL 0 j) h1 Q
def wLr2 (m : Bool) (wa wb : WE) : WE := fun ρ h Q => wa ρ h fun x h1 => wb ρ h1 fun y h2 => ∃ i j, x = .int i ∧ y = .int j ∧ RgOk i j ∧ allocL m (rngL i j) h2 Q
theorem mono_lr1 {m : Bool} (ma : MonE wa) : MonE (wLr1 m wa) := fun ρ h P Q k hw => ma _ _ _ _ (fun x h1 ⟨j, e, o, z⟩ => ⟨j, e, o, allocL_mono k z⟩) hw
theorem mono_lr2 {m : Bool} (ma : MonE wa) (mb : MonE wb) : MonE (wLr2 m wa wb) := fun ρ h P Q k hw => ma _ _ _ _ (fun x h1 z => mb _ _ _ _ (fun y h2 ⟨i, j, e, e2, o, z⟩ => ⟨i, j, e, e2, o, allocL_mono k z⟩) z) hw
theorem s_lr1 {p p2 pos2 : Pos} (m : Match X c G gl k J ex) (f : Bool) (hg : Gl X "list") (hm : X.mg "list" = none) (hg2 : Gl X "range") (hm2 : X.mg "range" = none) (ha : PE X a (tE X.K J wa)) (ma : MonE wa) (he : starEach [a] X.env = (false, eval a X.env) :: starEach [] X.env) :
    PE X (.Call (.Name "list" p) [.Call (.Name "range" p2) [a] [] pos2] [] pos) (tE X.K J (wLr1 f wa)) := by
  have base := pe_fzm (pe_listRg (p := p) (pos := pos) m.calm hg hm (prg_1 (p := p2) (pos := pos2) hg2 hm2 ha he) rfl) f
  refine ⟨fun pins s σ H Q I ⟨A, ρ, h, j, rs, r, hw⟩ => base.run pins s σ H Q I ?_⟩
  refine tE_of m.jj j rs r ma hw fun x h1 v H1 ⟨n, e, ok, al⟩ j1 rs1 m1 r1 rv => ?_
  subst e
  cases rv
  exact ⟨n, rfl, ok, fun q hq => alloc_new r1 rngL_rep hq (allocL_mono (fun z h3 u => up.trans m1 u) al)⟩
theorem s_lr2 {p p2 pos2 : Pos} (m : Match X c G gl k J ex) (f : Bool) (hg : Gl X "list") (hm : X.mg "list" = none) (hg2 : Gl X "range") (hm2 : X.mg "range" = none) (ha : PE X a (tE X.K J wa)) (hb : PE X b (tE X.K J wb)) (ma : MonE wa) (mb : MonE wb) (he : starEach [a, b] X.env = (false, eval a X.env) :: starEach [b] X.env)
    (he2 : starEach [b] X.env = (false, eval b X.env) :: starEach [] X.env) (hpl : (backTo pos2 (starEach [b] X.env)).any (·.1) = false) :
    PE X (.Call (.Name "list" p) [.Call (.Name "range" p2) [a, b] [] pos2] [] pos) (tE X.K J (wLr2 f wa wb)) := by
  have base := pe_fzm (pe_listRg (p := p) (pos := pos) m.calm hg hm (prg_2 (p := p2) (pos := pos2) hg2 hm2 ha hb he he2 hpl) rfl) f
  refine ⟨fun pins s σ H Q I ⟨A, ρ, h, j, rs, r, hw⟩ => base.run pins s σ H Q I ?_⟩
  refine tE_of m.jj j rs r ma hw fun x h1 v H1 p1 j1 rs1 m1 r1 rv => ?_
  refine tE_of m.jj j1 rs1 r1 mb p1 fun y h2 u H2 ⟨i, n, e, e2, ok, al⟩ j2 rs2 m2 r2 ru => ?_
  subst e e2
  cases rv; cases ru
  exact ⟨i, n, rfl, rfl, ok, fun q hq => alloc_new r2 rngL_rep hq (allocL_mono (fun z h3 u => up.trans (m1.trans m2) u) al)⟩

/-! ### isinstance -/
inductive Ty where
  | int | bool | str | tuple | list
  deriving DecidableEq
def Ty.name : Ty → String
  | .int => "int" | .bool => "bool" | .str => "str" | .tuple => "tuple" | .list => "list"
/-- the class of a value (an instance's is told by the heap) -/
def clsP (h : MH) : PV → Option String
  | .non => some "NoneType"
  | .bl _ => some "bool"
  | .int _ => some "int"
  | .str _ => some "str"
  | .tup _ => some "tuple"
  | .tpl _ => some "tuple"
  | .lst _ => some "list"
  | .scr _ => some "list"
  | .ref p => match h p with
    | some (.lst _) => some "list"
    | some (.dK _) => some "dict"
    | some (.dT _) => some "dict"
    | _ => none
  | .ty _ => none
def isB (t : Ty) (n : String) : Bool := match t with
  | .int => n == "int" || n == "bool"
  | .bool => n == "bool" | .str => n == "str" | .tuple => n == "tuple" | .list => n == "list"
def opIsi (t : Ty) : O1 := fun x h Q => ∃ n, clsP h x = some n ∧ Q (.bl (isB t n)) h
theorem mono_isi (t : Ty) : Mon1 (opIsi t) := fun x h P Q k ⟨n, e, q⟩ => ⟨n, e, k _ _ q⟩
theorem tyx_of {K : Frag} {A : Addr → Prop} {H : Hp} {h : MH} {x : PV} {v : V} {n : String} (r : Rel K A H h) (rv : RepV K H x v) (e : clsP h x = some n) : TyX K H v (.type n) := by
  cases rv with
  | non => cases e; exact .base .non
  | bl b => cases e; exact .base (.bl b)
  | int b => cases e; exact .base (.int b)
  | str b => cases e; exact .base (.str b)
  | ty b => cases e
  | ref p =>
    simp only [clsP] at e
    split at e
    · rename_i xs q
      cases e
      obtain ⟨vs, z, _⟩ := r.obj _ _ q
      exact .base (.lst z)
    · rename_i xs q
      cases e
      obtain ⟨vs, z, _⟩ := r.obj _ _ q
      exact .base (.dK z)
    · rename_i xs q
      cases e
      obtain ⟨vs, z, _⟩ := r.obj _ _ q
      exact .base (.dT z)
    · cases e
  | tup s l =>
    cases e
    rcases s with (s | ⟨o, s⟩) | ⟨o, its, n, q, c, _⟩
    · exact .base (.tup s)
    · exact .fTuple s
    · exact .kTuple q c
  | tpl s l =>
    cases e
    obtain ⟨o, s, _⟩ := s
    exact .fTuple s
  | lst s l =>
    cases e
    obtain ⟨o, s⟩ := s
    exact .base (.frz s)
  | scr s l =>
    cases e
    rcases s with ⟨o, s⟩ | ⟨o, its, n, q, c, _⟩
    · exact .base (.frz s)
    · exact .kList q c
theorem kit_b {K : Frag} : ∀ (t : Ty) {h : MH} {x : PV} {n : String}, clsP h x = some n → PySem.W.kitOne K (.type n) (.type t.name) = some (isB t n) := by
  have key : ∀ (t : Ty) (n : String), n ∈ ["NoneType", "bool", "int", "str", "tuple", "list", "dict"] → PySem.W.kitOne K (.type n) (.type t.name) = some (isB t n) := by
    intro t n hn
    simp only [List.mem_cons, List.not_mem_nil, or_false] at hn
    cases t <;> rcases hn with rfl | rfl | rfl | rfl | rfl | rfl | rfl <;> first | rfl | decide +kernel
  intro t h x n e
  refine key t n ?_
  cases x <;> simp only [clsP] at e <;> first | (cases e; simp) | (split at e <;> cases e <;> simp) | cases e
theorem s_isi {p p2 : Pos} (m : Match X c G gl k J ex) (t : Ty) (hg : Gl X "isinstance") (hm : X.mg "isinstance" = none) (hg2 : Gl X (t.name : Str)) (hm2 : X.mg (t.name : Str) = none) (ha : PE X a (tE X.K J wa)) (ma : MonE wa)
    (he : starEach [a, .Name (t.name : Str) p2] X.env = (false, eval a X.env) :: starEach [.Name (t.name : Str) p2] X.env) : PE X (.Call (.Name "isinstance" p) [a, .Name (t.name : Str) p2] [] pos) (tE X.K J (w1 (opIsi t) wa)) := by
  have hT : PE X (.Name (t.name : Str) p2) (tC (.ty t.name)) := by
    cases t <;> exact pe_bltn hg2 hm2 (by decide +kernel) rfl
  have base := pe_callB (pos := pos) (p := p) (call_isi (X := X)) hg hm PyProof.Rows.boot_isinstance (pa_cons ha (pa_cons hT pa_nil) he) (by decide) (by decide) he rfl
  refine ⟨fun pins s σ H Q I ⟨A, ρ, h, j, rs, r, hw⟩ => base.run pins s σ H Q I ?_⟩
  refine tE_of m.jj j rs r ma hw fun x h1 v H1 ⟨n, e, q⟩ j1 rs1 m1 r1 rv => ?_
  exact ⟨v, .ty t.name, .type n, .type t.name, _, rfl, .ty _, tyx_of r1 rv e, kit_b t e, q _ H1 m1 r1 (.bl _)⟩

/-! ### more stores -/
def wPar3 (i j l : Nat) (wl : WA) : WS := fun ρ h D => wl ρ h fun xs h1 => ∃ x y z, xs = [x, y, z] ∧ D.nx (((ρ.set i (some x)).set j (some y)).set l (some z)) h1
theorem mono_par3 {i j l : Nat} (ml : MonA wl) : MonS (wPar3 i j l wl) := fun ρ h D D' le z => ml _ _ _ _ (fun xs h1 ⟨x, y, u, e, z⟩ => ⟨x, y, u, e, le.nx _ _ z⟩) z
theorem repL3 {K : Frag} {H : Hp} {x y z : PV} {xs : List V} (l : RepL K H [x, y, z] xs) : ∃ v w u, xs = [v, w, u] ∧ RepV K H x v ∧ RepV K H y w ∧ RepV K H z u := by
  cases l with
  | cons r t =>
    cases t with
    | cons r2 t2 =>
      cases t2 with
      | cons r3 t3 => cases t3; exact ⟨_, _, _, rfl, r, r2, r3⟩
theorem s_par3 {i j l : Nat} {x y z : Str} {px py pz pt pt2 : Pos} {kt k2 : Nat} (m : Match X c G gl k J ex) (hi : X.N[i]? = some x) (hj : X.N[j]? = some y) (hl : X.N[l]? = some z) (hij : i ≠ j) (hil : i ≠ l) (hjl : j ≠ l) (hx : X.env.scope.names.lookup x = some .local) (hy : X.env.scope.names.lookup y = some .local) (hz : X.env.scope.names.lookup z = some .local)
    (ha : PA X [a, b, d] (tA X.K J wl)) (ml : MonA wl) (hw : swappedStores [.Tuple [.Name x px, .Name y py, .Name z pz] kt pt] (.Tuple [a, b, d] k2 pt2) X.env = pure (some [x, y, z])) (hs : swapsWithSole [.Tuple [.Name x px, .Name y py, .Name z pz] kt pt] (.Tuple [a, b, d] k2 pt2) pos.line X.env = pure false) :
    PS X (.Assign [.Tuple [.Name x px, .Name y py, .Name z pz] kt pt] (.Tuple [a, b, d] k2 pt2) pos) (tS X.K J (wPar3 i j l wl)) := by
  refine ⟨fun pins s σ H D I ⟨A, ρ, h, jw, rs, r, hw'⟩ => (ps_par3 m.calm (m.N ▸ m.nd) hi hj hl hij hil hjl hx hy hz ha hw hs).run pins s σ H D I ?_⟩
  refine tA_of m.jj jw rs r ml hw' fun xs h1 vs H1 ⟨z1, u1, z2, e, p⟩ j1 rs1 m1 r1 rl => ?_
  subst e
  obtain ⟨v, w, u, rfl, rz, ru, rw'⟩ := repL3 rl
  exact ⟨v, w, u, rfl, p _ _ m1 (((rs1.set i rz).set j ru).set l rw') r1⟩
/-- o[i], target = value -/
def wSubp (wo wi : WE) (t : ST) (wv : WE) : WS := fun ρ h D => wv ρ h fun v h1 => ∃ x y, v = .tup [x, y] ∧ wo ρ h1 fun o h2 => wi ρ h2 fun i h3 => setOp o i x h3 fun h4 => ∃ ρ2, t.set y ρ = some ρ2 ∧ D.nx ρ2 h4
theorem mono_subp {wo wi wv : WE} {t : ST} (mo : MonE wo) (mi : MonE wi) (mv : MonE wv) : MonS (wSubp wo wi t wv) := fun ρ h D D' l z =>
  mv _ _ _ _ (fun v h1 ⟨x, y, e, z⟩ => ⟨x, y, e, mo _ _ _ _ (fun o h2 z => mi _ _ _ _ (fun i h3 z => mono_setOp (fun h4 ⟨ρ2, e, z⟩ => ⟨ρ2, e, l.nx _ _ z⟩) z) z) z⟩) z
theorem s_subp {wo wi wv : WE} {t : ST} {kt : Nat} {pt p2 : Pos} (m : Match X c G gl k J ex) (ho : PE X a (tE X.K J wo)) (hi : PE X b (tE X.K J wi)) (hv : PE X d (tE X.K J wv)) (mo : MonE wo) (mi : MonE wi) (mv : MonE wv) (hg : PG X tg (t.g X.K))
    (hs : swapsWithSole [.Tuple [.Subscript a b p2, tg] kt pt] d pos.line X.env = pure false) (hw : swappedStores [.Tuple [.Subscript a b p2, tg] kt pt] d X.env = pure none)
    (ht : assignEach [tg] X.env = [(false, assign tg X.env)])
    (hset : ∀ v, assign (.Subscript a b p2) X.env v = (do
      let ov ← holding [v] (eval a X.env)
      let iv ← holding [v, ov] (eval b X.env)
      standAt p2
      holding [v, ov, iv] (setItem ov iv v)
      release [v, ov, iv] [])) : PS X (.Assign [.Tuple [.Subscript a b p2, tg] kt pt] d pos) (tS X.K J (wSubp wo wi t wv)) := by
  have e2 : assignEach [.Subscript a b p2, tg] X.env = (false, assign (.Subscript a b p2) X.env) :: assignEach [tg] X.env := rfl
  have g2 : PGs X [.Subscript a b p2, tg] (gCons (gSub (tE X.K J wo) (tE X.K J wi) (lSet X.K)) (gCons (t.g X.K) gNil)) :=
    pgs_cons (pg_sub ho hi ok_set hset) (pgs_cons hg pgs_nil (by rw [ht]; rfl)) (by rw [e2]; rfl)
  have gt : PG X (.Tuple [.Subscript a b p2, tg] kt pt) (gTup X.K 2 (gCons (gSub (tE X.K J wo) (tE X.K J wi) (lSet X.K)) (gCons (t.g X.K) gNil))) :=
    pg_tup m.calm g2 (by rw [e2, ht]; rfl) (by rw [e2, ht]; rfl)
  refine ⟨fun pins s σ H D I ⟨A, ρ, h, j, rs, r, hw'⟩ => (ps_asg hv gt hs hw rfl).run pins s σ H D I ?_⟩
  refine tE_of m.jj j rs r mv hw' fun v h1 vv H1 ⟨x, y, e, p⟩ j1 rs1 m1 r1 rv => ?_
  subst e
  cases rv with
  | tup sq l =>
    obtain ⟨u, w, rfl, rx, ry⟩ := repL2 l
    refine ⟨_, _, rfl, sq, rfl, u, [w], rfl, ?_⟩
    show tE X.K J wo σ H1 fun o H2 => tE X.K J wi σ H2 fun i H3 => lSet X.K o i u H3 fun H4 => gCons (t.g X.K) gNil [w] σ H4 D.nx
    refine tE_of m.jj j1 rs1 r1 mo p fun o h2 ov H2 p2 j2 rs2 m2 r2 ro => ?_
    refine tE_of m.jj j2 rs2 r2 mi p2 fun i h3 iv H3 p3 j3 rs3 m3 r3 ri => ?_
    refine ⟨A, o, i, x, h3, r3, ro.mon m3, ri, rx.mon (m2.trans m3), mono_setOp (fun h4 ⟨ρ2, es, z⟩ H4 m4 r4 => ?_) p3⟩
    refine ⟨w, [], rfl, ST.set_ok t ((ry.mon (m2.trans m3)).mon m4) (rs3.mon m4) es fun σ' rs' _ => ⟨rfl, z _ _ (m1.trans (m2.trans (m3.trans m4))) rs' r4⟩⟩

/-! ### enumerate, zip -/
def enumP (xs : List PV) : List PV := (List.range xs.length).map fun i => .tup [.int (i : Nat), xs.getD i .non]
theorem enumP_len (xs : List PV) : (enumP xs).length = xs.length := by simp [enumP]
theorem enumP_get {xs : List PV} {i : Nat} (hi : i < xs.length) : (enumP xs)[i]? = some (.tup [.int (i : Nat), xs.getD i .non]) := by
  unfold enumP
  rw [List.getElem?_map, List.getElem?_range hi] <;> rfl
def wEnum (wa : WE) : WI := fun ρ h Q => wa ρ h fun x h1 => ∃ xs, asLstW h1 x = some xs ∧ Q ⟨enumP xs, keepOf x xs⟩ h1
theorem mono_enum (ma : MonE wa) : MonI (wEnum wa) := fun ρ h P Q k hw => ma _ _ _ _ (fun x h1 ⟨xs, e, q⟩ => ⟨xs, e, k _ _ q⟩) hw
theorem lst_later {K : Frag} {A : Addr → Prop} {H1 H : Hp} {h1 h : MH} {x : PV} {v : V} {xs : List PV} (r1 : Rel K A H1 h1) (rv : RepV K H1 x v) (e : asLstW h1 x = some xs) (m : Mon A H1 H) (r : Rel K A H h) (kp : keepOf x xs h) : ∃ a ws, v = .ref a ∧ SqL K H a ws ∧ RepL K H xs ws := by
  have hs : asSeq h1 x = some xs := by cases x <;> first | exact e | cases e
  obtain ⟨e2, rv2⟩ := seq_later r1 rv hs m r kp
  obtain ⟨q, ws, eq, hq, l⟩ := asSeq_sq r rv2 e2
  rcases hq with ⟨hq, _⟩ | ⟨_, rfl | rfl⟩
  · exact ⟨q, ws, eq, hq, l⟩
  · cases e
  · cases e
theorem ite_ok {K : Frag} {A : Addr → Prop} {H1 : Hp} {h1 : MH} {x : PV} {p : Addr} {xs : List PV} (r1 : Rel K A H1 h1) (rv : RepV K H1 x (.ref p)) (e : asLstW h1 x = some xs) : ItOk K A (Ite K p) ⟨enumP xs, keepOf x xs⟩ H1 := by
  have at_ : ∀ {H : Hp} {h : MH}, Mon A H1 H → Rel K A H h → keepOf x xs h → ∃ ws, SqL K H p ws ∧ RepL K H xs ws := by
    intro H h m r kp
    obtain ⟨a, ws, ea, hq, l⟩ := lst_later r1 rv e m r kp
    cases ea
    exact ⟨ws, hq, l⟩
  refine ⟨fun i H h hi m r kp => ?_, fun H h m r kp => ?_, fun i H h y H' hi m r kp yl => ?_⟩
  · obtain ⟨ws, hq, l⟩ := at_ m r kp
    have hi : i < xs.length := by rw [← enumP_len xs]; exact hi
    obtain ⟨w, e1, _⟩ := l.get (List.getElem?_eq_getElem hi)
    exact ⟨ws, w, hq, e1⟩
  · obtain ⟨ws, hq, l⟩ := at_ m r kp
    refine ⟨ws, hq, ?_⟩
    show ws.length ≤ (enumP xs).length
    rw [enumP_len, l.length]
    exact Nat.le_refl _
  · obtain ⟨ws, hq, l⟩ := at_ m r kp
    have hi : i < xs.length := by rw [← enumP_len xs]; exact hi
    obtain ⟨T, z, rfl, hT, rfl, yl⟩ := yl
    obtain ⟨u, e1, rz⟩ := l.get' (yl ws hq)
    refine ⟨_, enumP_get hi, ?_, .inr ⟨T, _, hT, rfl⟩⟩
    have eu : xs.getD i .non = u := by rw [List.getD_eq_getElem?_getD, e1] <;> rfl
    rw [eu]
    have mn : Mon A H (upd H T (.tup [.int (i : Nat), z])) := r.mon_new hT
    exact .tup (.inl (.of upd_same)) (.cons (.int _) (.cons (rz.mon mn) .nil))
theorem s_enum {p tpos : Pos} {elts : List Expr} {kk : Nat} (jj : JOk J) (hg : Gl X "enumerate") (hm : X.mg "enumerate" = none) (ha : PE X a (tE X.K J wa)) (ma : MonE wa) (he : starEach [a] X.env = [(false, eval a X.env)]) : PI X (.Tuple elts kk tpos) (.Call (.Name "enumerate" p) [a] [] pos) (tI X.K J (wEnum wa)) := by
  have pa : PA X [a] (tCons (tE X.K J wa) tNil) := pa_cons ha pa_nil (by rw [he]; rfl)
  refine ⟨fun pins s σ H R I ⟨A, ρ, h, j, rs, r, hw⟩ => (pi_enum (p := p) (pos := pos) hg hm pa he).run pins s σ H R I ?_⟩
  refine tE_of jj j rs r ma hw fun x h1 v H1 ⟨xs, e, q⟩ j1 rs1 m1 r1 rv => ?_
  obtain ⟨l, vs, rfl, hq, rl⟩ := asLstW_sq r1 rv e
  exact ⟨l, vs, rfl, hq, q _ H1 m1 r1 (ite_ok r1 rv e)⟩
def zipP (xs ys : List PV) : List PV := (List.range (min xs.length ys.length)).map fun i => .tup [xs.getD i .non, ys.getD i .non]
theorem zipP_len (xs ys : List PV) : (zipP xs ys).length = min xs.length ys.length := by simp [zipP]
theorem zipP_get {xs ys : List PV} {i : Nat} (hi : i < min xs.length ys.length) : (zipP xs ys)[i]? = some (.tup [xs.getD i .non, ys.getD i .non]) := by
  unfold zipP
  rw [List.getElem?_map, List.getElem?_range hi] <;> rfl
def wZip (wa wb : WE) : WI := fun ρ h Q => wa ρ h fun x h1 => wb ρ h1 fun y h2 => ∃ xs ys, ((asLstW h2 x = some xs ∧ asLstW h2 y = some ys) ∨ (x = .tup xs ∧ y = .tup ys)) ∧ Q ⟨zipP xs ys, fun h => keepOf x xs h ∧ keepOf y ys h⟩ h2
theorem mono_zip (ma : MonE wa) (mb : MonE wb) : MonI (wZip wa wb) := fun ρ h P Q k hw => ma _ _ _ _ (fun x h1 z => mb _ _ _ _ (fun y h2 ⟨xs, ys, e, q⟩ => ⟨xs, ys, e, k _ _ q⟩) z) hw
theorem itz_ok {K : Frag} {A : Addr → Prop} {H1 : Hp} {h1 : MH} {x y : PV} {p q : Addr} {xs ys : List PV} (r1 : Rel K A H1 h1) (rv : RepV K H1 x (.ref p)) (ru : RepV K H1 y (.ref q)) (e : asLstW h1 x = some xs) (e2 : asLstW h1 y = some ys) : ItOk K A (Itz K p q) ⟨zipP xs ys, fun h => keepOf x xs h ∧ keepOf y ys h⟩ H1 := by
  have at_ : ∀ {H : Hp} {h : MH}, Mon A H1 H → Rel K A H h → (keepOf x xs h ∧ keepOf y ys h) → ∃ ws us, SqL K H p ws ∧ RepL K H xs ws ∧ SqL K H q us ∧ RepL K H ys us := by
    intro H h m r kp
    obtain ⟨a, ws, ea, hq, l⟩ := lst_later r1 rv e m r kp.1
    cases ea
    obtain ⟨b, us, eb, hq2, l2⟩ := lst_later r1 ru e2 m r kp.2
    cases eb
    exact ⟨ws, us, hq, l, hq2, l2⟩
  refine ⟨fun i H h hi m r kp => ?_, fun H h m r kp => ?_, fun i H h z H' hi m r kp yl => ?_⟩
  · obtain ⟨ws, us, hq, l, hq2, l2⟩ := at_ m r kp
    have hi : i < min xs.length ys.length := by rw [← zipP_len xs ys]; exact hi
    obtain ⟨w, e1, _⟩ := l.get (List.getElem?_eq_getElem (show i < xs.length by omega))
    obtain ⟨u, e2, _⟩ := l2.get (List.getElem?_eq_getElem (show i < ys.length by omega))
    exact ⟨ws, us, w, u, hq, hq2, e1, e2⟩
  · obtain ⟨ws, us, hq, l, hq2, l2⟩ := at_ m r kp
    refine ⟨ws, us, hq, hq2, ?_⟩
    show ws.length ≤ (zipP xs ys).length ∨ us.length ≤ (zipP xs ys).length
    rw [zipP_len, ← l.length, ← l2.length]
    omega
  · obtain ⟨ws, us, hq, l, hq2, l2⟩ := at_ m r kp
    have hi : i < min xs.length ys.length := by rw [← zipP_len xs ys]; exact hi
    obtain ⟨T, w, u, rfl, hT, rfl, yl, yl2⟩ := yl
    obtain ⟨a, e1, ra⟩ := l.get' (yl ws hq)
    obtain ⟨b, e2, rb⟩ := l2.get' (yl2 us hq2)
    refine ⟨_, zipP_get hi, ?_, .inr ⟨T, _, hT, rfl⟩⟩
    have ea : xs.getD i .non = a := by rw [List.getD_eq_getElem?_getD, e1] <;> rfl
    have eb : ys.getD i .non = b := by rw [List.getD_eq_getElem?_getD, e2] <;> rfl
    rw [ea, eb]
    have mn : Mon A H (upd H T (.tup [w, u])) := r.mon_new hT
    exact .tup (.inl (.of upd_same)) (.cons (ra.mon mn) (.cons (rb.mon mn) .nil))
theorem itzt_ok {K : Frag} {A : Addr → Prop} {H1 : Hp} {p q : Addr} {xs ys : List PV} {kp : MH → Prop} (rv : RepV K H1 (.tup xs) (.ref p)) (ru : RepV K H1 (.tup ys) (.ref q)) : ItOk K A (RZ.ItzT K p q) ⟨zipP xs ys, kp⟩ H1 := by
  have at_ : ∀ {H : Hp}, Mon A H1 H → ∃ ws us, SqT K H p ws ∧ RepL K H xs ws ∧ SqT K H q us ∧ RepL K H ys us := by
    intro H m
    cases rv.mon m with
    | tup s l =>
      cases ru.mon m with
      | tup s2 l2 => exact ⟨_, _, s, l, s2, l2⟩
  refine ⟨fun i H h hi m r kp => ?_, fun H h m r kp => ?_, fun i H h z H' hi m r kp yl => ?_⟩
  · obtain ⟨ws, us, hq, l, hq2, l2⟩ := at_ m
    have hi : i < min xs.length ys.length := by rw [← zipP_len xs ys]; exact hi
    obtain ⟨w, e1, _⟩ := l.get (List.getElem?_eq_getElem (show i < xs.length by omega))
    obtain ⟨u, e2, _⟩ := l2.get (List.getElem?_eq_getElem (show i < ys.length by omega))
    exact ⟨ws, us, w, u, hq, hq2, e1, e2⟩
  · obtain ⟨ws, us, hq, l, hq2, l2⟩ := at_ m
    refine ⟨ws, us, hq, hq2, ?_⟩
    show ws.length ≤ (zipP xs ys).length ∨ us.length ≤ (zipP xs ys).length
    rw [zipP_len, ← l.length, ← l2.length]
    omega
  · obtain ⟨ws, us, hq, l, hq2, l2⟩ := at_ m
    have hi : i < min xs.length ys.length := by rw [← zipP_len xs ys]; exact hi
    obtain ⟨T, w, u, rfl, hT, rfl, yl, yl2⟩ := yl
    obtain ⟨a, e1, ra⟩ := l.get' (yl ws hq)
    obtain ⟨b, e2, rb⟩ := l2.get' (yl2 us hq2)
    refine ⟨_, zipP_get hi, ?_, .inr ⟨T, _, hT, rfl⟩⟩
    have ea : xs.getD i .non = a := by rw [List.getD_eq_getElem?_getD, e1] <;> rfl
    have eb : ys.getD i .non = b := by rw [List.getD_eq_getElem?_getD, e2] <;> rfl
    rw [ea, eb]
    have mn : Mon A H (upd H T (.tup [w, u])) := r.mon_new hT
    exact .tup (.inl (.of upd_same)) (.cons (ra.mon mn) (.cons (rb.mon mn) .nil))
theorem s_zip {p tpos : Pos} {elts : List Expr} {kk : Nat} (jj : JOk J) (hg : Gl X "zip") (hm : X.mg "zip" = none) (ha : PE X a (tE X.K J wa)) (hb : PE X b (tE X.K J wb)) (ma : MonE wa) (mb : MonE wb) (he : starEach [a, b] X.env = (false, eval a X.env) :: starEach [b] X.env)
    (he2 : starEach [b] X.env = (false, eval b X.env) :: starEach [] X.env) (hpl : (backTo pos (starEach [b] X.env)).any (·.1) = false) : PI X (.Tuple elts kk tpos) (.Call (.Name "zip" p) [a, b] [] pos) (tI X.K J (wZip wa wb)) := by
  have pa : PA X [a, b] (tCons (tE X.K J wa) (tCons (tE X.K J wb) tNil)) := pa_cons ha (pa_cons hb pa_nil he2) he
  refine ⟨fun pins s σ H R I ⟨A, ρ, h, j, rs, r, hw⟩ => (RZ.pi_zipA (p := p) (pos := pos) hg hm pa he hpl).run pins s σ H R I ?_⟩
  refine tE_of jj j rs r ma hw fun x h1 v H1 p1 j1 rs1 m1 r1 rv => ?_
  refine tE_of jj j1 rs1 r1 mb p1 fun y h2 u H2 ⟨xs, ys, e, q⟩ j2 rs2 m2 r2 ru => ?_
  rcases e with ⟨e1, e2⟩ | ⟨rfl, rfl⟩
  · obtain ⟨l, vs, rfl, hq, rl⟩ := asLstW_sq r2 (rv.mon m2) e1
    obtain ⟨l2, us, rfl, hq2, rl2⟩ := asLstW_sq r2 ru e2
    exact ⟨l, l2, vs, us, rfl, .inl ⟨hq, hq2, q _ H2 (m1.trans m2) r2 (itz_ok r2 (rv.mon m2) ru e1 e2)⟩⟩
  · have rv2 := rv.mon m2
    cases rv2 with
    | tup s1 l1 =>
      cases ru with
      | tup s2 l2 =>
        exact ⟨_, _, _, _, rfl, .inr ⟨s1, s2, q _ H2 (m1.trans m2) r2 (itzt_ok (.tup s1 l1) (.tup s2 l2))⟩⟩
end
end Ev

set_option Elab.async false
set_option linter.all false
set_option maxRecDepth 100000
set_option maxHeartbeats 4000000
/-! EvB: tuple.index from a place on. -/
namespace Ev.TI
open PySem PySem.SeqAt
open AutoSeq1 (wpAny_loadPart')
open MeetsSeq MeetsSeq2 MeetsSeq3 SeqRoads2
/-- for i in [a:n] by its list of numbers -/
theorem forIn_rngA {β : Type} {M : Model} {A : Around} {E : Value → Shared → Prop} {s : Shared} {a n : Nat} {hp : 0 < 1} (f : Nat → β → Sem (ForInStep β)) (I : List Nat → β → Shared → Prop) (Q : β → Shared → Prop)
    (turn : ∀ x rest b s, I (x :: rest) b s → wpAny M A (f x b) (fun r s' => match r with
      | .yield b' => I rest b' s'
      | .done b' => Q b' s') E s)
    (fin : ∀ b s, I [] b s → Q b s) (b : β) (h : I (List.range' a (n - a)) b s) : wpAny M A (forIn ({ start := a, stop := n, step := 1, step_pos := hp } : Std.Legacy.Range) b f) Q E s := by
  rw [Std.Legacy.Range.forIn_eq_forIn_range']
  simp only [Std.Legacy.Range.size, Nat.add_sub_cancel, Nat.div_one]
  exact wpAny_forIn_list f I Q turn fin _ b h
theorem tuple_indexFrom (l : Addr) (items : Array Value) (n : Nat) (dd : Option Addr) (sl : Array (Option Value)) (x : Value) (e : Value → Bool) (lo j : Nat) (t : Tok) (hj : j < items.size) (hlo : lo ≤ j)
    (hit : e items[j] = true) (hno : ∀ m (hm : m < items.size), lo ≤ m → m < j → e items[m] = false) :
    Meets (Builtin.«tuple.index» ⟨[.ref l, x, .int lo t], []⟩)
      (fun A R s => s.heap.get? l = some { cls := .type "tuple", dict := dd, data := .seq items n, slots := sl } ∧ (∀ y, y ∈ items → EqAt A.in1 s y x (e y)) ∧ R (.ok (.ret (.int j s.toks))) { s with toks := s.toks + 1 }) :=
  .of_wp fun prog w A R s h => by
    obtain ⟨hp, g, d, tk, os⟩ := s; obtain ⟨hl, he, h⟩ := h
    wp_walk using wpAny_loadPart' hl
    rw [AutoSeq1.idx_int]
    wp_walk using forIn_rngA _ (fun rest b s' => b.1 = none ∧ s' = ⟨hp, g, d, tk, os⟩ ∧ ∃ i, rest = List.range' i (items.size - i) ∧ lo ≤ i ∧ i ≤ j) _
    case turn =>
      rintro y rest b s' ⟨hb', rfl, i, hr, h1, h2⟩
      have hlt : i < items.size := by omega
      have e1 : items.size - i = (items.size - (i + 1)) + 1 := by omega
      rw [e1, List.range'_succ] at hr
      obtain ⟨rfl, hrest⟩ := List.cons.inj hr
      rw [Array.getElem?_eq_getElem hlt]
      refine wpAny_bind (he _ (Array.getElem_mem hlt) prog w _ _ ?_)
      by_cases hji : y = j
      · subst hji
        rw [hit]
        wp_walk
        exact ⟨_, rfl, h⟩
      · rw [hno y hlt h1 (by omega)]
        wp_walk
        exact ⟨rfl, rfl, y + 1, hrest, by omega, by omega⟩
    case fin =>
      rintro b s' ⟨hb', rfl, i, hr, h1, h2⟩
      exfalso
      have e1 : items.size - i = (items.size - (i + 1)) + 1 := by omega
      rw [e1, List.range'_succ] at hr
      cases hr
    case h =>
      have e1 : (max (if (lo : Int) < 0 then (lo : Int) + items.size else lo) 0).toNat = lo := by
        rw [if_neg (by omega)]
        omega
      refine ⟨rfl, rfl, lo, ?_, Nat.le_refl _, hlo⟩
      rw [e1, Nat.min_self]
end Ev.TI
namespace Ev
open PySem PySem.Spec PyProof.Rows L2
section
variable {X : Cx} {c : Cfg} {G : Ctx} {gl : Str → PV} {k : Nat} {J : Jw} {ex : Env → XV} {a b : Expr} {wa wb : WE} {pos : Pos}
/-- t.index(x, lo): the first place from lo on, ints -/
theorem mt_tixI : MtR X "tuple.index" (fun x xs H Q => ∃ (p : Addr) (ns : List Int) (z : Int) (lo j : Nat), x = .ref p ∧ xs = [.int z, .int lo] ∧ SqT X.K H p (ns.map V.int) ∧ lo ≤ j ∧ ns[j]? = some z ∧ (∀ m, lo ≤ m → m < j → ns[m]? ≠ some z) ∧ Q (.int (j : Nat)) H) := by
  intro pins s σ H x xs v us Q I rx rs h
  obtain ⟨p, ns, z, lo, j, rfl, rfl, hq, hlo, hz, hno, q⟩ := h
  cases rx
  obtain ⟨u, u2, rfl, ⟨t, rfl⟩, ⟨t2, rfl⟩⟩ := vals2 rs
  obtain ⟨its, r, pl, hsz⟩ := I.tuple hq
  obtain ⟨⟨cls, dd, dt, sl⟩, ho, hc, n, hd⟩ := pl
  simp only at hc hd
  subst hc
  subst hd
  have hl : its.toArray.size = ns.length := by rw [List.size_toArray, ← r.length, List.length_map]
  have hj : j < its.toArray.size := by rw [hl]; exact (List.getElem?_eq_some_iff.mp hz).1
  have read : ∀ (m : Nat) (hm : m < its.toArray.size), ∃ y t', ns[m]? = some y ∧ its.toArray[m] = Value.int y t' := fun m hm => by
    have hm' : m < ns.length := by rw [← hl]; exact hm
    obtain ⟨w, hw, t', hw'⟩ := r.get (i := m) (x := .int ns[m]) (by simp [hm'])
    refine ⟨ns[m], t', List.getElem?_eq_getElem hm', ?_⟩
    have e := (List.getElem?_eq_some_iff.mp hw).2
    rw [← hw', ← e]
    simp
  have flat : (ns.map V.int).all flatV = true := by
    rw [List.all_map]
    exact List.all_eq_true.mpr fun _ _ => rfl
  refine call_meets PySem.F.slot_tuple_index ⟨_, ho, rfl⟩ PySem.F.entry_tuple_index (PySem.F.args_tuple_index_3 _ _ _) (TI.tuple_indexFrom p its.toArray n dd sl (.int z t) (eqU (.int z)) lo j t2 hj hlo ?_ ?_)
    ⟨ho, fun w hw => mem_eqAt (x := .int z) ⟨t, rfl⟩ rfl r flat w (by simpa using hw), ⟨.int (j : Nat), H, I.tok _, ⟨_, rfl⟩, q⟩⟩
  · obtain ⟨y, t', h1, h2⟩ := read j hj
    rw [hz] at h1
    cases h1
    rw [h2]
    show (z == z) = true
    exact beq_self_eq_true z
  · intro m hm hm1 hm2
    obtain ⟨y, t', h1, h2⟩ := read m hm
    rw [h2]
    show (y == z) = false
    exact beq_eq_false_iff_ne.mpr fun e => hno m hm1 hm2 (e ▸ h1)
/-- the first place of z from lo on -/
def opTix (lo : Nat) : O2 := fun x y h Q => ∃ (ns : List Int) (z : Int) (j : Nat), x = .tpl (ns.map .int) ∧ y = .int z ∧ lo ≤ j ∧ ns[j]? = some z ∧ (∀ m, lo ≤ m → m < j → ns[m]? ≠ some z) ∧ Q (.int (j : Nat)) h
theorem mono_opTix (lo : Nat) : Mon2 (opTix lo) := fun x y h P Q k ⟨ns, z, j, e1, e2, h1, h2, h3, q⟩ => ⟨ns, z, j, e1, e2, h1, h2, h3, k _ _ q⟩
def isTupP : PV → Prop
  | .tpl _ => True
  | _ => False
def wTix (lo : Nat) (wa wb : WE) : WE := fun ρ h Q => wa ρ h fun x h1 => isTupP x ∧ wb ρ h1 fun y h2 => opTix lo x y h2 Q
theorem mono_tix {lo : Nat} (ma : MonE wa) (mb : MonE wb) : MonE (wTix lo wa wb) := fun ρ h P Q k hw => ma _ _ _ _ (fun x h1 ⟨e, z⟩ => ⟨e, mb _ _ _ _ (fun y h2 z => mono_opTix lo _ _ _ _ _ k z) z⟩) hw
theorem s_tix {apos cp : Pos} {kk : Nat} (m : Match X c G gl k J ex) (lo : Nat) (ha : PE X a (tE X.K J wa)) (hb : PE X b (tE X.K J wb)) (ma : MonE wa) (mb : MonE wb) (hbase : attributeBase a "index" X.env (eval a X.env) = eval a X.env)
    (he : starEach [b, .Constant (.int lo) kk cp] X.env = (false, eval b X.env) :: starEach [.Constant (.int lo) kk cp] X.env) (hline : (apos.endLine == pos.line) = true) :
    PE X (.Call (.Attribute a "index" apos) [b, .Constant (.int lo) kk cp] [] pos) (tE X.K J (wTix lo wa wb)) := by
  have pc : PE X (.Constant (.int lo) kk cp) (tC (.int lo)) := pe_int
  have pa : PA X [b, .Constant (.int lo) kk cp] (tCons (tE X.K J wb) (tCons (tC (.int lo)) tNil)) := pa_cons hb (pa_cons pc pa_nil) he
  have hfew : ((backTo pos (starEach [b, .Constant (.int lo) kk cp] X.env)).all (fun x => !x.1) && (backToKw pos (keywordEach [] X.env)).all (fun x => x.1.isSome) && decide ([b, .Constant (.int lo) kk cp].length + ([] : List Keyword).length + (if ([] : List Keyword).isEmpty then 0 else 1) < 30)) = true := by
    rw [he]; rfl
  refine ⟨fun pins s σ H Q I ⟨A, ρ, h, j, rs, r, hw⟩ => ?_⟩
  have ta : tE X.K J wa σ H fun v H1 => ∃ (p : Addr) (vs : List V), v = .ref p ∧ TpD H1 p vs ∧ tCons (tE X.K J wb) (tCons (tC (.int lo)) tNil) σ H1 fun us H2 => ∃ (ns : List Int) (z : Int) (j : Nat), us = [.int z, .int lo] ∧ SqT X.K H2 p (ns.map V.int) ∧ lo ≤ j ∧ ns[j]? = some z ∧ (∀ m, lo ≤ m → m < j → ns[m]? ≠ some z) ∧ Q (.int (j : Nat)) H2 := by
    refine tE_of m.jj j rs r ma hw fun x h1 v H1 ⟨it, p⟩ j1 rs1 m1 r1 rv => ?_
    unfold isTupP at it
    split at it
    · cases rv with
      | tpl sq l =>
        refine ⟨_, _, rfl, sq, ?_⟩
        show tE X.K J wb σ H1 fun y H2 => _
        refine tE_of m.jj j1 rs1 r1 mb p fun y h2 u H2 ⟨ns, z, n, e1, e2, c1, c2, c3, q⟩ j2 rs2 m2 r2 ru => ?_
        subst e2
        cases ru
        cases e1
        have el := (l.mon m2).map_int
        subst el
        exact ⟨ns, z, n, rfl, m2.sqT sq.sq, c1, c2, c3, q _ H2 (m1.trans m2) r2 (.int _)⟩
    · exact it.elim
  refine wpAny_Call_method_late hbase hfew hline rfl (thn (ha.run pins s σ H _ I ta) fun v s1 ⟨x, H1, I1, r1, p, vs, ex, ⟨od, hod, odd⟩, q1⟩ => ?_)
  subst ex
  cases r1
  obtain ⟨ho, _, _, _, ob, ho', hc, _⟩ := I1.hok p _ hod
  rw [ho] at ho'
  cases ho'
  refine ⟨"tuple", "tuple.index", PySem.F.plainAttrs_tuple, PySem.F.slot_tuple_index, PySem.F.type_tuple_index, ⟨od, ho, hc⟩, fun a e => by cases e; exact ⟨od, ho, odd⟩, ?_⟩
  · have hA := pa.run pos pins s1 σ H1 _ I1 q1
    rw [he] at hA ⊢
    refine Calls.callWith_builtin rfl (Calls.evalArgs_plain ?_)
    exact thn hA fun us s2 ⟨vs2, H2, I2, r2, ns, z, n, e1, sq2, c1, c2, c3, q⟩ => mt_tixI pins s2 σ H2 (.ref p) vs2 (.ref p) us Q I2 rfl r2 ⟨p, ns, z, lo, n, rfl, e1, sq2, c1, c2, c3, q⟩
end
end Ev

set_option Elab.async false
set_option linter.all false
set_option maxRecDepth 100000
set_option maxHeartbeats 4000000
/-! Ev10: the syntax of our own; what it asks (wp); that a text is so spelt (chk). -/
namespace Ev
open PySem PySem.Spec PyProof.Rows L2
mutual
inductive E where
  | var (i : Nat) | int (i : Int) | bl (b : Bool) | non | str (x : Str) | glob (x : Str)
  | tup (es : Es) | lst (m : Bool) (es : Es)
  | neg (a : E) | not (a : E) | and (a b : E) | or (a b : E) | ite (t : B) (a b : E)
  | bin (m : Bool) (op : BOp) (a b : E) | cmp (op : COp) (a b : E) | chain (op op' : COp) (a b d : E)
  | ix (a b : E) | sl (m : Bool) (a : E) (lo hi : O)
  | bi (m : Bool) (b : Bi) (es : Es) | fn (f : Str) (es : Es)
  | app (a b : E) | ext (a b : E) | pop (a : E)
  | comp (m : Bool) (own : List (Str × Nat)) (t : ST) (it : W) (cond : B) (elt : E)
  | frz (a : E)
  | fnk (f : Str) (ks : List Str) (perm : List Nat) (es : Es)
  | dix (a b : E) | dnew | disp (ps : Ps) | lr1 (m : Bool) (a : E) | lr2 (m : Bool) (a b : E) | isi (a : E) (t : Ty) | tix (lo : Nat) (a b : E)
inductive Ps where
  | nil | cons (a b : E) (ps : Ps)
inductive Es where
  | nil | cons (e : E) (es : Es)
inductive B where
  | val (a : E) | and (a b : B) | or (a b : B) | not (a : B) | tt
inductive O where
  | omit | part (a : E)
inductive W where
  | seq (a : E) | rng1 (a : E) | rng2 (a b : E) | rng3 (a b d : E) | enum (a : E) | zip (a b : E)
end
mutual
inductive S where
  | expr (a : E) | set (i : Nat) (a : E) | unp (t : ST) (a : E) | par (i j : Nat) (a b : E) | sub (o i v : E) | ret (a : E)
  | ifs (t : B) (x y : Ss) | for_ (t : ST) (it : W) (b : Ss) | while_ (t : B) (b : Ss) | brk | cont | pass
  | par3 (i j l : Nat) (a b d : E) | subp (o i : E) (t : ST) (v : E) | dput (o i v : E)
inductive Ss where
  | nil | cons (s : S) (ss : Ss)
end
def Es.len : Es → Nat
  | .nil => 0
  | .cons _ es => es.len + 1

section
variable (G : Ctx) (gl : Str → PV)
mutual
def wpE : (ex : Env → XV) → E → WE
  | _, .var i => wVar i
  | _, .int i => wCst (.int i)
  | _, .bl b => wCst (.bl b)
  | _, .non => wCst .non
  | _, .str x => wCst (.str x)
  | _, .glob x => wCst (gl x)
  | ex, .tup es => wTup (wpEs ex es)
  | ex, .lst m es => wLst m (wpEs ex es)
  | ex, .neg a => w1 opNeg (wpE ex a)
  | ex, .not a => w1 opNot (wpE ex a)
  | ex, .and a b => wAnd (wpE ex a) (wpE ex b)
  | ex, .or a b => wOr (wpE ex a) (wpE ex b)
  | ex, .ite t a b => wIte (wpB ex t) (wpE ex a) (wpE ex b)
  | ex, .bin m op a b => w2 (binOp m op) (wpE ex a) (wpE ex b)
  | ex, .cmp op a b => w2 (cmpOp op) (wpE ex a) (wpE ex b)
  | ex, .chain op op' a b d => wChain (cmpOp op) (cmpOp op') (wpE ex a) (wpE ex b) (wpE ex d)
  | ex, .ix a b => w2 opIx (wpE ex a) (wpE ex b)
  | ex, .sl m a lo hi => wSl m (wpE ex a) (wpO ex lo) (wpO ex hi)
  | ex, .bi m b es => wL (biOp m b) (wpEs ex es)
  | ex, .fn f es => wFn (G.fn f) ex (wpEs ex es)
  | ex, .app a b => wMe .append (wpE ex a) (wCons (wpE ex b) wNil)
  | ex, .ext a b => wMe .extend (wpE ex a) (wCons (wpE ex b) wNil)
  | ex, .pop a => wMe0 .pop (wpE ex a)
  | ex, .comp m own t it cond elt => wComp m (own.map (·.2)) (wpW ex it) t (wpB (fun _ => noX) cond) (wpE (fun _ => noX) elt)
  | ex, .frz a => wFrz (wpE ex a)
  | ex, .fnk f _ perm es => wFnK (G.fn f) ex perm (wpEs ex es)
  | ex, .dix a b => w2 opDix (wpE ex a) (wpE ex b)
  | _, .dnew => wDnew
  | ex, .disp ps => wDisp (wpPs ex ps)
  | ex, .lr1 m a => wLr1 m (wpE ex a)
  | ex, .lr2 m a b => wLr2 m (wpE ex a) (wpE ex b)
  | ex, .isi a t => w1 (opIsi t) (wpE ex a)
  | ex, .tix lo a b => wTix lo (wpE ex a) (wpE ex b)
def wpPs : (ex : Env → XV) → Ps → WP
  | _, .nil => wPnil
  | ex, .cons a b ps => wPcons (wpE ex a) (wpE ex b) (wpPs ex ps)
def wpEs : (ex : Env → XV) → Es → WA
  | _, .nil => wNil
  | ex, .cons e es => wCons (wpE ex e) (wpEs ex es)
def wpB : (ex : Env → XV) → B → WT
  | ex, .val a => wVal (wpE ex a)
  | ex, .and a b => wAndT (wpB ex a) (wpB ex b)
  | ex, .or a b => wOrT (wpB ex a) (wpB ex b)
  | ex, .not a => wNotT (wpB ex a)
  | _, .tt => fun _ h Q => Q true h
def wpO : (ex : Env → XV) → O → WO
  | _, .omit => wOmit
  | ex, .part a => wPart (wpE ex a)
def wpW : (ex : Env → XV) → W → WI
  | ex, .seq a => wSeq (wpE ex a)
  | ex, .rng1 a => wRng1 (wCons (wpE ex a) wNil)
  | ex, .rng2 a b => wRng2 (wCons (wpE ex a) (wCons (wpE ex b) wNil))
  | ex, .rng3 a b d => wRng3 (wCons (wpE ex a) (wCons (wpE ex b) (wCons (wpE ex d) wNil)))
  | ex, .enum a => wEnum (wpE ex a)
  | ex, .zip a b => wZip (wpE ex a) (wpE ex b)
end
mutual
def wpS : (ex : Env → XV) → S → WS
  | ex, .expr a => wExpr (wpE G gl ex a)
  | ex, .set i a => wSet i (wpE G gl ex a)
  | ex, .unp t a => wUnp t (wpE G gl ex a)
  | ex, .par i j a b => wPar i j (wCons (wpE G gl ex a) (wCons (wpE G gl ex b) wNil))
  | ex, .sub o i v => wSub (wpE G gl ex o) (wpE G gl ex i) (wpE G gl ex v)
  | ex, .ret a => wRet (wpE G gl ex a)
  | ex, .ifs t x y => wIf (wpB G gl ex t) (wpSs ex x) (wpSs ex y)
  | ex, .for_ t it b => wFor (wpW G gl ex it) t (wpSs ex b)
  | ex, .while_ t b => wWhile (wpB G gl ex t) (wpSs ex b)
  | _, .brk => wBk
  | _, .cont => wCt
  | _, .pass => wNx
  | ex, .par3 i j l a b d => wPar3 i j l (wCons (wpE G gl ex a) (wCons (wpE G gl ex b) (wCons (wpE G gl ex d) wNil)))
  | ex, .subp o i t v => wSubp (wpE G gl ex o) (wpE G gl ex i) t (wpE G gl ex v)
  | ex, .dput o i v => wDput (wpE G gl ex o) (wpE G gl ex i) (wpE G gl ex v)
def wpSs : (ex : Env → XV) → Ss → WS
  | _, .nil => wNx
  | ex, .cons s ss => wSq (wpS ex s) (wpSs ex ss)
end
end

theorem mono_var (i : Nat) : MonE (wVar i) := fun _ _ _ _ k ⟨x, e, q⟩ => ⟨x, e, k _ _ q⟩
theorem mono_cst (v : PV) : MonE (wCst v) := fun _ _ _ _ k q => k _ _ q
section
variable {G : Ctx} {gl : Str → PV}
mutual
theorem monE : ∀ (ex : Env → XV) (e : E), MonE (wpE G gl ex e)
  | _, .var i => mono_var i
  | _, .int i => mono_cst _
  | _, .bl b => mono_cst _
  | _, .non => mono_cst _
  | _, .str x => mono_cst _
  | _, .glob x => mono_cst _
  | ex, .tup es => mono_tup (monEs ex es)
  | ex, .lst m es => mono_lst m (monEs ex es)
  | ex, .neg a => mono_w1 mono_opNeg (monE ex a)
  | ex, .not a => mono_w1 mono_opNot (monE ex a)
  | ex, .and a b => mono_and (monE ex a) (monE ex b)
  | ex, .or a b => mono_or (monE ex a) (monE ex b)
  | ex, .ite t a b => mono_ite (monB ex t) (monE ex a) (monE ex b)
  | ex, .bin m op a b => mono_w2 (mono_bin m op) (monE ex a) (monE ex b)
  | ex, .cmp op a b => mono_w2 (mono_cmp op) (monE ex a) (monE ex b)
  | ex, .chain op op' a b d => mono_chain (mono_cmp op) (mono_cmp op') (monE ex a) (monE ex b) (monE ex d)
  | ex, .ix a b => mono_w2 mono_opIx (monE ex a) (monE ex b)
  | ex, .sl m a lo hi => mono_sl m (monE ex a) (monO ex lo) (monO ex hi)
  | ex, .bi m b es => mono_wL (mono_bi m b) (monEs ex es)
  | ex, .fn f es => mono_fn (G.mono f) (monEs ex es)
  | ex, .app a b => mono_wMe (monE ex a) (mono_cons (monE ex b) mono_nil)
  | ex, .ext a b => mono_wMe (monE ex a) (mono_cons (monE ex b) mono_nil)
  | ex, .pop a => mono_wMe0 (monE ex a)
  | ex, .comp m own t it cond elt => mono_comp (monW ex it)
  | ex, .frz a => mono_frz (monE ex a)
  | ex, .fnk f _ perm es => mono_fnK (G.mono f) (monEs ex es)
  | ex, .dix a b => mono_w2 mono_opDix (monE ex a) (monE ex b)
  | _, .dnew => mono_dnew
  | ex, .disp ps => mono_disp (monPs ex ps)
  | ex, .lr1 m a => mono_lr1 (monE ex a)
  | ex, .lr2 m a b => mono_lr2 (monE ex a) (monE ex b)
  | ex, .isi a t => mono_w1 (mono_isi t) (monE ex a)
  | ex, .tix lo a b => mono_tix (monE ex a) (monE ex b)
theorem monPs : ∀ (ex : Env → XV) (ps : Ps), MonP (wpPs G gl ex ps)
  | _, .nil => mono_pnil
  | ex, .cons a b ps => mono_pcons (monE ex a) (monE ex b) (monPs ex ps)
theorem monEs : ∀ (ex : Env → XV) (es : Es), MonA (wpEs G gl ex es)
  | _, .nil => mono_nil
  | ex, .cons e es => mono_cons (monE ex e) (monEs ex es)
theorem monB : ∀ (ex : Env → XV) (b : B), MonT (wpB G gl ex b)
  | ex, .val a => mono_val (monE ex a)
  | ex, .and a b => mono_andT (monB ex a) (monB ex b)
  | ex, .or a b => mono_orT (monB ex a) (monB ex b)
  | ex, .not a => mono_notT (monB ex a)
  | _, .tt => fun _ _ _ _ k q => k _ _ q
theorem monO : ∀ (ex : Env → XV) (o : O), MonO (wpO G gl ex o)
  | _, .omit => mono_omit
  | ex, .part a => mono_part (monE ex a)
theorem monW : ∀ (ex : Env → XV) (w : W), MonI (wpW G gl ex w)
  | ex, .seq a => mono_seq (monE ex a)
  | ex, .rng1 a => mono_rng1 (mono_cons (monE ex a) mono_nil)
  | ex, .rng2 a b => mono_rng2 (mono_cons (monE ex a) (mono_cons (monE ex b) mono_nil))
  | ex, .rng3 a b d => mono_rng3 (mono_cons (monE ex a) (mono_cons (monE ex b) (mono_cons (monE ex d) mono_nil)))
  | ex, .enum a => mono_enum (monE ex a)
  | ex, .zip a b => mono_zip (monE ex a) (monE ex b)
end
mutual
theorem monS : ∀ (ex : Env → XV) (s : S), MonS (wpS G gl ex s)
  | ex, .expr a => mono_expr (monE ex a)
  | ex, .set i a => mono_set (monE ex a)
  | ex, .unp t a => mono_unp (monE ex a)
  | ex, .par i j a b => mono_par (mono_cons (monE ex a) (mono_cons (monE ex b) mono_nil))
  | ex, .sub o i v => mono_wSub (monE ex o) (monE ex i) (monE ex v)
  | ex, .ret a => mono_ret (monE ex a)
  | ex, .ifs t x y => mono_if (monB ex t) (monSs ex x) (monSs ex y)
  | ex, .for_ t it b => mono_for (monW ex it) (monSs ex b)
  | ex, .while_ t b => mono_while (monB ex t) (monSs ex b)
  | _, .brk => mono_bk
  | _, .cont => mono_ct
  | _, .pass => mono_nx
  | ex, .par3 i j l a b d => mono_par3 (mono_cons (monE ex a) (mono_cons (monE ex b) (mono_cons (monE ex d) mono_nil)))
  | ex, .subp o i t v => mono_subp (monE ex o) (monE ex i) (monE ex v)
  | ex, .dput o i v => mono_wDput (monE ex o) (monE ex i) (monE ex v)
theorem monSs : ∀ (ex : Env → XV) (ss : Ss), MonS (wpSs G gl ex ss)
  | _, .nil => mono_nx
  | ex, .cons s ss => mono_sq (monS ex s) (monSs ex ss)
end
theorem lenEs : ∀ (ex : Env → XV) (es : Es) {ρ : Env} {h : MH} {Q : LK}, wpEs G gl ex es ρ h Q → wpEs G gl ex es ρ h fun xs h1 => xs.length = es.len ∧ Q xs h1
  | _, .nil, _, _, _, q => ⟨rfl, q⟩
  | ex, .cons e es, ρ, h, Q, q => monE ex e _ _ _ _ (fun x h1 z => monEs ex es _ _ _ _ (fun xs h2 ⟨l, z⟩ => ⟨by simp [Es.len, l], z⟩) (lenEs ex es z)) q
end

/-! ### that a text is so spelt -/
def isLoc : Option NameKind → Bool
  | some .local => true
  | _ => false
def visC (c : Cfg) (x : Str) : Bool := (match c.sc.names.lookup x with
  | some .local => true
  | some .cell => true
  | some .free => true
  | _ => false) && !(x == ("__debug__" : Str)) && !(x == ("__classdict__" : Str))
def glbC (c : Cfg) (x : Str) : Bool := (match c.sc.names.lookup x with
  | some .globalImplicit => true
  | _ => false) && !(x == ("__debug__" : Str))
def locC (c : Cfg) (x : Str) : Bool := match c.sc.names.lookup x with
  | some .local => true
  | some .cell => c.fnb x
  | _ => false
def noSl : Expr → Bool
  | .Slice .. => false
  | _ => true
def noComp : Expr → Bool
  | .ListComp .. => false
  | .SetComp .. => false
  | .DictComp .. => false
  | _ => true
/-- its truth is asked plainly -/
def plainT : Expr → Bool
  | .UnaryOp .Not _ _ => false
  | .BoolOp .. => false
  | .IfExp .. => false
  | .Compare .. => false
  | _ => true
def plainO : Expr → Bool
  | .Call (.Name _ _) [] [] _ => false
  | _ => true
mutual
def chkT (c : Cfg) : ST → Expr → Bool
  | .name i, a => match a with
    | .Name x _ => decide (c.N[i]? = some x) && locC c x
    | _ => false
  | .tup ts, a => match a with
    | .Tuple es _ _ => chkTs c ts es
    | _ => false
def chkTs (c : Cfg) : STs → List Expr → Bool
  | .nil, es => es.isEmpty
  | .cons t ts, es => match es with
    | e :: es => chkT c t e && chkTs c ts es
    | [] => false
end
/-- what is walked wants a tuple as its target -/
def tupW : W → Expr → Bool
  | .enum _, .Tuple .. => true
  | .zip .., .Tuple .. => true
  | .enum _, _ => false
  | .zip .., _ => false
  | _, _ => true
def kwEs : List Keyword → List Expr
  | [] => []
  | ⟨_, e, _⟩ :: r => e :: kwEs r
def kwNs : List Keyword → List Str
  | [] => []
  | ⟨some n, _, _⟩ :: r => n :: kwNs r
  | ⟨none, _, _⟩ :: r => kwNs r
mutual
def chkE : Cfg → E → Expr → Bool
  | c, .var i, a => match a with
    | .Name x _ => decide (c.N[i]? = some x) && visC c x
    | _ => false
  | _, .int i, a => match a with
    | .Constant (.int j) _ _ => decide (i = j)
    | _ => false
  | _, .bl b, a => match a with
    | .Constant (.bool j) _ _ => b == j
    | _ => false
  | _, .non, a => match a with
    | .Constant .none _ _ => true
    | _ => false
  | _, .str x, a => match a with
    | .Constant (.str y) _ _ => decide (x = y)
    | _ => false
  | c, .glob x, a => match a with
    | .Name y _ => decide (x = y) && glbC c x && c.cst.contains x
    | _ => false
  | c, .tup es, a => match a with
    | .Tuple as _ _ => chkEs c es as
    | _ => false
  | c, .lst _ es, a => match a with
    | .List as _ => chkEs c es as
    | _ => false
  | c, .neg e, a => match a with
    | .UnaryOp .USub x _ => chkE c e x
    | _ => false
  | c, .not e, a => match a with
    | .UnaryOp .Not x _ => chkE c e x
    | _ => false
  | c, .and e f, a => match a with
    | .BoolOp .And (x :: y :: r) pos => chkE c e x && (match r with
      | [] => chkE c f y
      | _ :: _ => chkE c f (.BoolOp .And (y :: r) pos))
    | _ => false
  | c, .or e f, a => match a with
    | .BoolOp .Or (x :: y :: r) pos => chkE c e x && (match r with
      | [] => chkE c f y
      | _ :: _ => chkE c f (.BoolOp .Or (y :: r) pos))
    | _ => false
  | c, .ite t e f, a => match a with
    | .IfExp x y z _ => chkB c t x && chkE c e y && chkE c f z
    | _ => false
  | c, .bin _ op e f, a => match a with
    | .BinOp x o y _ => decide (op.op = o) && chkE c e x && chkE c f y
    | _ => false
  | c, .cmp op e f, a => match a with
    | .Compare x [o] [y] _ => decide (op.op = o) && chkE c e x && chkE c f y
    | _ => false
  | c, .chain op op' e f g, a => match a with
    | .Compare x [o, o'] [y, z] _ => decide (op.op = o) && decide (op'.op = o') && chkE c e x && chkE c f y && chkE c g z
    | _ => false
  | c, .ix e f, a => match a with
    | .Subscript x y _ => noSl y && chkE c e x && chkE c f y
    | _ => false
  | c, .sl _ e lo hi, a => match a with
    | .Subscript x (.Slice l u none _) _ => chkE c e x && chkO c lo l && chkO c hi u
    | _ => false
  | c, .bi _ b es, a => match a with
    | .Call (.Name x _) (y :: ys) [] _ => decide (x = b.name) && glbC c x && c.free.contains x && chkEs c es (y :: ys)
    | _ => false
  | c, .fn f es, a => match a with
    | .Call (.Name x _) (y :: ys) [] _ => decide (x = f) && glbC c x && c.fns.any (fun p => decide (p.1 = f) && decide (p.2.length = es.len)) && chkEs c es (y :: ys)
    | _ => false
  | c, .app e f, a => match a with
    | .Call (.Attribute o n p1) [y] [] p2 => decide (n = "append") && plainO o && (p1.endLine == p2.line) && chkE c e o && chkE c f y
    | _ => false
  | c, .ext e f, a => match a with
    | .Call (.Attribute o n p1) [y] [] p2 => decide (n = "extend") && plainO o && (p1.endLine == p2.line) && chkE c e o && chkE c f y
    | _ => false
  | c, .tix lo e f, a => match a with
    | .Call (.Attribute o n p1) [y, .Constant (.int k) _ _] [] p2 => decide (k = (lo : Int)) && (decide (n = "index") && plainO o && (p1.endLine == p2.line) && chkE c e o && chkE c f y)
    | _ => false
  | c, .pop e, a => match a with
    | .Call (.Attribute o n p1) [] [] p2 => decide (n = "pop") && plainO o && (p1.endLine == p2.line) && chkE c e o
    | _ => false
  | c, .comp _ own t it cond elt, a => match a with
    | .ListComp x [⟨tg, iter, ifs, as⟩] scope _ => decide (as = 0) && (chkW c it iter && tupW it tg) && blkC c.N c.sc scope own && t.slots.all (fun i => (own.map (·.2)).contains i) && chkT (c.blk scope) t tg &&
        (match ifs with
          | [] => (match cond with
            | .tt => true
            | _ => false)
          | [y] => chkB (c.blk scope) cond y
          | _ => false) && chkE (c.blk scope) elt x
    | _ => false
  | c, .frz e, a => chkE c e a
  | c, .fnk f ks perm es, a => match a with
    | .Call (.Name x _) [] (kw :: kws) _ => decide (x = f) && glbC c x && c.kws.any (fun p => decide (p.1 = f) && decide (p.2.1 = ks) && decide (p.2.2 = perm)) && decide (kwNs (kw :: kws) = ks) && decide ((kw :: kws).length = ks.length) && (kw :: kws).all (fun z => z.arg.isSome) && chkEs c es (kwEs (kw :: kws))
    | _ => false
  | c, .dix e f, a => match a with
    | .Subscript x y _ => noSl y && chkE c e x && chkE c f y
    | _ => false
  | _, .dnew, a => match a with
    | .Dict [] [] _ => true
    | _ => false
  | c, .disp ps, a => match a with
    | .Dict ks vs _ => !ks.isEmpty && decide (ks.length ≤ 15) && decide (ks.length = vs.length) && ks.all (·.isSome) && chkPs c ps ks vs
    | _ => false
  | c, .lr1 _ e, a => match a with
    | .Call (.Name x _) [.Call (.Name z _) [y] [] _] [] _ => decide (x = "list") && decide (z = "range") && glbC c x && glbC c z && c.free.contains x && c.free.contains z && chkE c e y
    | _ => false
  | c, .lr2 _ e f, a => match a with
    | .Call (.Name x _) [.Call (.Name z _) [y, u] [] _] [] _ => decide (x = "list") && decide (z = "range") && glbC c x && glbC c z && c.free.contains x && c.free.contains z && chkE c e y && chkE c f u
    | _ => false
  | c, .isi e t, a => match a with
    | .Call (.Name x _) [y, .Name z _] [] _ => decide (x = "isinstance") && decide (z = (t.name : Str)) && glbC c x && glbC c z && c.free.contains x && c.free.contains z && chkE c e y
    | _ => false
def chkPs : Cfg → Ps → List (Option Expr) → List Expr → Bool
  | _, .nil, ks, vs => ks.isEmpty && vs.isEmpty
  | c, .cons e f ps, ks, vs => match ks, vs with
    | some k :: ks, v :: vs => chkE c e k && chkE c f v && chkPs c ps ks vs
    | _, _ => false
def chkEs : Cfg → Es → List Expr → Bool
  | _, .nil, as => as.isEmpty
  | c, .cons e es, as => match as with
    | a :: as => chkE c e a && chkEs c es as
    | [] => false
def chkB : Cfg → B → Expr → Bool
  | c, .val e, a => chkE c e a && (plainT a || (match e with
    | .cmp .. => true
    | .chain .. => true
    | _ => false))
  | c, .and e f, a => match a with
    | .BoolOp .And (x :: y :: r) pos => chkB c e x && (match r with
      | [] => chkB c f y
      | _ :: _ => chkB c f (.BoolOp .And (y :: r) pos))
    | _ => false
  | c, .or e f, a => match a with
    | .BoolOp .Or (x :: y :: r) pos => chkB c e x && (match r with
      | [] => chkB c f y
      | _ :: _ => chkB c f (.BoolOp .Or (y :: r) pos))
    | _ => false
  | c, .not e, a => match a with
    | .UnaryOp .Not x _ => chkB c e x
    | _ => false
  | _, .tt, _ => false
def chkO : Cfg → O → Option Expr → Bool
  | _, .omit, a => a.isNone
  | c, .part e, a => match a with
    | some x => chkE c e x
    | none => false
def chkW : Cfg → W → Expr → Bool
  | c, .seq e, a => chkE c e a
  | c, .rng1 e, a => match a with
    | .Call (.Name x _) [y] [] _ => decide (x = "range") && glbC c x && c.free.contains x && chkE c e y
    | _ => false
  | c, .rng2 e f, a => match a with
    | .Call (.Name x _) [y, z] [] _ => decide (x = "range") && glbC c x && c.free.contains x && chkE c e y && chkE c f z
    | _ => false
  | c, .rng3 e f g, a => match a with
    | .Call (.Name x _) [y, z, u] [] _ => decide (x = "range") && glbC c x && c.free.contains x && chkE c e y && chkE c f z && chkE c g u
    | _ => false
  | c, .enum e, a => match a with
    | .Call (.Name x _) [y] [] _ => decide (x = "enumerate") && glbC c x && c.free.contains x && chkE c e y
    | _ => false
  | c, .zip e f, a => match a with
    | .Call (.Name x _) [y, z] [] _ => decide (x = "zip") && glbC c x && c.free.contains x && chkE c e y && chkE c f z
    | _ => false
end
end Ev

set_option Elab.async false
set_option linter.all false
set_option maxRecDepth 100000
set_option maxHeartbeats 4000000
/-! Ev11: a text that is so spelt does what wp asks. -/
namespace Ev
open PySem PySem.Spec PyProof.Rows L2
theorem band {a b : Bool} (h : (a && b) = true) : a = true ∧ b = true := Bool.and_eq_true_iff.mp h
theorem visC_ok {c : Cfg} {x : Str} (h : visC c x = true) : Vis c.sc x ∧ (x == ("__debug__" : Str)) = false ∧ (x == ("__classdict__" : Str)) = false := by
  unfold visC at h
  obtain ⟨h12, h3⟩ := band h
  obtain ⟨h1, h2⟩ := band h12
  refine ⟨?_, by simpa using h2, by simpa using h3⟩
  split at h1
  · exact .inl (by assumption)
  · exact .inr (.inl (by assumption))
  · exact .inr (.inr (by assumption))
  · cases h1
theorem glbC_ok {c : Cfg} {x : Str} (h : glbC c x = true) : c.sc.names.lookup x = some .globalImplicit ∧ (x == ("__debug__" : Str)) = false := by
  unfold glbC at h
  obtain ⟨h1, h2⟩ := band h
  refine ⟨?_, by simpa using h2⟩
  split at h1
  · assumption
  · cases h1
theorem locC_ok {c : Cfg} {x : Str} (h : locC c x = true) : Loc c.sc x ∧ (c.fnb x = true ∨ c.sc.names.lookup x = some .local) := by
  unfold locC at h
  split at h
  · rename_i e; exact ⟨.inl e, .inr e⟩
  · rename_i e; exact ⟨.inr e, .inl h⟩
  · cases h
theorem noSl_ok {b : Expr} (h : noSl b = true) : PlainIx b := by
  intro o i
  cases b <;> first | rfl | cases h
theorem noSl_nosl {b : Expr} (h : noSl b = true) : NoSl b := by
  intro o i
  cases b <;> first | rfl | cases h
theorem noComp_ok {a : Expr} {t : Option Expr} {l : Nat} {env : PySem.Env} (h : noComp a = true) : swapsWith a t l env = pure false := by
  cases a <;> first | rfl | cases h
theorem plainT_ok {a : Expr} {env : PySem.Env} (h : plainT a = true) (whole : Sem Value) : isTrue a env whole = (do let v ← whole; standAt a.pos; holding [v] (truthy v)) := by
  cases a with
  | UnaryOp op x p => cases op <;> first | rfl | cases h
  | BoolOp => cases h
  | IfExp => cases h
  | Compare => cases h
  | _ => rfl
theorem plainO_ok {o : Expr} {n : Str} {env : PySem.Env} (h : plainO o = true) : attributeBase o n env (eval o env) = eval o env := by
  cases o with
  | Call f as kws p =>
    cases f <;> first
      | rfl
      | (cases as <;> first
          | rfl
          | (cases kws <;> first
              | rfl
              | cases h))
  | _ => rfl
/-- a spelt expression is no star, no set display -/
def plainA : Expr → Bool
  | .Starred .. => false
  | .Set .. => false
  | _ => true
theorem plainA_star {a : Expr} {as : List Expr} {env : PySem.Env} (h : plainA a = true) : starEach (a :: as) env = (false, eval a env) :: starEach as env := by
  cases a <;> first | rfl | cases h
theorem plainA_set {a : Expr} {env : PySem.Env} (h : plainA a = true) (x : Value) : foldedSetIterable a env x = pure x := by
  cases a <;> first | rfl | cases h
theorem plainA_mark {a : Expr} {op : CmpOp} (h : plainA a = true) : behindInMarks op a = false := by
  cases a <;> first | rfl | cases h
theorem chk_plainA (c : Cfg) : ∀ (e : E) (a : Expr), chkE c e a = true → plainA a = true
  | .frz e, a, h => chk_plainA c e a (by simpa [chkE] using h)
  | .var i, a, h => by cases a <;> first | rfl | simp [chkE] at h
  | .int i, a, h => by cases a <;> first | rfl | simp [chkE] at h
  | .bl i, a, h => by cases a <;> first | rfl | simp [chkE] at h
  | .non, a, h => by cases a <;> first | rfl | simp [chkE] at h
  | .str i, a, h => by cases a <;> first | rfl | simp [chkE] at h
  | .glob i, a, h => by cases a <;> first | rfl | simp [chkE] at h
  | .tup es, a, h => by cases a <;> first | rfl | simp [chkE] at h
  | .lst m es, a, h => by cases a <;> first | rfl | simp [chkE] at h
  | .neg es, a, h => by cases a <;> first | rfl | simp [chkE] at h
  | .not es, a, h => by cases a <;> first | rfl | simp [chkE] at h
  | .and e f, a, h => by cases a <;> first | rfl | simp [chkE] at h
  | .or e f, a, h => by cases a <;> first | rfl | simp [chkE] at h
  | .ite t e f, a, h => by cases a <;> first | rfl | simp [chkE] at h
  | .bin m op e f, a, h => by cases a <;> first | rfl | simp [chkE] at h
  | .cmp op e f, a, h => by cases a <;> first | rfl | simp [chkE] at h
  | .chain op op' e f g, a, h => by cases a <;> first | rfl | simp [chkE] at h
  | .ix e f, a, h => by cases a <;> first | rfl | simp [chkE] at h
  | .sl m e lo hi, a, h => by cases a <;> first | rfl | simp [chkE] at h
  | .bi m b es, a, h => by cases a <;> first | rfl | simp [chkE] at h
  | .fn f es, a, h => by cases a <;> first | rfl | simp [chkE] at h
  | .app e f, a, h => by cases a <;> first | rfl | simp [chkE] at h
  | .ext e f, a, h => by cases a <;> first | rfl | simp [chkE] at h
  | .pop e, a, h => by cases a <;> first | rfl | simp [chkE] at h
  | .tix lo e f, a, h => by cases a <;> first | rfl | simp [chkE] at h
  | .comp m own t it cond elt, a, h => by cases a <;> first | rfl | simp [chkE] at h
  | .fnk f ks p es, a, h => by cases a <;> first | rfl | simp [chkE] at h
  | .dix e f, a, h => by cases a <;> first | rfl | simp [chkE] at h
  | .dnew, a, h => by cases a <;> first | rfl | simp [chkE] at h
  | .disp ps, a, h => by cases a <;> first | rfl | simp [chkE] at h
  | .lr1 m e, a, h => by cases a <;> first | rfl | simp [chkE] at h
  | .lr2 m e f, a, h => by cases a <;> first | rfl | simp [chkE] at h
  | .isi e t, a, h => by cases a <;> first | rfl | simp [chkE] at h
theorem chk_plainAs (c : Cfg) : ∀ (es : Es) (as : List Expr), chkEs c es as = true → as.all plainA = true
  | .nil, as, h => by cases as <;> first | rfl | simp [chkEs] at h
  | .cons e es, as, h => by
    cases as with
    | nil => rfl
    | cons a as =>
      simp only [chkEs] at h
      obtain ⟨h1, h2⟩ := band h
      simp only [List.all_cons, chk_plainA c e a h1, chk_plainAs c es as h2, Bool.and_self]
theorem plainAs_any {env : PySem.Env} {pos : Pos} : ∀ {as : List Expr}, as.all plainA = true → (backTo pos (starEach as env)).any (·.1) = false := by
  intro as h
  have e : (backTo pos (starEach as env)).any (·.1) = (starEach as env).any (·.1) := by
    unfold backTo
    simp [List.any_map, Function.comp_def]
  rw [e]
  induction as with
  | nil => rfl
  | cons a as ih =>
    simp only [List.all_cons] at h
    obtain ⟨h1, h2⟩ := band h
    rw [plainA_star h1, List.any_cons, ih h2 (by unfold backTo; simp [List.any_map, Function.comp_def])]
    rfl
theorem plainA_few {b : Expr} {env : PySem.Env} {pos : Pos} (h : plainA b = true) :
    ((backTo pos (starEach [b] env)).all (fun x => !x.1) && (backToKw pos (keywordEach [] env)).all (fun x => x.1.isSome) && decide ([b].length + ([] : List Keyword).length + (if ([] : List Keyword).isEmpty then 0 else 1) < 30)) = true := by
  rw [plainA_star h]
  rfl

theorem chk_len (c : Cfg) : ∀ (es : Es) (as : List Expr), chkEs c es as = true → as.length = es.len
  | .nil, as, h => by
    cases as with
    | nil => rfl
    | cons => simp [chkEs] at h
  | .cons e es, as, h => by
    cases as with
    | nil => simp [chkEs] at h
    | cons a as =>
      simp only [chkEs] at h
      rw [List.length_cons, chk_len c es as (band h).2]
      rfl
theorem kwEs_len : ∀ kws : List Keyword, (kwEs kws).length = kws.length
  | [] => rfl
  | ⟨_, _, _⟩ :: r => by simp [kwEs, kwEs_len r]
theorem kw_all {env : PySem.Env} {pos : Pos} : ∀ {kws : List Keyword}, kws.all (fun z => z.arg.isSome) = true → (backToKw pos (keywordEach kws env)).all (·.1.isSome) = true ∧ (backToKw pos (keywordEach kws env)).any (·.1.isNone) = false ∧ (backToKw pos (keywordEach kws env)).filterMap (·.1) = kwNs kws
  | [], _ => ⟨rfl, rfl, rfl⟩
  | ⟨none, e, p⟩ :: r, h => by cases (show false = true from h)
  | ⟨some n, e, p⟩ :: r, h => by
    obtain ⟨h1, h2, h3⟩ := kw_all (env := env) (pos := pos) (kws := r) (by simpa using h)
    have e1 : backToKw pos (keywordEach (⟨some n, e, p⟩ :: r) env) = (some n, do let v ← eval e env; standAt pos; pure v) :: backToKw pos (keywordEach r env) := rfl
    rw [e1]
    exact ⟨by simp only [List.all_cons, h1]; rfl, by simp only [List.any_cons, h2]; rfl, by simp only [List.filterMap_cons, h3]; rfl⟩
section
variable {X : Cx} {c : Cfg} {G : Ctx} {gl : Str → PV} {k : Nat} {J : Jw} {ex : Env → XV}
mutual
theorem okT (m : Match X c G gl k J ex) : ∀ (t : ST) (a : Expr), chkT c t a = true → PG X a (t.g X.K)
  | .name i, a, h => by
    cases a with
    | Name x p =>
      simp only [chkT] at h
      obtain ⟨h1, h2⟩ := band h
      obtain ⟨l1, l2⟩ := locC_ok h2
      simp only [ST.g]
      exact pg_name (m.N ▸ m.nd) (m.N ▸ of_decide_eq_true h1) (m.sc ▸ l1) (by rw [m.fnb, m.sc]; exact l2)
    | _ => simp [chkT] at h
  | .tup ts, a, h => by
    cases a with
    | Tuple es n p =>
      simp only [chkT] at h
      simp only [ST.g]
      obtain ⟨g, hl, hst, _⟩ := okTs m ts es h
      exact pg_tup m.calm g hl hst
    | _ => simp [chkT] at h
theorem okTs (m : Match X c G gl k J ex) : ∀ (ts : STs) (as : List Expr), chkTs c ts as = true → PGs X as (ts.g X.K) ∧ (assignEach as X.env).length = ts.len ∧ (assignEach as X.env).findIdx? (·.1) = none ∧ (assignEach as X.env).map (·.2) = as.map fun a => assign a X.env
  | .nil, as, h => by
    cases as with
    | nil => exact ⟨pgs_nil, rfl, rfl, rfl⟩
    | cons => simp [chkTs] at h
  | .cons t ts, as, h => by
    cases as with
    | nil => simp [chkTs] at h
    | cons a as =>
      simp only [chkTs] at h
      obtain ⟨h1, h2⟩ := band h
      obtain ⟨g2, l2, s2, e2⟩ := okTs m ts as h2
      have g1 := okT m t a h1
      have ea : assignEach (a :: as) X.env = (false, assign a X.env) :: assignEach as X.env := by
        cases a <;> first | rfl | (cases t <;> simp [chkT] at h1)
      refine ⟨?_, ?_, ?_, ?_⟩
      · simp only [STs.g]
        exact pgs_cons g1 g2 (by rw [ea]; rfl)
      · rw [ea, List.length_cons, l2]; rfl
      · rw [ea, List.findIdx?_cons]
        simp [s2]
      · rw [ea, List.map_cons, List.map_cons, e2]
end
theorem fns_of {c : Cfg} {f : Str} {n : Nat} (h : c.fns.any (fun p => decide (p.1 = f) && decide (p.2.length = n)) = true) : ∃ ps, (f, ps) ∈ c.fns ∧ ps.length = n := by
  obtain ⟨p, hp, e⟩ := List.any_eq_true.mp h
  obtain ⟨e1, e2⟩ := band e
  have e1 := of_decide_eq_true e1
  subst e1
  exact ⟨p.2, hp, of_decide_eq_true e2⟩
theorem yes_tests : PTs X [] (tT X.K J (wpB G gl ex .tt)) :=
  ⟨fun pins s σ H Q I ⟨A, ρ, h, j, rs, r, q⟩ => pts_nil.run pins s σ H Q I (q H .refl r)⟩
end
theorem okComp {G : Ctx} {gl : Str → PV} {k : Nat} (f : Bool) (own : List (Str × Nat)) (t : ST) (it : W) (cond : B) (elt : E) {X : Cx} {c : Cfg} {J : Jw} {ex : Env → XV} (m : Match X c G gl k J ex) (x tg iter : Expr) (ifs : List Expr) (as : Int) (scope : Scope) (p : Pos)
    (okE' : ∀ {X : Cx} {c : Cfg} {J : Jw} {ex : Env → XV} (m : Match X c G gl k J ex) (a : Expr), chkE c elt a = true → PE X a (tE X.K J (wpE G gl ex elt)))
    (okB' : ∀ {X : Cx} {c : Cfg} {J : Jw} {ex : Env → XV} (m : Match X c G gl k J ex) (a : Expr), chkB c cond a = true → PT X a (tT X.K J (wpB G gl ex cond)))
    (okW' : ∀ {X : Cx} {c : Cfg} {J : Jw} {ex : Env → XV} (m : Match X c G gl k J ex) (tg a : Expr), chkW c it a = true → tupW it tg = true → PI X tg a (tI X.K J (wpW G gl ex it)) ∧ ∀ x, foldedSetIterable a X.env x = pure x)
    (h : chkE c (.comp f own t it cond elt) (.ListComp x [⟨tg, iter, ifs, as⟩] scope p) = true) : as = 0 ∧ PI X tg iter (tI X.K J (wpW G gl ex it)) ∧ BlkOk X.N X.env.scope scope own ∧ (∀ i ∈ t.slots, i ∈ own.map (·.2)) ∧
      (∀ (s : Shared) (H : Hp) (C : Addr) (cl : List (Str × Addr)) (fp : List Addr), PG (X.blk s H scope (compEnvC scope cl C X.env) fp) tg (t.g X.K)) ∧
      (∀ (s : Shared) (H : Hp) (C : Addr) (cl : List (Str × Addr)) (fp : List Addr), PTs (X.blk s H scope (compEnvC scope cl C X.env) fp) ifs (tT X.K J0 (wpB G gl (fun _ => noX) cond))) ∧
      (∀ (s : Shared) (H : Hp) (C : Addr) (cl : List (Str × Addr)) (fp : List Addr), PE (X.blk s H scope (compEnvC scope cl C X.env) fp) x (tE X.K J0 (wpE G gl (fun _ => noX) elt))) ∧
      (∀ x, foldedSetIterable iter X.env x = pure x) ∧ scope.kind = .function := by
  simp only [chkE] at h
  obtain ⟨h123456, h7⟩ := band h
  obtain ⟨h12345, h6⟩ := band h123456
  obtain ⟨h1234, h5⟩ := band h12345
  obtain ⟨h123, h4⟩ := band h1234
  obtain ⟨h12, h3⟩ := band h123
  obtain ⟨h1, h2⟩ := band h12
  have ok := blkOk_by h3
  have mb := fun (s : Shared) (H : Hp) (C : Addr) (cl : List (Str × Addr)) (fp : List Addr) => m.blk scope ok.kind s H C cl fp
  refine ⟨of_decide_eq_true h1, (okW' m tg iter (band h2).1 (band h2).2).1, by rw [m.N, m.sc]; exact ok, fun i hi => ?_, fun s H C cl fp => okT (mb s H C cl fp) t tg h5, fun s H C cl fp => ?_, fun s H C cl fp => okE' (mb s H C cl fp) x h7, (okW' m tg iter (band h2).1 (band h2).2).2, ok.kind⟩
  · have := List.all_eq_true.mp h4 i hi
    exact List.contains_iff_mem.mp this
  · match ifs, cond, h6 with
    | [], .tt, _ => exact yes_tests
    | [], .val _, h6 => simp at h6
    | [], .and _ _, h6 => simp at h6
    | [], .or _ _, h6 => simp at h6
    | [], .not _, h6 => simp at h6
    | [y], cond, h6 => exact pts_one (okB' (mb s H C cl fp) y h6)
    | _ :: _ :: _, cond, h6 => simp at h6
mutual
theorem okE {G : Ctx} {gl : Str → PV} {k : Nat} : ∀ (e : E) {X : Cx} {c : Cfg} {J : Jw} {ex : Env → XV} (m : Match X c G gl k J ex) (a : Expr), chkE c e a = true → PE X a (tE X.K J (wpE G gl ex e))
  | .var i, X, c, J, ex, m, a, h => by
    cases a with
    | Name x p =>
      simp only [chkE] at h
      obtain ⟨h1, h2⟩ := band h
      obtain ⟨v1, v2, v3⟩ := visC_ok h2
      exact s_var (m.N ▸ of_decide_eq_true h1) (m.sc ▸ v1) v2 v3
    | _ => simp [chkE] at h
  | .int i, X, c, J, ex, m, a, h => by
    cases a with
    | Constant v _ _ =>
      cases v with
      | int j => simp only [chkE] at h; cases of_decide_eq_true h; exact s_cst pe_int fun _ => .int _
      | _ => simp [chkE] at h
    | _ => simp [chkE] at h
  | .bl b, X, c, J, ex, m, a, h => by
    cases a with
    | Constant v _ _ =>
      cases v with
      | bool j => simp only [chkE] at h; cases (beq_iff_eq.mp h); exact s_cst pe_bl fun _ => .bl _
      | _ => simp [chkE] at h
    | _ => simp [chkE] at h
  | .non, X, c, J, ex, m, a, h => by
    cases a with
    | Constant v _ _ =>
      cases v with
      | none => exact s_cst pe_non fun _ => .non
      | _ => simp [chkE] at h
    | _ => simp [chkE] at h
  | .str x, X, c, J, ex, m, a, h => by
    cases a with
    | Constant v _ _ =>
      cases v with
      | str j => simp only [chkE] at h; cases of_decide_eq_true h; exact s_cst pe_str fun _ => .str _
      | _ => simp [chkE] at h
    | _ => simp [chkE] at h
  | .glob x, X, c, J, ex, m, a, h => by
    cases a with
    | Name y p =>
      simp only [chkE] at h
      obtain ⟨h12, h3⟩ := band h
      obtain ⟨h1, h2⟩ := band h12
      cases of_decide_eq_true h1
      obtain ⟨g1, g2⟩ := glbC_ok h2
      obtain ⟨u, w, e1, e2, e3⟩ := m.cst x (List.contains_iff_mem.mp h3)
      exact s_cst (pe_glob (show X.env.scope.names.lookup x = _ by rw [m.sc]; exact g1) e1 e2 g2) e3
    | _ => simp [chkE] at h
  | .tup es, X, c, J, ex, m, a, h => by
    cases a with
    | Tuple as n p => simp only [chkE] at h; exact s_tup m.jj (okEs es m as h) (monEs ex es)
    | _ => simp [chkE] at h
  | .lst f es, X, c, J, ex, m, a, h => by
    cases a with
    | List as p => simp only [chkE] at h; exact s_lst m.jj f (okEs es m as h) (monEs ex es)
    | _ => simp [chkE] at h
  | .neg e, X, c, J, ex, m, a, h => by
    cases a with
    | UnaryOp op x p =>
      cases op with
      | USub => simp only [chkE] at h; exact s_neg m.jj (okE e m x h) (monE ex e)
      | _ => simp [chkE] at h
    | _ => simp [chkE] at h
  | .not e, X, c, J, ex, m, a, h => by
    cases a with
    | UnaryOp op x p =>
      cases op with
      | Not => simp only [chkE] at h; exact s_not m.jj (okE e m x h) (monE ex e)
      | _ => simp [chkE] at h
    | _ => simp [chkE] at h
  | .and e f, X, c, J, ex, m, a, h => by
    cases a with
    | BoolOp op vs p =>
      cases op with
      | Or => simp [chkE] at h
      | And =>
        match vs, h with
        | x :: y :: [], h =>
          simp only [chkE] at h
          obtain ⟨h1, h2⟩ := band h
          exact s_and m.jj (okE e m x h1) (pe_one (okE f m y h2)) (monE ex e) (monE ex f)
        | x :: y :: z :: r, h =>
          simp only [chkE] at h
          obtain ⟨h1, h2⟩ := band h
          exact s_and m.jj (okE e m x h1) (okE f m _ h2) (monE ex e) (monE ex f)
        | [], h => simp [chkE] at h
        | [_], h => simp [chkE] at h
    | _ => simp [chkE] at h
  | .or e f, X, c, J, ex, m, a, h => by
    cases a with
    | BoolOp op vs p =>
      cases op with
      | And => simp [chkE] at h
      | Or =>
        match vs, h with
        | x :: y :: [], h =>
          simp only [chkE] at h
          obtain ⟨h1, h2⟩ := band h
          exact s_or m.jj (okE e m x h1) (pe_one (okE f m y h2)) (monE ex e) (monE ex f)
        | x :: y :: z :: r, h =>
          simp only [chkE] at h
          obtain ⟨h1, h2⟩ := band h
          exact s_or m.jj (okE e m x h1) (okE f m _ h2) (monE ex e) (monE ex f)
        | [], h => simp [chkE] at h
        | [_], h => simp [chkE] at h
    | _ => simp [chkE] at h
  | .ite t e f, X, c, J, ex, m, a, h => by
    cases a with
    | IfExp x y z p =>
      simp only [chkE] at h
      obtain ⟨h12, h3⟩ := band h
      obtain ⟨h1, h2⟩ := band h12
      exact s_ite m.jj (okB t m x h1).1 (okE e m y h2) (okE f m z h3) (monB ex t) (monE ex e) (monE ex f)
    | _ => simp [chkE] at h
  | .bin f op e e', X, c, J, ex, m, a, h => by
    cases a with
    | BinOp x o y p =>
      simp only [chkE] at h
      obtain ⟨h12, h3⟩ := band h
      obtain ⟨h1, h2⟩ := band h12
      cases of_decide_eq_true h1
      exact s_bin m f op (okE e m x h2) (okE e' m y h3) (monE ex e) (monE ex e')
    | _ => simp [chkE] at h
  | .cmp op e f, X, c, J, ex, m, a, h => by
    cases a with
    | Compare x os ys p =>
      match os, ys, h with
      | [o], [y], h =>
        simp only [chkE] at h
        obtain ⟨h12, h3⟩ := band h
        obtain ⟨h1, h2⟩ := band h12
        cases of_decide_eq_true h1
        exact s_cmp m op (okE e m x h2) (okE f m y h3) (monE ex e) (monE ex f) (plainA_mark (chk_plainA c f y h3))
      | [], _, h => simp [chkE] at h
      | [_], [], h => simp [chkE] at h
      | [_], _ :: _ :: _, h => simp [chkE] at h
      | _ :: _ :: _, _, h => simp [chkE] at h
    | _ => simp [chkE] at h
  | .chain op op' e f g, X, c, J, ex, m, a, h => by
    cases a with
    | Compare x os ys p =>
      match os, ys, h with
      | [o, o'], [y, z], h =>
        simp only [chkE] at h
        obtain ⟨h1234, h5⟩ := band h
        obtain ⟨h123, h4⟩ := band h1234
        obtain ⟨h12, h3⟩ := band h123
        obtain ⟨h1, h2⟩ := band h12
        cases of_decide_eq_true h1
        cases of_decide_eq_true h2
        exact s_chain m op op' (okE e m x h3) (okE f m y h4) (okE g m z h5) (monE ex e) (monE ex f) (monE ex g) (plainA_mark (chk_plainA c g z h5))
      | [], _, h => simp [chkE] at h
      | [_], _, h => simp [chkE] at h
      | [_, _], [], h => simp [chkE] at h
      | [_, _], [_], h => simp [chkE] at h
      | [_, _], _ :: _ :: _ :: _, h => simp [chkE] at h
      | _ :: _ :: _ :: _, _, h => simp [chkE] at h
    | _ => simp [chkE] at h
  | .ix e f, X, c, J, ex, m, a, h => by
    cases a with
    | Subscript x y p =>
      simp only [chkE] at h
      obtain ⟨h12, h3⟩ := band h
      obtain ⟨h1, h2⟩ := band h12
      exact s_ix m.jj (okE e m x h2) (okE f m y h3) (monE ex e) (monE ex f) (noSl_ok h1)
    | _ => simp [chkE] at h
  | .sl f e lo hi, X, c, J, ex, m, a, h => by
    cases a with
    | Subscript x y p =>
      cases y with
      | Slice l u st p2 =>
        cases st with
        | some _ => simp [chkE] at h
        | none =>
          simp only [chkE] at h
          obtain ⟨h12, h3⟩ := band h
          obtain ⟨h1, h2⟩ := band h12
          exact s_sl m.jj f (okE e m x h1) (okO lo m l h2) (okO hi m u h3) (monE ex e) (monO ex lo) (monO ex hi)
      | _ => simp [chkE] at h
    | _ => simp [chkE] at h
  | .bi f b es, X, c, J, ex, m, a, h => by
    cases a with
    | Call fe as kws p =>
      match fe, as, kws, h with
      | .Name x _, y :: ys, [], h =>
        simp only [chkE] at h
        obtain ⟨h123, h4⟩ := band h
        obtain ⟨h12, h3⟩ := band h123
        obtain ⟨h1, h2⟩ := band h12
        obtain ⟨g1, g2⟩ := glbC_ok h2
        have pl := chk_plainAs c es _ h4
        simp only [List.all_cons] at pl
        obtain ⟨p1, p2⟩ := band pl
        exact s_bi m f b (of_decide_eq_true h1) (show X.env.scope.names.lookup x = _ by rw [m.sc]; exact g1) (m.free x (List.contains_iff_mem.mp h3)) (okEs es m _ h4) (monEs ex es) (plainA_star p1) (plainAs_any p2)
      | .Name _ _, [], _, h => simp [chkE] at h
      | .Name _ _, _ :: _, _ :: _, h => simp [chkE] at h
      | .Attribute .., _, _, h => simp [chkE] at h
      | .BoolOp .., _, _, h => simp [chkE] at h
      | .NamedExpr .., _, _, h => simp [chkE] at h
      | .BinOp .., _, _, h => simp [chkE] at h
      | .UnaryOp .., _, _, h => simp [chkE] at h
      | .Lambda .., _, _, h => simp [chkE] at h
      | .IfExp .., _, _, h => simp [chkE] at h
      | .Dict .., _, _, h => simp [chkE] at h
      | .Set .., _, _, h => simp [chkE] at h
      | .ListComp .., _, _, h => simp [chkE] at h
      | .SetComp .., _, _, h => simp [chkE] at h
      | .DictComp .., _, _, h => simp [chkE] at h
      | .GeneratorExp .., _, _, h => simp [chkE] at h
      | .Await .., _, _, h => simp [chkE] at h
      | .Yield .., _, _, h => simp [chkE] at h
      | .YieldFrom .., _, _, h => simp [chkE] at h
      | .Compare .., _, _, h => simp [chkE] at h
      | .Call .., _, _, h => simp [chkE] at h
      | .FormattedValue .., _, _, h => simp [chkE] at h
      | .JoinedStr .., _, _, h => simp [chkE] at h
      | .Constant .., _, _, h => simp [chkE] at h
      | .Subscript .., _, _, h => simp [chkE] at h
      | .Starred .., _, _, h => simp [chkE] at h
      | .List .., _, _, h => simp [chkE] at h
      | .Tuple .., _, _, h => simp [chkE] at h
      | .Slice .., _, _, h => simp [chkE] at h
    | _ => simp [chkE] at h
  | .fn f es, X, c, J, ex, m, a, h => by
    cases a with
    | Call fe as kws p =>
      cases fe with
      | Name x px =>
        cases kws with
        | cons => cases as <;> simp [chkE] at h
        | nil =>
          cases as with
          | nil => simp [chkE] at h
          | cons y ys =>
            simp only [chkE] at h
            obtain ⟨h123, h4⟩ := band h
            obtain ⟨h12, h3⟩ := band h123
            obtain ⟨h1, h2⟩ := band h12
            cases of_decide_eq_true h1
            obtain ⟨g1, g2⟩ := glbC_ok h2
            obtain ⟨ps, hps, hl⟩ := fns_of h3
            have pl := chk_plainAs c es _ h4
            simp only [List.all_cons] at pl
            obtain ⟨p1, p2⟩ := band pl
            have hn : ys.length + 1 = es.len := chk_len c es _ h4
            exact s_fn m hps (show X.env.scope.names.lookup f = _ by rw [m.sc]; exact g1) g2 (okEs es m _ h4) (monEs ex es) (hn.trans hl.symm) (fun q => by rw [hn]; exact lenEs ex es q) (plainA_star p1) (plainAs_any p2)
      | _ => simp [chkE] at h
    | _ => simp [chkE] at h
  | .app e f, X, c, J, ex, m, a, h => by
    cases a with
    | Call fe as kws p =>
      cases fe with
      | Attribute o n p1 =>
        match as, kws, h with
        | [y], [], h =>
          simp only [chkE] at h
          obtain ⟨h1234, h5⟩ := band h
          obtain ⟨h123, h4⟩ := band h1234
          obtain ⟨h12, h3⟩ := band h123
          obtain ⟨h1, h2⟩ := band h12
          cases of_decide_eq_true h1
          have py := chk_plainA c f y h5
          exact s_append m.jj (okE e m o h4) (a_cons m.jj (okE f m y h5) a_nil (monE ex f) mono_nil (plainA_star py)) (monE ex e) (mono_cons (monE ex f) mono_nil) (plainO_ok h2) (plainA_few py) h3 (plainA_star py)
        | [], _, h => simp [chkE] at h
        | [_], _ :: _, h => simp [chkE] at h
        | _ :: _ :: _, _, h => simp [chkE] at h
      | _ => simp [chkE] at h
    | _ => simp [chkE] at h
  | .ext e f, X, c, J, ex, m, a, h => by
    cases a with
    | Call fe as kws p =>
      cases fe with
      | Attribute o n p1 =>
        match as, kws, h with
        | [y], [], h =>
          simp only [chkE] at h
          obtain ⟨h1234, h5⟩ := band h
          obtain ⟨h123, h4⟩ := band h1234
          obtain ⟨h12, h3⟩ := band h123
          obtain ⟨h1, h2⟩ := band h12
          cases of_decide_eq_true h1
          have py := chk_plainA c f y h5
          exact s_extend m.jj (okE e m o h4) (a_cons m.jj (okE f m y h5) a_nil (monE ex f) mono_nil (plainA_star py)) (monE ex e) (mono_cons (monE ex f) mono_nil) (plainO_ok h2) (plainA_few py) h3 (plainA_star py)
        | [], _, h => simp [chkE] at h
        | [_], _ :: _, h => simp [chkE] at h
        | _ :: _ :: _, _, h => simp [chkE] at h
      | _ => simp [chkE] at h
    | _ => simp [chkE] at h
  | .tix lo e f, X, c, J, ex, m, a, h => by
    simp only [chkE] at h
    split at h
    · rename_i o n p1 y kk ck cp p2
      obtain ⟨h0, h12345⟩ := band h
      obtain ⟨h1234, h5⟩ := band h12345
      obtain ⟨h123, h4⟩ := band h1234
      obtain ⟨h12, h3⟩ := band h123
      obtain ⟨h1, h2⟩ := band h12
      cases of_decide_eq_true h1
      cases of_decide_eq_true h0
      have py := chk_plainA c f y h5
      exact s_tix m lo (okE e m o h4) (okE f m y h5) (monE ex e) (monE ex f) (plainO_ok h2) (plainA_star py) h3
    · cases h
  | .pop e, X, c, J, ex, m, a, h => by
    cases a with
    | Call fe as kws p =>
      cases fe with
      | Attribute o n p1 =>
        match as, kws, h with
        | [], [], h =>
          simp only [chkE] at h
          obtain ⟨h123, h4⟩ := band h
          obtain ⟨h12, h3⟩ := band h123
          obtain ⟨h1, h2⟩ := band h12
          cases of_decide_eq_true h1
          exact s_pop m.jj (okE e m o h4) (monE ex e) (plainO_ok h2) h3
        | [], _ :: _, h => simp [chkE] at h
        | _ :: _, _, h => simp [chkE] at h
      | _ => simp [chkE] at h
    | _ => simp [chkE] at h
  | .comp f own t it cond elt, X, c, J, ex, m, a, h => by
    cases a with
    | ListComp x gs scope p =>
      refine ⟨fun pins s σ H Q I hw => ?_⟩
      match gs, h with
      | [⟨tg, iter, ifs, as⟩], h =>
        have hh := okComp f own t it cond elt m x tg iter ifs as scope p (fun m a h => okE elt m a h) (fun m a h => (okB cond m a h).1) (fun m tg a h h2 => okW it m tg a h h2) h
        obtain ⟨e0, hi, ok, sub, hg, ht, he, hs, hkind⟩ := hh
        subst e0
        exact (pe_fzm (pe_lc m.calm (m.N ▸ m.nd) hi ok hg ht he hs) f).run pins s σ H Q I (s_comp m f hi (monW ex it) ok sub hg ht he (monB _ cond) (monE _ elt) hs hw)
      | [], h => simp [chkE] at h
      | _ :: _ :: _, h => simp [chkE] at h
    | _ => simp [chkE] at h
  | .frz e, X, c, J, ex, m, a, h => s_frz m.jj (okE e m a (by simpa [chkE] using h)) (monE ex e)
  | .fnk f ks perm es, X, c, J, ex, m, a, h => by
    simp only [chkE] at h
    split at h
    · rename_i x px kw kws p
      obtain ⟨h', h7⟩ := band h
      obtain ⟨h', h6⟩ := band h'
      obtain ⟨h', h5⟩ := band h'
      obtain ⟨h', h4⟩ := band h'
      obtain ⟨h', h3⟩ := band h'
      obtain ⟨h1, h2⟩ := band h'
      cases of_decide_eq_true h1
      obtain ⟨g1, g2⟩ := glbC_ok h2
      obtain ⟨q, hq, e⟩ := List.any_eq_true.mp h3
      obtain ⟨e12, e3⟩ := band e
      obtain ⟨e1, e2⟩ := band e12
      have hq : (f, ks, perm) ∈ c.kws := by
        have : q = (f, ks, perm) := Prod.ext (of_decide_eq_true e1) (Prod.ext (of_decide_eq_true e2) (of_decide_eq_true e3))
        rw [← this]; exact hq
      have hn : (kwEs (kw :: kws)).length = es.len := chk_len c es _ h7
      obtain ⟨k1, k2, k3⟩ := kw_all (env := X.env) (pos := p) h6
      exact s_fnK m hq (show X.env.scope.names.lookup f = _ by rw [m.sc]; exact g1) g2 (okKs es m _ h7) (monEs ex es) (of_decide_eq_true h5) (fun z => by rw [← kwEs_len (kw :: kws), hn]; exact lenEs ex es z) k1 (k3.trans (of_decide_eq_true h4)) k2
    · cases h
  | .dix e f, X, c, J, ex, m, a, h => by
    simp only [chkE] at h
    split at h
    · obtain ⟨h12, h3⟩ := band h
      obtain ⟨h1, h2⟩ := band h12
      exact s_dix m (okE e m _ h2) (okE f m _ h3) (monE ex e) (monE ex f) (noSl_nosl h1)
    · cases h
  | .dnew, X, c, J, ex, m, a, h => by
    simp only [chkE] at h
    split at h
    · exact s_dnew
    · cases h
  | .disp ps, X, c, J, ex, m, a, h => by
    simp only [chkE] at h
    split at h
    · obtain ⟨h', h5⟩ := band h
      obtain ⟨h', h4⟩ := band h'
      obtain ⟨h', h3⟩ := band h'
      obtain ⟨h1, h2⟩ := band h'
      exact s_disp m.jj (okPs ps m _ _ h5) (monPs ex ps) h4 (of_decide_eq_true h3) (fun z => by rw [z] at h1; cases h1) (of_decide_eq_true h2)
    · cases h
  | .lr1 f e, X, c, J, ex, m, a, h => by
    simp only [chkE] at h
    split at h
    · obtain ⟨h', h7⟩ := band h
      obtain ⟨h', h6⟩ := band h'
      obtain ⟨h', h5⟩ := band h'
      obtain ⟨h', h4⟩ := band h'
      obtain ⟨h', h3⟩ := band h'
      obtain ⟨h1, h2⟩ := band h'
      cases of_decide_eq_true h1
      cases of_decide_eq_true h2
      exact s_lr1 m f (show X.env.scope.names.lookup ("list" : Str) = _ by rw [m.sc]; exact (glbC_ok h3).1) (m.free _ (List.contains_iff_mem.mp h5)) (show X.env.scope.names.lookup ("range" : Str) = _ by rw [m.sc]; exact (glbC_ok h4).1) (m.free _ (List.contains_iff_mem.mp h6)) (okE e m _ h7) (monE ex e) (plainA_star (chk_plainA c e _ h7))
    · cases h
  | .lr2 f e e', X, c, J, ex, m, a, h => by
    simp only [chkE] at h
    split at h
    · obtain ⟨h', h8⟩ := band h
      obtain ⟨h', h7⟩ := band h'
      obtain ⟨h', h6⟩ := band h'
      obtain ⟨h', h5⟩ := band h'
      obtain ⟨h', h4⟩ := band h'
      obtain ⟨h', h3⟩ := band h'
      obtain ⟨h1, h2⟩ := band h'
      cases of_decide_eq_true h1
      cases of_decide_eq_true h2
      have p8 := plainA_star (env := X.env) (as := []) (chk_plainA c e' _ h8)
      exact s_lr2 m f (show X.env.scope.names.lookup ("list" : Str) = _ by rw [m.sc]; exact (glbC_ok h3).1) (m.free _ (List.contains_iff_mem.mp h5)) (show X.env.scope.names.lookup ("range" : Str) = _ by rw [m.sc]; exact (glbC_ok h4).1) (m.free _ (List.contains_iff_mem.mp h6)) (okE e m _ h7) (okE e' m _ h8) (monE ex e) (monE ex e') (plainA_star (chk_plainA c e _ h7)) p8 (by rw [p8]; rfl)
    · cases h
  | .isi e t, X, c, J, ex, m, a, h => by
    simp only [chkE] at h
    split at h
    · obtain ⟨h', h7⟩ := band h
      obtain ⟨h', h6⟩ := band h'
      obtain ⟨h', h5⟩ := band h'
      obtain ⟨h', h4⟩ := band h'
      obtain ⟨h', h3⟩ := band h'
      obtain ⟨h1, h2⟩ := band h'
      cases of_decide_eq_true h1
      cases of_decide_eq_true h2
      exact s_isi m t (show X.env.scope.names.lookup ("isinstance" : Str) = _ by rw [m.sc]; exact (glbC_ok h3).1) (m.free _ (List.contains_iff_mem.mp h5)) (show X.env.scope.names.lookup (t.name : Str) = _ by rw [m.sc]; exact (glbC_ok h4).1) (m.free _ (List.contains_iff_mem.mp h6)) (okE e m _ h7) (monE ex e) (plainA_star (chk_plainA c e _ h7))
    · cases h
theorem okKs {G : Ctx} {gl : Str → PV} {k : Nat} : ∀ (es : Es) {X : Cx} {c : Cfg} {J : Jw} {ex : Env → XV} (m : Match X c G gl k J ex) (kws : List Keyword), chkEs c es (kwEs kws) = true → L2.PK X kws (tA X.K J (wpEs G gl ex es))
  | .nil, X, c, J, ex, m, kws, h => by
    cases kws with
    | nil => exact k_nil
    | cons kw kws => obtain ⟨_, _, _⟩ := kw; simp [kwEs, chkEs] at h
  | .cons e es, X, c, J, ex, m, kws, h => by
    cases kws with
    | nil => simp [kwEs, chkEs] at h
    | cons kw kws =>
      obtain ⟨nm, a, kp⟩ := kw
      simp only [kwEs, chkEs] at h
      obtain ⟨h1, h2⟩ := band h
      exact k_cons m.jj (okE e m a h1) (okKs es m kws h2) (monE ex e) (monEs ex es)
theorem okPs {G : Ctx} {gl : Str → PV} {k : Nat} : ∀ (ps : Ps) {X : Cx} {c : Cfg} {J : Jw} {ex : Env → XV} {pos : Pos} (m : Match X c G gl k J ex) (ks : List (Option Expr)) (vs : List Expr), chkPs c ps ks vs = true → PPt X J pos ks vs (wpPs G gl ex ps)
  | .nil, X, c, J, ex, pos, m, ks, vs, h => by
    simp only [chkPs] at h
    obtain ⟨h1, h2⟩ := band h
    cases List.isEmpty_iff.mp h1
    cases List.isEmpty_iff.mp h2
    exact .nil
  | .cons e f ps, X, c, J, ex, pos, m, ks, vs, h => by
    match ks, vs, h with
    | some a :: ks, b :: vs, h =>
      simp only [chkPs] at h
      obtain ⟨h12, h3⟩ := band h
      obtain ⟨h1, h2⟩ := band h12
      exact .cons (okE e m a h1) (okE f m b h2) (monE ex e) (monE ex f) (monPs ex ps) (okPs ps m ks vs h3)
    | some a :: ks, [], h => simp [chkPs] at h
    | none :: ks, _, h => simp [chkPs] at h
    | [], _, h => simp [chkPs] at h
theorem okEs {G : Ctx} {gl : Str → PV} {k : Nat} : ∀ (es : Es) {X : Cx} {c : Cfg} {J : Jw} {ex : Env → XV} (m : Match X c G gl k J ex) (as : List Expr), chkEs c es as = true → PA X as (tA X.K J (wpEs G gl ex es))
  | .nil, X, c, J, ex, m, as, h => by
    cases as with
    | nil => exact a_nil
    | cons => simp [chkEs] at h
  | .cons e es, X, c, J, ex, m, as, h => by
    cases as with
    | nil => simp [chkEs] at h
    | cons a as =>
      simp only [chkEs] at h
      obtain ⟨h1, h2⟩ := band h
      exact a_cons m.jj (okE e m a h1) (okEs es m as h2) (monE ex e) (monEs ex es) (plainA_star (chk_plainA c e a h1))
theorem okB {G : Ctx} {gl : Str → PV} {k : Nat} : ∀ (b : B) {X : Cx} {c : Cfg} {J : Jw} {ex : Env → XV} (m : Match X c G gl k J ex) (a : Expr), chkB c b a = true → PT X a (tT X.K J (wpB G gl ex b)) ∧ ∀ op vs p, a = .BoolOp op vs p → PW X a (tT X.K J (wpB G gl ex b))
  | .val e, X, c, J, ex, m, a, h => by
    simp only [chkB] at h
    obtain ⟨h1, h2⟩ := band h
    cases hp : plainT a with
    | true =>
      refine ⟨s_val m.jj (okE e m a h1) (monE ex e) (plainT_ok hp), fun op vs p ea => ?_⟩
      subst ea
      cases hp
    | false =>
      rw [hp, Bool.false_or] at h2
      cases e with
      | cmp op e f =>
        cases a with
        | Compare x os ys p =>
          refine ⟨?_, fun op vs p ea => nomatch ea⟩
          match os, ys, h1 with
          | [o], [y], h =>
            simp only [chkE] at h
            obtain ⟨h12, h3⟩ := band h
            obtain ⟨h1, h2⟩ := band h12
            cases of_decide_eq_true h1
            exact s_cmpT m op (okE e m x h2) (okE f m y h3) (monE ex e) (monE ex f) (plainA_mark (chk_plainA c f y h3)) (cmp_bool op)
          | [], _, h => simp [chkE] at h
          | [_], [], h => simp [chkE] at h
          | [_], _ :: _ :: _, h => simp [chkE] at h
          | _ :: _ :: _, _, h => simp [chkE] at h
        | _ => simp [chkE] at h1
      | chain op op' e f g =>
        cases a with
        | Compare x os ys p =>
          refine ⟨?_, fun op vs p ea => nomatch ea⟩
          match os, ys, h1 with
          | [o, o'], [y, z], h =>
            simp only [chkE] at h
            obtain ⟨h1234, h5⟩ := band h
            obtain ⟨h123, h4⟩ := band h1234
            obtain ⟨h12, h3⟩ := band h123
            obtain ⟨h1, h2⟩ := band h12
            cases of_decide_eq_true h1
            cases of_decide_eq_true h2
            exact s_chainT m op op' (okE e m x h3) (okE f m y h4) (okE g m z h5) (monE ex e) (monE ex f) (monE ex g) (plainA_mark (chk_plainA c g z h5))
          | [], _, h => simp [chkE] at h
          | [_], _, h => simp [chkE] at h
          | [_, _], [], h => simp [chkE] at h
          | [_, _], [_], h => simp [chkE] at h
          | [_, _], _ :: _ :: _ :: _, h => simp [chkE] at h
          | _ :: _ :: _ :: _, _, h => simp [chkE] at h
        | _ => simp [chkE] at h1
      | _ => cases h2
  | .and e f, X, c, J, ex, m, a, h => by
    cases a with
    | BoolOp op vs p =>
      have key : PW X (.BoolOp op vs p) (tT X.K J (wpB G gl ex (.and e f))) := by
        cases op with
        | Or => simp [chkB] at h
        | And =>
          match vs, h with
          | x :: y :: [], h =>
            simp only [chkB] at h
            obtain ⟨h1, h2⟩ := band h
            exact s_andT m.jj (okB e m x h1).1 (pw_and1 (okB f m y h2).1) (monB ex e) (monB ex f)
          | x :: y :: z :: r, h =>
            simp only [chkB] at h
            obtain ⟨h1, h2⟩ := band h
            exact s_andT m.jj (okB e m x h1).1 ((okB f m _ h2).2 _ _ _ rfl) (monB ex e) (monB ex f)
          | [], h => simp [chkB] at h
          | [_], h => simp [chkB] at h
      exact ⟨key.pt, fun _ _ _ _ => key⟩
    | _ => simp [chkB] at h
  | .or e f, X, c, J, ex, m, a, h => by
    cases a with
    | BoolOp op vs p =>
      have key : PW X (.BoolOp op vs p) (tT X.K J (wpB G gl ex (.or e f))) := by
        cases op with
        | And => simp [chkB] at h
        | Or =>
          match vs, h with
          | x :: y :: [], h =>
            simp only [chkB] at h
            obtain ⟨h1, h2⟩ := band h
            exact s_orT m.jj (okB e m x h1).1 (pw_or1 (okB f m y h2).1) (monB ex e) (monB ex f)
          | x :: y :: z :: r, h =>
            simp only [chkB] at h
            obtain ⟨h1, h2⟩ := band h
            exact s_orT m.jj (okB e m x h1).1 ((okB f m _ h2).2 _ _ _ rfl) (monB ex e) (monB ex f)
          | [], h => simp [chkB] at h
          | [_], h => simp [chkB] at h
      exact ⟨key.pt, fun _ _ _ _ => key⟩
    | _ => simp [chkB] at h
  | .not e, X, c, J, ex, m, a, h => by
    cases a with
    | UnaryOp op x p =>
      cases op with
      | Not =>
        simp only [chkB] at h
        exact ⟨s_notT m.jj (okB e m x h).1 (monB ex e), fun _ _ _ ea => nomatch ea⟩
      | _ => simp [chkB] at h
    | _ => simp [chkB] at h
  | .tt, X, c, J, ex, m, a, h => by simp [chkB] at h
theorem okO {G : Ctx} {gl : Str → PV} {k : Nat} : ∀ (o : O) {X : Cx} {c : Cfg} {J : Jw} {ex : Env → XV} (m : Match X c G gl k J ex) (a : Option Expr), chkO c o a = true → PO X a (tO X.K J (wpO G gl ex o))
  | .omit, X, c, J, ex, m, a, h => by
    cases a with
    | none => exact s_omit
    | some => simp [chkO] at h
  | .part e, X, c, J, ex, m, a, h => by
    cases a with
    | none => simp [chkO] at h
    | some x => simp only [chkO] at h; exact s_part m.jj (okE e m x h) (monE ex e)
theorem okW {G : Ctx} {gl : Str → PV} {k : Nat} : ∀ (w : W) {X : Cx} {c : Cfg} {J : Jw} {ex : Env → XV} (m : Match X c G gl k J ex) (tg a : Expr), chkW c w a = true → tupW w tg = true → PI X tg a (tI X.K J (wpW G gl ex w)) ∧ ∀ x, foldedSetIterable a X.env x = pure x
  | .seq e, X, c, J, ex, m, tg, a, h, _ => by
    simp only [chkW] at h
    exact ⟨s_seq m.jj (okE e m a h) (monE ex e), plainA_set (chk_plainA c e a h)⟩
  | .rng1 e, X, c, J, ex, m, tg, a, h, _ => by
    cases a with
    | Call fe as kws p =>
      cases fe with
      | Name x px =>
        match as, kws, h with
        | [y], [], h =>
          simp only [chkW] at h
          obtain ⟨h123, h4⟩ := band h
          obtain ⟨h12, h3⟩ := band h123
          obtain ⟨h1, h2⟩ := band h12
          cases of_decide_eq_true h1
          obtain ⟨g1, g2⟩ := glbC_ok h2
          have p4 := chk_plainA c e y h4
          refine ⟨s_rng1 m.jj (show X.env.scope.names.lookup ("range" : Str) = _ by rw [m.sc]; exact g1) (m.free _ (List.contains_iff_mem.mp h3)) (a_cons m.jj (okE e m y h4) a_nil (monE ex e) mono_nil (plainA_star p4)) (mono_cons (monE ex e) mono_nil) (plainA_star p4), fun _ => rfl⟩
        | [], _, h => simp [chkW] at h
        | [_], _ :: _, h => simp [chkW] at h
        | _ :: _ :: _, _, h => simp [chkW] at h
      | _ => simp [chkW] at h
    | _ => simp [chkW] at h
  | .rng2 e f, X, c, J, ex, m, tg, a, h, _ => by
    cases a with
    | Call fe as kws p =>
      cases fe with
      | Name x px =>
        match as, kws, h with
        | [y, z], [], h =>
          simp only [chkW] at h
          obtain ⟨h1234, h5⟩ := band h
          obtain ⟨h123, h4⟩ := band h1234
          obtain ⟨h12, h3⟩ := band h123
          obtain ⟨h1, h2⟩ := band h12
          cases of_decide_eq_true h1
          obtain ⟨g1, g2⟩ := glbC_ok h2
          have p4 := chk_plainA c e y h4
          have p5 := chk_plainA c f z h5
          refine ⟨s_rng2 m.jj (show X.env.scope.names.lookup ("range" : Str) = _ by rw [m.sc]; exact g1) (m.free _ (List.contains_iff_mem.mp h3)) (a_cons m.jj (okE e m y h4) (a_cons m.jj (okE f m z h5) a_nil (monE ex f) mono_nil (plainA_star p5)) (monE ex e) (mono_cons (monE ex f) mono_nil) (plainA_star p4))
            (mono_cons (monE ex e) (mono_cons (monE ex f) mono_nil)) (by rw [plainA_star p4, plainA_star p5]; rfl) (plainA_star p5), fun _ => rfl⟩
        | [], _, h => simp [chkW] at h
        | [_], _, h => simp [chkW] at h
        | [_, _], _ :: _, h => simp [chkW] at h
        | _ :: _ :: _ :: _, _, h => simp [chkW] at h
      | _ => simp [chkW] at h
    | _ => simp [chkW] at h
  | .rng3 e f g, X, c, J, ex, m, tg, a, h, _ => by
    cases a with
    | Call fe as kws p =>
      cases fe with
      | Name x px =>
        match as, kws, h with
        | [y, z, u], [], h =>
          simp only [chkW] at h
          obtain ⟨h12345, h6⟩ := band h
          obtain ⟨h1234, h5⟩ := band h12345
          obtain ⟨h123, h4⟩ := band h1234
          obtain ⟨h12, h3⟩ := band h123
          obtain ⟨h1, h2⟩ := band h12
          cases of_decide_eq_true h1
          obtain ⟨g1, g2⟩ := glbC_ok h2
          have p4 := chk_plainA c e y h4
          have p5 := chk_plainA c f z h5
          have p6 := chk_plainA c g u h6
          refine ⟨s_rng3 m.jj (show X.env.scope.names.lookup ("range" : Str) = _ by rw [m.sc]; exact g1) (m.free _ (List.contains_iff_mem.mp h3)) (a_cons m.jj (okE e m y h4) (a_cons m.jj (okE f m z h5) (a_cons m.jj (okE g m u h6) a_nil (monE ex g) mono_nil (plainA_star p6)) (monE ex f) (mono_cons (monE ex g) mono_nil) (plainA_star p5)) (monE ex e) (mono_cons (monE ex f) (mono_cons (monE ex g) mono_nil)) (plainA_star p4))
            (mono_cons (monE ex e) (mono_cons (monE ex f) (mono_cons (monE ex g) mono_nil))) (plainA_star p4) (plainAs_any (by simp [p5, p6])), fun _ => rfl⟩
        | [], _, h => simp [chkW] at h
        | [_], _, h => simp [chkW] at h
        | [_, _], _, h => simp [chkW] at h
        | [_, _, _], _ :: _, h => simp [chkW] at h
        | _ :: _ :: _ :: _ :: _, _, h => simp [chkW] at h
      | _ => simp [chkW] at h
    | _ => simp [chkW] at h
  | .enum e, X, c, J, ex, m, tg, a, h, ht => by
    simp only [chkW] at h
    split at h
    · rename_i x px y p
      obtain ⟨h123, h4⟩ := band h
      obtain ⟨h12, h3⟩ := band h123
      obtain ⟨h1, h2⟩ := band h12
      cases of_decide_eq_true h1
      obtain ⟨g1, g2⟩ := glbC_ok h2
      have p4 := plainA_star (env := X.env) (as := []) (chk_plainA c e y h4)
      refine ⟨?_, fun _ => rfl⟩
      cases tg with
      | Tuple elts kk tp => exact s_enum m.jj (show X.env.scope.names.lookup ("enumerate" : Str) = _ by rw [m.sc]; exact g1) (m.free _ (List.contains_iff_mem.mp h3)) (okE e m y h4) (monE ex e) (p4.trans rfl)
      | _ => cases (show false = true from ht)
    · cases h
  | .zip e f, X, c, J, ex, m, tg, a, h, ht => by
    simp only [chkW] at h
    split at h
    · rename_i x px y z p
      obtain ⟨h1234, h5⟩ := band h
      obtain ⟨h123, h4⟩ := band h1234
      obtain ⟨h12, h3⟩ := band h123
      obtain ⟨h1, h2⟩ := band h12
      cases of_decide_eq_true h1
      obtain ⟨g1, g2⟩ := glbC_ok h2
      have p5 := plainA_star (env := X.env) (as := []) (chk_plainA c f z h5)
      have p4 := plainA_star (env := X.env) (as := [z]) (chk_plainA c e y h4)
      refine ⟨?_, fun _ => rfl⟩
      cases tg with
      | Tuple elts kk tp => exact s_zip m.jj (show X.env.scope.names.lookup ("zip" : Str) = _ by rw [m.sc]; exact g1) (m.free _ (List.contains_iff_mem.mp h3)) (okE e m y h4) (okE f m z h5) (monE ex e) (monE ex f) p4 p5 (by rw [p5]; rfl)
      | _ => cases (show false = true from ht)
    · cases h
end
end Ev
set_option Elab.async false
set_option linter.all false
set_option maxRecDepth 100000
set_option maxHeartbeats 4000000
/-! Ev12: statements so spelt; a def so spelt keeps its promise. -/
namespace Ev
open PySem PySem.Spec PyProof.Rows L2
/-! ### a list of a comprehension, to a local on its line -/
def frzEnds (D : Ends) : Ends := { D with nx := fun σ' H' => ∃ a xs, H' a = some (.lst xs) ∧ ∀ o, D.nx σ' (upd H' a (.frz o (.lst xs))) }
section
variable {X : Cx} {c : Cfg} {G : Ctx} {gl : Str → PV} {k : Nat} {J : Jw} {ex : Env → XV}
theorem ps_frz {st : Stmt} {t : TS} (h : PS X st t) : PS X st (fun D σ H => t (frzEnds D) σ H) := by
  refine ⟨fun pins s σ H D I hw => thn (h.run pins s σ H _ I hw) fun fl s1 z => ?_⟩
  cases fl with
  | next =>
    obtain ⟨σ', H', I', a, xs, ha, q⟩ := z
    obtain ⟨od, J'⟩ := I'.lock ha trivial
    exact ⟨σ', _, J', q od⟩
  | brk => exact z
  | cont => exact z
  | ret u => exact z
theorem tI_mono {wi : WI} (mi : MonI wi) {σ : L2.St} {H : Hp} {Q Q' : L2.It → Hp → Prop} (k : ∀ x H, Q x H → Q' x H) (hw : tI X.K J wi σ H Q) : tI X.K J wi σ H Q' := by
  obtain ⟨A, ρ, h, j, rs, r, hw⟩ := hw
  exact ⟨A, ρ, h, j, rs, r, mi _ _ _ _ (fun it h1 z It1 H1 m1 r1 io => k _ _ (z It1 H1 m1 r1 io)) hw⟩
theorem tLc_mono {wi : WI} (mi : MonI wi) {g : TG} {tt : TT} {te : TE} {vs : List Nat} {σ : L2.St} {H : Hp} {Q Q' : VK} (k : ∀ x H, Q x H → Q' x H) (hw : tLc (tI X.K J wi) g tt te vs σ H Q) : tLc (tI X.K J wi) g tt te vs σ H Q' := by
  refine tI_mono mi (fun It H1 z D hD => ?_) hw
  obtain ⟨W, w0, step⟩ := z D hD
  refine ⟨W, w0, fun i m H' w => ?_⟩
  rcases step i m H' w with ⟨st, q⟩ | z
  · exact .inl ⟨st, k _ _ q⟩
  · exact .inr z
theorem s_setLc {i : Nat} {y : Str} {py : Pos} {elt tg iter : Expr} {ifs : List Expr} {scope : Scope} {own : List (Str × Nat)} {pos spos : Pos} {wi : WI} {t : ST} {wt : WT} {we : WE} (m : Match X c G gl k J ex) (f : Bool) (hy : X.N[i]? = some y) (hyl : X.env.scope.names.lookup y = some .local)
    (hsw : swapsWith (.ListComp elt [⟨tg, iter, ifs, 0⟩] scope pos) (some (.Name y py)) spos.line X.env = pure true) (hi : PI X tg iter (tI X.K J wi)) (mi : MonI wi) (ok : BlkOk X.N X.env.scope scope own) (sub : ∀ i ∈ t.slots, i ∈ own.map (·.2))
    (hg : ∀ (s : Shared) (H : Hp) (C : Addr) (cl : List (Str × Addr)) (fp : List Addr), PG (X.blk s H scope (compEnvC scope cl C X.env) fp) tg (t.g X.K))
    (ht : ∀ (s : Shared) (H : Hp) (C : Addr) (cl : List (Str × Addr)) (fp : List Addr), PTs (X.blk s H scope (compEnvC scope cl C X.env) fp) ifs (tT X.K J0 wt))
    (he : ∀ (s : Shared) (H : Hp) (C : Addr) (cl : List (Str × Addr)) (fp : List Addr), PE (X.blk s H scope (compEnvC scope cl C X.env) fp) elt (tE X.K J0 we)) (mt : MonT wt) (me : MonE we)
    (hs : ∀ x, foldedSetIterable iter X.env x = pure x) : PS X (.Assign [.Name y py] (.ListComp elt [⟨tg, iter, ifs, 0⟩] scope pos) spos) (tS X.K J (wSet i (wComp f (own.map (·.2)) wi t wt we))) := by
  have base := ps_setLc (spos := spos) m.calm (m.N ▸ m.nd) hy hyl hsw hi ok hg ht he hs
  have mc : MonE (wComp f (own.map (·.2)) wi t wt we) := mono_comp mi
  refine ⟨fun pins s σ H D I hw => ?_⟩
  have key : tLc (tI X.K J wi) (t.g X.K) (tT X.K J0 wt) (tE X.K J0 we) (own.map (·.2)) σ H (fzm f fun x H1 => D.nx (σ.set i (some x)) H1) := by
    refine s_comp m f hi mi ok sub hg ht he mt me hs ?_
    obtain ⟨A, ρ, h, j, rs, r, hw⟩ := hw
    refine ⟨A, ρ, h, j, rs, r, mc _ _ _ _ (fun x h1 z v H1 m1 r1 rv => z _ _ m1 ((rs.mon m1).set i rv) r1) hw⟩
  cases f with
  | true => exact base.run pins s σ H D I key
  | false =>
    refine (ps_frz base).run pins s σ H D I (tLc_mono mi (fun x H1 ⟨a, xs, _, ha, q⟩ => ⟨a, xs, ha, q⟩) key)
end

/-! ### stores in the other order -/
def swT (sc : Scope) (ts vs : List Expr) : Option (Option (List Str)) :=
  if (!(ts.length == 2 || ts.length == 3)) || vs.length != ts.length then some none
  else if !vs.all plainA then none
  else
    let l := (ts.head?.map (·.pos.line)).getD 0
    let ns := ts.filterMap fun t => match t with
      | .Name x p => if sc.names.lookup x == some .local && p.line == l then some x else none
      | _ => none
    if ns.length != ts.length || ns.eraseDups.length != ns.length then some none
    else if vs.all (foldedForSure 8) then some none
    else if vs.all (constantsAlone 8) then none
    else some (some ns)
theorem swT_ok {ts vs : List Expr} {k k2 : Nat} {p p2 : Pos} {env : PySem.Env} {r : Option (List Str)} (hk : env.scope.kind = .function) (h : swT env.scope ts vs = some r) : swappedStores [.Tuple ts k p] (.Tuple vs k2 p2) env = pure r := by
  have hb : env.blockKind = .function := by unfold Env.blockKind; rw [hk]; rfl
  have h3 : (ScopeKind.function != ScopeKind.function) = false := rfl
  unfold swT at h
  unfold swappedStores
  simp only [hb, h3, Bool.or_false]
  split at h
  · cases h
    rename_i e
    rw [if_pos e]
  · rename_i e
    rw [if_neg e]
    split at h
    · cases h
    · rename_i e2
      rw [if_neg]
      · simp only [] at h
        split at h
        · rename_i e3
          cases h
          exact if_pos (c := _) e3
        · rename_i e3
          refine (if_neg (c := _) e3).trans ?_
          split at h
          · rename_i e4
            cases h
            exact if_pos (c := _) e4
          · rename_i e4
            refine (if_neg (c := _) e4).trans ?_
            split at h
            · cases h
            · rename_i e5
              cases h
              exact (if_neg (c := _) e5).trans rfl
      · intro z
        obtain ⟨v, hv, hz⟩ := List.any_eq_true.mp z
        have e2 : vs.all plainA = true := by simpa using e2
        have := List.all_eq_true.mp e2 v hv
        cases v with
        | Starred => exact absurd (show false = true from this) (by decide)
        | _ => exact absurd (show false = true from hz) (by decide)
end Ev

set_option Elab.async false
set_option linter.all false
set_option maxRecDepth 100000
set_option maxHeartbeats 4000000
/-! Ev13: statements so spelt; a def so spelt keeps its promise. -/
namespace Ev
open PySem PySem.Spec PyProof.Rows L2
theorem ns_exp {a : Expr} {l : Nat} {env : PySem.Env} (h : noComp a = true) (t : Option Expr) : swapsWith a t l env = pure false := noComp_ok h
theorem ns_tup {es : List Expr} {k l : Nat} {p : Pos} {env : PySem.Env} (a : Expr) : swapsWithSole [.Tuple es k p] a l env = pure false := by
  show swapsWith a (some (.Tuple es k p)) l env = pure false
  cases a <;> rfl
theorem ns_sub {o i : Expr} {l : Nat} {p : Pos} {env : PySem.Env} (a : Expr) : swapsWithSole [.Subscript o i p] a l env = pure false := by
  show swapsWith a (some (.Subscript o i p)) l env = pure false
  cases a <;> rfl
theorem nsw_sub {o i : Expr} {l : Nat} {p : Pos} {env : PySem.Env} (a : Expr) : swapsWith a (some (.Subscript o i p)) l env = pure false := by
  cases a <;> rfl
theorem sn_sub {o i : Expr} {p : Pos} {env : PySem.Env} (a : Expr) : swappedStores [.Subscript o i p] a env = pure none := by
  cases a <;> rfl
theorem noLoc_ok {a : Expr} {x : Str} {px : Pos} {l : Nat} {env : PySem.Env} (h : env.scope.names.lookup x ≠ some .local) : swapsWith a (some (.Name x px)) l env = pure false := by
  have kx : (env.kindOf x == some .local) = false := by
    have e : env.kindOf x = env.scope.names.lookup x := rfl
    rw [e]
    simpa using h
  unfold swapsWith
  simp only [kx, Bool.and_false, Bool.false_and]
  split
  · rfl
  · rfl
def isTup : Expr → Bool
  | .Tuple .. => true
  | _ => false
theorem sn_tup {es : List Expr} {k : Nat} {p : Pos} {env : PySem.Env} {a : Expr} (h : isTup a = false) : swappedStores [.Tuple es k p] a env = pure none := by
  cases a <;> first | rfl | cases h
theorem asg_sub {o i : Expr} {p : Pos} {env : PySem.Env} (h : noSl i = true) (v : Value) : assign (.Subscript o i p) env v = (do
      let ov ← holding [v] (eval o env)
      let iv ← holding [v, ov] (eval i env)
      standAt p
      holding [v, ov, iv] (setItem ov iv v)
      release [v, ov, iv] []) := by
  cases i <;> first | rfl | cases h
/-- the stores of this pair of tuples are not turned round -/
def unT (c : Cfg) (ts : List Expr) (a : Expr) : Bool := match a with
  | .Tuple vs _ _ => (match swT c.sc ts vs with
    | some none => true
    | _ => false)
  | _ => true
theorem unT_ok {c : Cfg} {ts : List Expr} {k : Nat} {p : Pos} {a : Expr} {env : PySem.Env} (e : env.scope = c.sc) (hk : env.scope.kind = .function) (h : unT c ts a = true) : swappedStores [.Tuple ts k p] a env = pure none := by
  cases a with
  | Tuple vs k2 p2 =>
    simp only [unT] at h
    split at h
    · rename_i q
      exact swT_ok hk (by rw [e]; exact q)
    · cases h
  | _ => rfl
mutual
def chkS (c : Cfg) : S → Stmt → Bool
  | .expr e, st => match st with
    | .Expr a _ => noComp a && chkE c e a
    | _ => false
  | .set i e, st => match st with
    | .Assign [.Name x px] a p => decide (c.N[i]? = some x) && locC c x && ((noComp a && chkE c e a) || (match e, a with
      | .comp m own t it cond elt, .ListComp y [⟨tg, iter, ifs, as⟩] scope p2 => decide (c.sc.names.lookup x = some .local) && (px.line == p2.line) && !(scope.names.any fun (n, k) => n == x && (k == .local || k == .cell)) && chkE c (.comp m own t it cond elt) (.ListComp y [⟨tg, iter, ifs, as⟩] scope p2)
      | _, _ => false) || (!decide (c.sc.names.lookup x = some .local) && chkE c e a))
    | _ => false
  | .unp t e, st => match st with
    | .Assign [.Tuple ts k pt] a _ => chkT c t (.Tuple ts k pt) && chkE c e a && unT c ts a
    | _ => false
  | .par i j e f, st => match st with
    | .Assign [.Tuple [.Name x px, .Name y py] kt pt] (.Tuple [a, b] k2 pt2) _ => decide (c.N[i]? = some x) && decide (c.N[j]? = some y) && !decide (i = j) && decide (c.sc.names.lookup x = some .local) && decide (c.sc.names.lookup y = some .local) && chkE c e a && chkE c f b &&
        decide (swT c.sc [.Name x px, .Name y py] [a, b] = some (some [x, y]))
    | _ => false
  | .sub o i v, st => match st with
    | .Assign [.Subscript a b _] d _ => noSl b && chkE c o a && chkE c i b && chkE c v d
    | _ => false
  | .ret e, st => match st with
    | .Return (some a) _ => chkE c e a
    | _ => false
  | .ifs t x y, st => match st with
    | .If a b o _ => chkB c t a && chkSs c x b && chkSs c y o
    | _ => false
  | .for_ t it x, st => match st with
    | .For tg iter b [] _ => chkT c t tg && (chkW c it iter && tupW it tg) && chkSs c x b
    | _ => false
  | .while_ t x, st => match st with
    | .While a b [] _ => chkB c t a && chkSs c x b
    | _ => false
  | .brk, st => match st with
    | .Break _ => true
    | _ => false
  | .cont, st => match st with
    | .Continue _ => true
    | _ => false
  | .pass, st => match st with
    | .Pass _ => true
    | _ => false
  | .par3 i j l e f g, st => match st with
    | .Assign [.Tuple [.Name x px, .Name y py, .Name z pz] kt pt] (.Tuple [a, b, d] k2 pt2) _ => decide (c.N[i]? = some x) && decide (c.N[j]? = some y) && decide (c.N[l]? = some z) && !decide (i = j) && !decide (i = l) && !decide (j = l) &&
        decide (c.sc.names.lookup x = some .local) && decide (c.sc.names.lookup y = some .local) && decide (c.sc.names.lookup z = some .local) && chkE c e a && chkE c f b && chkE c g d &&
        decide (swT c.sc [.Name x px, .Name y py, .Name z pz] [a, b, d] = some (some [x, y, z]))
    | _ => false
  | .subp o i t v, st => match st with
    | .Assign [.Tuple [.Subscript a b p2, tg] kt pt] d _ => noSl b && chkE c o a && chkE c i b && chkT c t tg && chkE c v d && unT c [.Subscript a b p2, tg] d
    | _ => false
  | .dput o i v, st => match st with
    | .Assign [.Subscript a b _] d _ => chkE c o a && chkE c i b && chkE c v d
    | _ => false
def chkSs (c : Cfg) : Ss → List Stmt → Bool
  | .nil, sts => sts.isEmpty
  | .cons s ss, sts => match sts with
    | st :: sts => chkS c s st && chkSs c ss sts
    | [] => false
end
section
variable {X : Cx} {c : Cfg} {G : Ctx} {gl : Str → PV} {k : Nat} {J : Jw} {ex : Env → XV}
theorem okSet (m : Match X c G gl k J ex) (i : Nat) (e : E) (st : Stmt) (h : chkS c (.set i e) st = true) : PS X st (tS X.K J (wpS G gl ex (.set i e))) := by
  simp only [chkS] at h
  split at h
  · rename_i x px a p
    obtain ⟨h12, h3⟩ := band h
    obtain ⟨h1, h2⟩ := band h12
    have hi : X.N[i]? = some x := m.N ▸ of_decide_eq_true h1
    obtain ⟨l1, l2⟩ := locC_ok h2
    rcases Bool.or_eq_true_iff.mp h3 with q | q
    rcases Bool.or_eq_true_iff.mp q with q | q
    · obtain ⟨q1, q2⟩ := band q
      exact s_set m hi (m.sc ▸ l1) (okE e m a q2) (monE ex e) (noComp_ok q1) (by rw [m.fnb, m.sc]; exact l2)
    · split at q
      · rename_i f own t it cond elt y tg iter ifs as scope p2 _
        obtain ⟨q123, q4⟩ := band q
        obtain ⟨q12, q3⟩ := band q123
        obtain ⟨q1, q2⟩ := band q12
        obtain ⟨e0, hi', ok, sub, hg, ht, he, hs, hkind⟩ := okComp f own t it cond elt m y tg iter ifs as scope p2 (fun m a h => okE elt m a h) (fun m a h => (okB cond m a h).1) (fun m tg a h h2 => okW it m tg a h h2) q4
        subst e0
        have hyl : X.env.scope.names.lookup x = some .local := m.sc ▸ of_decide_eq_true q1
        exact s_setLc m f hi hyl (sw_true m.kind hyl q2 (by simpa using q3)) hi' (monW ex it) ok sub hg ht he (monB _ cond) (monE _ elt) hs
      · cases q
    · obtain ⟨q1, q2⟩ := band q
      exact s_set m hi (m.sc ▸ l1) (okE e m a q2) (monE ex e) (noLoc_ok (by rw [m.sc]; simpa using q1)) (by rw [m.fnb, m.sc]; exact l2)
  · cases h
mutual
theorem okS : ∀ (s : S) {X : Cx} {c : Cfg} {J : Jw} {ex : Env → XV} (m : Match X c G gl k J ex) (st : Stmt), chkS c s st = true → PS X st (tS X.K J (wpS G gl ex s))
  | .expr e, X, c, J, ex, m, st, h => by
    simp only [chkS] at h
    split at h
    · obtain ⟨h1, h2⟩ := band h
      exact s_expr m.jj (okE e m _ h2) (monE ex e) (noComp_ok h1)
    · cases h
  | .set i e, X, c, J, ex, m, st, h => okSet m i e st h
  | .unp t e, X, c, J, ex, m, st, h => by
    simp only [chkS] at h
    split at h
    · rename_i ts kt pt a p
      obtain ⟨h12, h3⟩ := band h
      obtain ⟨h1, h2⟩ := band h12
      exact s_unp m.jj (okE e m _ h2) (monE ex e) (okT m t _ h1) (ns_tup a) (unT_ok m.sc m.kind h3) rfl
    · cases h
  | .par i j e f, X, c, J, ex, m, st, h => by
    simp only [chkS] at h
    split at h
    · rename_i x px y py kt pt a b k2 pt2 p
      obtain ⟨h', h8⟩ := band h
      obtain ⟨h', h7⟩ := band h'
      obtain ⟨h', h6⟩ := band h'
      obtain ⟨h', h5⟩ := band h'
      obtain ⟨h', h4⟩ := band h'
      obtain ⟨h', h3⟩ := band h'
      obtain ⟨h1, h2⟩ := band h'
      have pb := plainA_star (env := X.env) (as := []) (chk_plainA c f b h7)
      have pa := plainA_star (env := X.env) (as := [b]) (chk_plainA c e a h6)
      exact s_par m (m.N ▸ of_decide_eq_true h1) (m.N ▸ of_decide_eq_true h2) (by simpa using h3) (m.sc ▸ of_decide_eq_true h4) (m.sc ▸ of_decide_eq_true h5)
        (a_cons m.jj (okE e m a h6) (a_cons m.jj (okE f m b h7) a_nil (monE ex f) mono_nil pb) (monE ex e) (mono_cons (monE ex f) mono_nil) pa) (mono_cons (monE ex e) (mono_cons (monE ex f) mono_nil))
        (swT_ok m.kind (by rw [m.sc]; exact of_decide_eq_true h8)) (ns_tup _)
    · cases h
  | .sub o i v, X, c, J, ex, m, st, h => by
    simp only [chkS] at h
    split at h
    · obtain ⟨h123, h4⟩ := band h
      obtain ⟨h12, h3⟩ := band h123
      obtain ⟨h1, h2⟩ := band h12
      exact s_sub m.jj (okE o m _ h2) (okE i m _ h3) (okE v m _ h4) (monE ex o) (monE ex i) (monE ex v) (ns_sub _) (sn_sub _) rfl (asg_sub h1)
    · cases h
  | .ret e, X, c, J, ex, m, st, h => by
    simp only [chkS] at h
    split at h
    · exact s_ret m.jj (okE e m _ h) (monE ex e)
    · cases h
  | .ifs t x y, X, c, J, ex, m, st, h => by
    simp only [chkS] at h
    split at h
    · obtain ⟨h12, h3⟩ := band h
      obtain ⟨h1, h2⟩ := band h12
      exact s_if m.jj (okB t m _ h1).1 (okSs x m _ h2) (okSs y m _ h3) (monB ex t) (monSs ex x) (monSs ex y)
    · cases h
  | .for_ t it x, X, c, J, ex, m, st, h => by
    simp only [chkS] at h
    split at h
    · obtain ⟨h12, h3⟩ := band h
      obtain ⟨h1, h2⟩ := band h12
      obtain ⟨h2a, h2b⟩ := band h2
      have w := okW it m
      exact s_for m (w _ _ h2a h2b).1 (monW ex it) (okT m t _ h1) (okSs x m _ h3) (monSs ex x) (w _ _ h2a h2b).2
    · cases h
  | .while_ t x, X, c, J, ex, m, st, h => by
    simp only [chkS] at h
    split at h
    · obtain ⟨h1, h2⟩ := band h
      exact s_while m (okB t m _ h1).1 (okSs x m _ h2) (monB ex t) (monSs ex x)
    · cases h
  | .brk, X, c, J, ex, m, st, h => by
    simp only [chkS] at h
    split at h
    · exact s_break
    · cases h
  | .cont, X, c, J, ex, m, st, h => by
    simp only [chkS] at h
    split at h
    · exact s_continue
    · cases h
  | .pass, X, c, J, ex, m, st, h => by
    simp only [chkS] at h
    split at h
    · exact s_pass
    · cases h
  | .par3 i j l e f g, X, c, J, ex, m, st, h => by
    simp only [chkS] at h
    split at h
    · rename_i x px y py z pz kt pt a b d k2 pt2 p
      obtain ⟨h', h13⟩ := band h
      obtain ⟨h', h12⟩ := band h'
      obtain ⟨h', h11⟩ := band h'
      obtain ⟨h', h10⟩ := band h'
      obtain ⟨h', h9⟩ := band h'
      obtain ⟨h', h8⟩ := band h'
      obtain ⟨h', h7⟩ := band h'
      obtain ⟨h', h6⟩ := band h'
      obtain ⟨h', h5⟩ := band h'
      obtain ⟨h', h4⟩ := band h'
      obtain ⟨h', h3⟩ := band h'
      obtain ⟨h1, h2⟩ := band h'
      have pd := plainA_star (env := X.env) (as := []) (chk_plainA c g d h12)
      have pb := plainA_star (env := X.env) (as := [d]) (chk_plainA c f b h11)
      have pa := plainA_star (env := X.env) (as := [b, d]) (chk_plainA c e a h10)
      exact s_par3 m (m.N ▸ of_decide_eq_true h1) (m.N ▸ of_decide_eq_true h2) (m.N ▸ of_decide_eq_true h3) (by simpa using h4) (by simpa using h5) (by simpa using h6) (m.sc ▸ of_decide_eq_true h7) (m.sc ▸ of_decide_eq_true h8) (m.sc ▸ of_decide_eq_true h9)
        (a_cons m.jj (okE e m a h10) (a_cons m.jj (okE f m b h11) (a_cons m.jj (okE g m d h12) a_nil (monE ex g) mono_nil pd) (monE ex f) (mono_cons (monE ex g) mono_nil) pb) (monE ex e) (mono_cons (monE ex f) (mono_cons (monE ex g) mono_nil)) pa) (mono_cons (monE ex e) (mono_cons (monE ex f) (mono_cons (monE ex g) mono_nil)))
        (swT_ok m.kind (by rw [m.sc]; exact of_decide_eq_true h13)) (ns_tup _)
    · cases h
  | .subp o i t v, X, c, J, ex, m, st, h => by
    simp only [chkS] at h
    split at h
    · rename_i a b p2 tg kt pt d p
      obtain ⟨h', h6⟩ := band h
      obtain ⟨h', h5⟩ := band h'
      obtain ⟨h', h4⟩ := band h'
      obtain ⟨h', h3⟩ := band h'
      obtain ⟨h1, h2⟩ := band h'
      have ht : assignEach [tg] X.env = [(false, assign tg X.env)] := by
        cases tg <;> first | rfl | (cases t <;> simp [chkT] at h4)
      exact s_subp m (okE o m _ h2) (okE i m _ h3) (okE v m _ h5) (monE ex o) (monE ex i) (monE ex v) (okT m t _ h4) (ns_tup _) (unT_ok m.sc m.kind h6) ht (asg_sub h1)
    · cases h
  | .dput o i v, X, c, J, ex, m, st, h => by
    simp only [chkS] at h
    split at h
    · obtain ⟨h12, h3⟩ := band h
      obtain ⟨h1, h2⟩ := band h12
      exact s_dput m (okE o m _ h1) (okE i m _ h2) (okE v m _ h3) (monE ex o) (monE ex i) (monE ex v) (nsw_sub _)
    · cases h
theorem okSs : ∀ (ss : Ss) {X : Cx} {c : Cfg} {J : Jw} {ex : Env → XV} (m : Match X c G gl k J ex) (sts : List Stmt), chkSs c ss sts = true → PSs X sts (tS X.K J (wpSs G gl ex ss))
  | .nil, X, c, J, ex, m, sts, h => by
    cases sts with
    | nil => exact b_nil
    | cons => simp [chkSs] at h
  | .cons s ss, X, c, J, ex, m, sts, h => by
    cases sts with
    | nil => simp [chkSs] at h
    | cons st sts =>
      simp only [chkSs] at h
      obtain ⟨h1, h2⟩ := band h
      exact b_cons' m.jj (okS s m st h1) (okSs ss m sts h2) (monS ex s) (monSs ex ss)
end
end

/-! ### a def -/
/-- the names at its entry -/
def startE (N : List Str) (as : List PV) : Env := as.map some ++ List.replicate (N.length - as.length) none
def Jd (A0 : Addr → Prop) (H0 : Hp) : Jw := fun A H => (∀ d, A0 d → A d) ∧ Mon A0 H0 H
theorem jd {A0 : Addr → Prop} {H0 : Hp} : JOk (Jd A0 H0) := ⟨fun ⟨e, m⟩ m2 => ⟨e, m.trans (m2.sub e)⟩, fun ⟨e, m⟩ l => ⟨fun d hd => l d (e d hd), m⟩⟩
/-- what a body's end asks -/
def retE (Q : PK) : PEnds := ⟨fun _ h => Q .non h, Q, fun _ _ => False, fun _ _ => False⟩
section
variable {P : Program} {w : World} {K : Frag} {mg : Str → Option Value} {base : Heap}
theorem rep_start {H : Hp} {N : List Str} {as : List PV} {vs : List V} (l : RepL K H as vs) : RepSt K H (startE N as) (start N vs) := by
  refine ⟨by unfold startE L2.start; simp [l.length], fun i x e => ?_⟩
  unfold startE at e
  unfold L2.start
  by_cases hi : i < as.length
  · rw [List.getElem?_append_left (by simpa using hi), List.getElem?_map] at e
    cases q : as[i]? with
    | none => rw [q] at e; cases e
    | some y =>
      rw [q] at e
      cases e
      obtain ⟨v, e2, rv⟩ := l.get q
      refine ⟨v, ?_, rv⟩
      rw [List.getElem?_append_left (by simpa [← l.length] using hi), List.getElem?_map, e2]
      rfl
  · rw [List.getElem?_append_right (by simpa using Nat.le_of_not_lt hi)] at e
    have := List.mem_of_getElem? e
    cases List.eq_of_mem_replicate this
theorem fng_chk {x qual : Str} {params : Arguments} {body : List Stmt} {scope : Scope} {f : Addr} {fd : FuncData} {N ps : List Str} {k : Nat} {sp : Spec} {G : Ctx} {gl : Str → PV} {fns : List (Str × List Str)} {free cst : List Str} {kws : List (Str × List Str × List Nat)} {ss : Ss}
    (F : FunD K x qual params body scope [] [] f fd) (S : FnScope N ps scope) (hc : chkSs ⟨N, scope, fun _ => true, fns, free, cst, kws⟩ ss body = true)
    (hf : ∀ f ps, (f, ps) ∈ fns → ∃ a fd, mg f = some (.ref a) ∧ FnG P w K mg base k a fd ps (G.fn f) ∧ PySem.W.keepIn K (.ref a) = true ∧ Binds K fd ps [])
    (hfree : ∀ x, x ∈ free → mg x = none) (hcst : ∀ x, x ∈ cst → ∃ u w, mg x = some u ∧ RelV w u ∧ ∀ H, RepV K H (gl x) w)
    (hkw : ∀ f ks perm, (f, ks, perm) ∈ kws → ∃ a fd ps, mg f = some (.ref a) ∧ FnG P w K mg base k a fd ps (G.fn f) ∧ PySem.W.keepIn K (.ref a) = true ∧ KB K fd ps ks perm)
    (hsp : ∀ as h Q R, as.length = ps.length → sp as h Q R → wpSs G gl (fun _ => R) ss (startE N as) h (retE Q)) : FnG P w K mg base (k + 1) f fd ps sp := by
  refine fng_of F S fun cdv A outer st H vs Q E hg hr hl ⟨A0, as, h, r, rl, q⟩ => ?_
  have m : Match (cxOf (L2.CX P w) P w K mg base N qual scope f cdv A outer st H E) ⟨N, scope, fun _ => true, fns, free, cst, kws⟩ G gl k (Jd A0 H) (fun _ => upX K A0 H E) := by
    refine ⟨rfl, S.nd, rfl, rfl, rfl, passes_of rfl, hg, hr, (takes_of rfl rfl rfl rfl).imp ?_, jd, hf, hfree, hcst, S.kind, hkw⟩
    rintro c d σ H' ⟨A, ρ, h', fs, ⟨hs, mo⟩, rs, r', xf, z⟩
    exact z d H' mo (r'.sub hs) xf
  refine ⟨_, okSs ss m body hc, A0, _, h, ⟨fun _ z => z, .refl⟩, rep_start rl, r, ?_⟩
  have hw := hsp as h _ _ (by rw [rl.length]; exact hl) q
  exact MonS.go (monSs _ ss) hw ⟨fun _ h' z σ' H' mo rs' r' => z .non H' mo r' .non, fun _ _ z => z, fun _ _ z => z.elim, fun _ _ z => z.elim⟩
end
end Ev

set_option Elab.async false
set_option linter.all false
set_option maxRecDepth 100000
set_option maxHeartbeats 4000000
/-! Ev14: the end of a law; all defs of a module by levels. -/
namespace Ev
open PySem PySem.Spec PyProof.Rows L2
/-- the script alone, locked (or one of the module's own objects) -/
def scrH (K : Frag) (a : Addr) (o : Obj) (xs : List V) : Hp := fun b => match K.lookup a with
  | some _ => none
  | none => if b = a then some (.frz o (.lst xs)) else none
theorem scrH_some {K : Frag} {a b : Addr} {o : Obj} {xs : List V} {u : HO} (e : scrH K a o xs b = some u) : K.lookup a = none ∧ b = a ∧ u = .frz o (.lst xs) := by
  unfold scrH at e
  split at e
  · cases e
  · split at e
    · exact ⟨by assumption, by assumption, (Option.some.inj e).symm⟩
    · cases e
/-- the law's call -/
theorem end_call {P : Program} {w : World} {K : Frag} {mg mb : Str → Option Value} {k : Nat} {fa a : Addr} {fd : FuncData} {x : Str} {sp : Spec} {s : Shared} {vs : List Value} {ns : List Int}
    (kin : K.In s.heap) (glob : s.heap.Ns mainGlobals mg) (blt : s.heap.Ns builtinsNs mb) (boot : ∀ y : Str, y ≠ "__name__" → mb y = bootBuiltins y) (free : s.heap.NoLimit) (gens : s.gens = #[])
    (at_ : s.heap.get? a = some { cls := .type "list", data := .seq vs.toArray }) (isI : IntsAre vs ns) (few : ns.length ≤ sizeLine) (room : Room k callerA)
    (F : ∀ base : Heap, K.In base → base.Ns mainGlobals mg → FnG P w K mg base k fa fd [x] sp) (bind : ∀ (s : Shared) (u : Value), BindsTo s fd ⟨[u], []⟩ [(x, u)])
    (hsp : ∀ Q R, (∀ h, Q (.bl true) h) → sp [.scr (ns.map .int)] (fun _ => none) Q R) :
    codeAny (model P w) callerA (.call (.ref fa) ⟨[.ref a], []⟩) (fun r s' => r = .ok (.ret (.bool true)) ∧ OldK s.heap s'.heap ∧ s'.os = s.os ∧ AllBare s'.gens) s := by
  have vi := vals_ints isI
  have script : ∃ H : Hp, H = scrH K a { cls := .type "list", data := .seq vs.toArray } (ns.map V.int) := ⟨_, rfl⟩
  obtain ⟨H, eH⟩ := script
  have only : ∀ {b u}, H b = some u → K.lookup a = none ∧ b = a ∧ u = .frz { cls := .type "list", data := .seq vs.toArray } (.lst (ns.map V.int)) := fun e => scrH_some (eH ▸ e)
  have away : ∀ {b o}, s.heap.get? b = some o → (∀ es ep, o.data = .dict es ep → H b = none) := by
    intro b o e es ep d
    cases q : H b with
    | none => rfl
    | some u =>
      have z := (only q).2.1
      rw [z, at_] at e
      cases e
      cases (show Data.seq vs.toArray _ = .dict es ep from d)
  have ns_ : ∀ {b : Addr} {m : Str → Option Value}, s.heap.Ns b m → (hidT s.heap H).Ns b m := by
    rintro b m ⟨o, es, ep, e, d, r⟩
    exact ⟨o, es, ep, hidT_get e (away e es ep d), d, r⟩
  have kin' : K.In (hidT s.heap H) := by
    intro b o e
    refine hidT_get (kin b o e) ?_
    cases q : H b with
    | none => rfl
    | some u =>
      obtain ⟨z1, z2, _⟩ := only q
      rw [z2, z1] at e
      cases e
  have hok : HOk P w H s.heap := by
    intro b u e
    obtain ⟨_, rfl, rfl⟩ := only e
    exact ⟨at_, by rw [List.length_map]; exact few, vs, _, vi, at_⟩
  obtain ⟨mc, fr1, fr2⟩ := free
  have e0 : Env0 P w K mg (hidT s.heap H) callerA [] s H :=
    ⟨rfl, ⟨kin', ns_ glob, ⟨mb, ns_ blt, boot⟩, mc, ns_ fr1, fr2⟩, fun b o e => of_hidT e, Nat.le_of_eq (hidT_size _ _), trivial, fun b hb => (nomatch (show b ∈ ([] : List Addr) from hb)), hok, .of_eq gens⟩
  have rel : Rel K (fun _ => False) H (fun _ => none) := ⟨fun _ _ e => (nomatch e), fun _ h => False.elim h⟩
  have scr : FzW K H a (ns.map V.int) := by
    cases q : K.lookup a with
    | none =>
      refine .inl ⟨{ cls := .type "list", data := .seq vs.toArray }, ?_⟩
      rw [eH]
      unfold scrH
      rw [q]
      exact if_pos rfl
    | some o =>
      have e := kin a o q
      rw [at_] at e
      cases e
      exact .inr ⟨_, _, _, q, rfl, rfl, rfl, by rw [List.size_toArray, isI.length]; exact few, by simpa using vi⟩
  have goal : liftSp K sp [.ref a] H (fun v _ => v = .bl true) fun _ _ _ => False :=
    ⟨fun _ => False, [.scr (ns.map .int)], fun _ => none, rel, .cons (.scr scr (.of_int ns)) .nil, hsp _ _ fun h v H' _ _ rv => by cases rv; rfl⟩
  refine codeAny_mono ((F _ kin' (ns_ glob)).run callerA [] s H ⟨[.ref a], []⟩ [.ref a] [.ref a] _ _ rfl room e0 (bind s (.ref a)) (.cons rfl .nil) rfl goal) fun r s' h => ?_
  cases r with
  | error e =>
    obtain ⟨_, _, _, _, _, _, _, _, _, _, _, _, z⟩ := h
    exact z.elim
  | ok fl =>
    cases fl with
    | ret u =>
      obtain ⟨v, H', os, bare, un, hok', rv, q⟩ := h
      cases (show v = .bl true from q)
      cases (show u = Value.bool true from rv)
      refine ⟨rfl, OldK.of_keep fun b o e => ?_, os, bare⟩
      cases q : H b with
      | none => exact un.keep b o e q (fun z => (nomatch (show b ∈ ([] : List Addr) from z))) (by simp)
      | some u =>
        obtain ⟨_, rfl, rfl⟩ := only q
        obtain ⟨e1, _⟩ := hok' _ _ (un.frzs _ _ _ q)
        rw [at_] at e
        cases e
        exact e1
    | next => exact h.elim
    | brk => exact h.elim
    | cont => exact h.elim

/-! ### all defs of a module -/
/-- a def: where the head tells of it, its names by slot, its parameters, its body as we spell it -/
structure DefE where
  d : He.DefD
  N : List Str
  ps : List Str
  ss : Ss
def DefE.ok (fns : List (Str × List Str)) (free cst : List Str) (kws : List (Str × List Str × List Nat)) (e : DefE) : Bool :=
  decide (e.d.at_ = (e.d.name, none)) && e.d.dfl.isEmpty && e.d.kwd.isEmpty && C8.scC e.N e.ps e.d.scope && chkSs ⟨e.N, e.d.scope, fun _ => true, fns, free, cst, kws⟩ e.ss e.d.body
/-- it takes its parameters by place -/
def DefE.Bs (e : DefE) : Prop := ∀ (qual : Str) (kV doc pm : Value) (an : Option Addr) (cdv ct : Value) (us : List Value), us.length = e.ps.length → bindArgs (PySem.W.fnOf e.d.name qual e.d.params e.d.body e.d.scope .none kV doc pm an cdv ct) ⟨us, []⟩ = pure (e.ps.zip us)
/-- .. and so by keywords -/
structure DefE.KBs (e : DefE) (ks : List Str) (perm : List Nat) : Prop where
  len : perm.length = e.ps.length
  lt : ∀ i ∈ perm, i < ks.length
  to : ∀ (qual : Str) (kV doc pm : Value) (an : Option Addr) (cdv ct : Value) (ws : List Value), ws.length = ks.length → bindArgs (PySem.W.fnOf e.d.name qual e.d.params e.d.body e.d.scope .none kV doc pm an cdv ct) ⟨[], ks.zip ws⟩ = pure (e.ps.zip (perm.map fun i => ws.getD i .none))
theorem kb_of {K : Frag} {e : DefE} {f : Addr} {fd : FuncData} {ks : List Str} {perm : List Nat} (F : FunD K e.d.name e.d.qual e.d.params e.d.body e.d.scope [] [] f fd) (h : e.KBs ks perm) : KB K fd e.ps ks perm := by
  refine ⟨h.len, h.lt, fun s ws _ hw => ?_⟩
  obtain ⟨oc, od, dV, kV, doc, pm, an, cdv, ct, osl, rfl, lk, hcd, hD, hK⟩ := F.ex
  rcases hD with ⟨_, rfl⟩ | ⟨e, _⟩
  · exact .of_eq (h.to e.d.qual kV doc pm an cdv ct ws hw)
  · exact absurd rfl e
section
variable {P : Program} {w : World} {K : Frag} {mg : Str → Option Value} {base : Heap} {kws : List (Str × List Str × List Nat)} {Γ : Nat → Ctx} {gl : Str → PV} {free cst : List Str} {ds : List DefE} {fa : List He.Fa}
theorem fng_none {k : Nat} {f : Addr} {fd : FuncData} {ps : List Str} {sp : Spec} (h : ∀ as h Q R, sp as h Q R → False) : FnG P w K mg base k f fd ps sp :=
  ⟨fun _ _ _ _ _ _ _ _ _ _ _ _ _ _ _ ⟨_, _, _, _, _, z⟩ => (h _ _ _ _ z).elim⟩
theorem levels (hd : ∀ e ∈ ds, ∃ fd, FunD K e.d.name e.d.qual e.d.params e.d.body e.d.scope [] [] (He.fAd K e.d.at_) fd) (hmg : ∀ e ∈ ds, mg e.d.name = some (.ref (He.fAd K e.d.at_)))
    (hc : ds.all (DefE.ok (ds.map fun e => (e.d.name, e.ps)) free cst kws) = true) (hb : ∀ e ∈ ds, e.Bs) (hk : ∀ q ∈ kws, ∃ e ∈ ds, e.d.name = q.1 ∧ e.KBs q.2.1 q.2.2)
    (hfree : ∀ x, x ∈ free → mg x = none) (hcst : ∀ x, x ∈ cst → ∃ u w, mg x = some u ∧ RelV w u ∧ ∀ H, RepV K H (gl x) w)
    (h0 : ∀ f as h Q R, ((Γ 0).fn f as h Q R) → False)
    (hsp : ∀ k, ∀ e ∈ ds, ∀ as h Q R, as.length = e.ps.length → (Γ (k + 1)).fn e.d.name as h Q R → wpSs (Γ k) gl (fun _ => R) e.ss (startE e.N as) h (retE Q)) :
    ∀ k, ∀ e ∈ ds, ∀ fd, FunD K e.d.name e.d.qual e.d.params e.d.body e.d.scope [] [] (He.fAd K e.d.at_) fd → FnG P w K mg base k (He.fAd K e.d.at_) fd e.ps ((Γ k).fn e.d.name)
  | 0, e, he, fd, F => fng_none (h0 e.d.name)
  | k + 1, e, he, fd, F => by
    have ok := List.all_eq_true.mp hc e he
    unfold DefE.ok at ok
    obtain ⟨ok4, c5⟩ := band ok
    obtain ⟨ok3, c4⟩ := band ok4
    refine fng_chk F (C8.fnScope_by c4) c5 ?_ hfree hcst (fun f ks perm hq => ?_) (hsp k e he)
    rotate_left
    · obtain ⟨e2, he2, en, kb⟩ := hk _ hq
      obtain ⟨fd2, F2⟩ := hd e2 he2
      have en : e2.d.name = f := en
      rw [← en]
      exact ⟨_, fd2, e2.ps, hmg e2 he2, levels hd hmg hc hb hk hfree hcst h0 hsp k e2 he2 fd2 F2, F2.kp, kb_of F2 kb⟩
    intro f ps hf
    obtain ⟨e2, he2, q⟩ := List.mem_map.mp hf
    cases q
    obtain ⟨fd2, F2⟩ := hd e2 he2
    exact ⟨_, fd2, hmg e2 he2, levels hd hmg hc hb hk hfree hcst h0 hsp k e2 he2 fd2 F2, F2.kp, FunD.bindsN F2 fun kV doc pm an cdv ct us hl => hb e2 he2 e2.d.qual kV doc pm an cdv ct us hl⟩
end
/-- the end of a law -/
theorem walk_ev {l : PySem.W.OpenLaw} {n k : Nat} {q : Program} {loose : List Str} {XP : (Str → Option Value) → Heap → Prop} {YP : World → Heap → Prop} {d : DefRec} {x : Str}
    (hn : l.most = some n) (hn2 : n ≤ sizeLine) (hdf : d.params.defaults = []) (hr : Room k callerA)
    (F : ∀ (w : World) (mg : Str → Option Value) (fa : Addr) (h : Heap), YP w h → h.Ns mainGlobals mg → mg d.name = some (.ref fa) →
      ∃ (K : Frag) (fd : FuncData) (sp : Spec), K.In h ∧ (∀ (s : Shared) (u : Value), BindsTo s fd ⟨[u], []⟩ [(x, u)]) ∧
        (∀ base : Heap, K.In base → base.Ns mainGlobals mg → FnG l.prog w K mg base k fa fd [x] sp) ∧
        (∀ (ns : List Int) Q R, ns.length ≤ n → (∀ z ∈ ns, Builtin.Int.intBits z ≤ 1048576) → (∀ h, Q (.bl true) h) → sp [.scr (ns.map .int)] (fun _ => none) Q R)) :
    PySem.W.WalkO q loose XP YP l.row.toRowW d [] (fun f vs => PySem.call f vs) := by
  refine Att.attach_callB hn hdf fun w s0 s1 mg mb fa o pm cd doc a vs ns G Y ho hd hcd hmg hobj hi hlen hbits hg => ?_
  obtain ⟨K, fd, sp, kin, hb, hF, hsp⟩ := F w mg fa _ Y G.T.g hmg
  exact end_call kin G.T.g G.T.b G.T.builtins G.T.nolimit hg hobj hi (Nat.le_trans hlen hn2) hr hF hb fun Q R hq => hsp ns Q R hlen hbits hq
section
variable {K : Frag} {mg : Str → Option Value} {h : Heap} {fns : List (Str × List Str)} {free cst : List Str} {kws : List (Str × List Str × List Nat)} {ds : List DefE} {fa : List He.Fa}
theorem says_fact (c : He.SaysD fa (ds.map (·.d)) K) {f : He.Fa} (hf : f ∈ fa) : f.ok K = true := by
  obtain ⟨i, e⟩ := List.mem_iff_getElem?.mp hf
  exact c.fact i e
theorem says_at {e : DefE} (hc : e.ok fns free cst kws = true) : e.d.at_ = (e.d.name, none) ∧ e.d.dfl = [] ∧ e.d.kwd = [] := by
  unfold DefE.ok at hc
  obtain ⟨h4, _⟩ := band hc
  obtain ⟨h3, _⟩ := band h4
  obtain ⟨h2, z3⟩ := band h3
  obtain ⟨z1, z2⟩ := band h2
  exact ⟨of_decide_eq_true z1, List.isEmpty_iff.mp z2, List.isEmpty_iff.mp z3⟩
theorem says_defs (c : He.SaysD fa (ds.map (·.d)) K) (hc : ds.all (DefE.ok fns free cst kws) = true) : ∀ e ∈ ds, ∃ fd, FunD K e.d.name e.d.qual e.d.params e.d.body e.d.scope [] [] (He.fAd K e.d.at_) fd := by
  intro e he
  obtain ⟨i, hi⟩ := List.mem_iff_getElem?.mp he
  obtain ⟨_, e2, e3⟩ := says_at (List.all_eq_true.mp hc e he)
  have z := c.def_ i (d := e.d) (by rw [List.getElem?_map, hi]; rfl)
  unfold He.DefD.dvs He.DefD.kws at z
  rw [e2, e3] at z
  exact z
theorem says_glo (X : K.In h) (g : h.Ns mainGlobals mg) (c : He.SaysD fa (ds.map (·.d)) K) (hc : ds.all (DefE.ok fns free cst kws) = true) (hf : ∀ e ∈ ds, He.Fa.glo e.d.name ∈ fa) : ∀ e ∈ ds, mg e.d.name = some (.ref (He.fAd K e.d.at_)) := by
  intro e he
  rw [(says_at (List.all_eq_true.mp hc e he)).1]
  exact He.glo_ok X g (says_fact c (hf e he))
end
/-- the end of a law whose defs are all spelt -/
theorem ev_walk {l : PySem.W.OpenLaw} {n k m : Nat} {q : Program} {loose : List Str} {XP : (Str → Option Value) → Heap → Prop} {d : DefRec} {x : Str} {fa : List He.Fa} {ds : List DefE} {free : List Str} {kws : List (Str × List Str × List Nat)} {Γ : Nat → Ctx} {gl : Str → PV} (eL : DefE) (hL : eL ∈ ds) (hps : eL.ps = [x])
    (hn : l.most = some n) (hn2 : n ≤ sizeLine) (hdf : d.params.defaults = []) (hr : Room k callerA) (hname : d.name = eL.d.name) (hc : ds.all (DefE.ok (ds.map fun e => (e.d.name, e.ps)) free [] kws) = true) (hb : ∀ e ∈ ds, e.Bs) (hkw : ∀ q ∈ kws, ∃ e ∈ ds, e.d.name = q.1 ∧ e.KBs q.2.1 q.2.2)
    (hf1 : ∀ e ∈ ds, He.Fa.glo e.d.name ∈ fa) (hf2 : ∀ x ∈ free, He.Fa.free x ∈ fa) (h0 : ∀ f as h Q R, ((Γ 0).fn f as h Q R) → False)
    (hsp : ∀ k, ∀ e ∈ ds, ∀ as h Q R, as.length = e.ps.length → (Γ (k + 1)).fn e.d.name as h Q R → wpSs (Γ k) gl (fun _ => R) e.ss (startE e.N as) h (retE Q))
    (hlaw : ∀ (ns : List Int) Q R, ns.length ≤ n → (∀ z ∈ ns, Builtin.Int.intBits z ≤ 1048576) → (∀ h, Q (.bl true) h) → (Γ k).fn eL.d.name [.scr (ns.map .int)] (fun _ => none) Q R) :
    PySem.W.WalkO q loose XP (He.hookD m fa (ds.map (·.d))).says l.row.toRowW d [] (fun f vs => PySem.call f vs) := by
  refine walk_ev (x := x) hn hn2 hdf hr fun w mg f h Y g hmg => ?_
  obtain ⟨K, X, c⟩ := Y
  have gs := says_glo X g c hc hf1
  obtain ⟨fd, F⟩ := says_defs c hc eL hL
  have ef : f = He.fAd K eL.d.at_ := by
    have e := gs eL hL
    rw [← hname, hmg] at e
    exact Value.ref.inj (Option.some.inj e)
  subst ef
  refine ⟨K, fd, (Γ k).fn eL.d.name, X, fun s u => ?_, fun base hk hg => ?_, hlaw⟩
  · have z := FunD.bindsA (ps := eL.ps) F (fun kV doc pm an cdv ct us hl => hb eL hL eL.d.qual kV doc pm an cdv ct us hl) s [u] (by rw [hps]; rfl)
    rw [hps] at z
    exact z
  · have z := levels (base := base) (P := l.prog) (w := w) (says_defs c hc) gs hc hb hkw (fun x hx => He.free_ok X g (says_fact c (hf2 x hx))) (fun _ z => nomatch z) h0 hsp k eL hL fd F
    rw [hps] at z
    exact z
end Ev

set_option Elab.async false
set_option linter.all false
set_option maxRecDepth 100000
set_option maxHeartbeats 4000000
/-! Ev15: what the wishes say, step by step (for simp). -/
namespace Ev
open PySem PySem.Spec PyProof.Rows L2
theorem two_ex {P : PV → PV → MH → Prop} {x y : PV} {h : MH} : (∃ x1 y1, [x, y] = [x1, y1] ∧ P x1 y1 h) = P x y h := by
  apply propext
  constructor
  · rintro ⟨_, _, e, q⟩
    cases e; exact q
  · exact fun q => ⟨_, _, rfl, q⟩
theorem three_ex {P : PV → PV → PV → MH → Prop} {x y z : PV} {h : MH} : (∃ x1 y1 z1, [x, y, z] = [x1, y1, z1] ∧ P x1 y1 z1 h) = P x y z h := by
  apply propext
  constructor
  · rintro ⟨_, _, _, e, q⟩
    cases e; exact q
  · exact fun q => ⟨_, _, _, rfl, q⟩
theorem asLst_ref {h : MH} {p : Addr} {xs : List PV} : asLst h (.ref p) = some xs ↔ ∃ ys, h p = some (.lst ys) ∧ ys = xs := by
  show (match h p with | some (.lst xs) => some xs | _ => none) = some xs ↔ _
  constructor
  · intro e
    split at e
    · rename_i ys q; cases e; exact ⟨_, q, rfl⟩
    · cases e
  · rintro ⟨ys, e, rfl⟩
    simp only [e]
theorem map_inj {α β : Type} {f : α → β} (hf : ∀ a b, f a = f b → a = b) : ∀ {xs ys : List α}, xs.map f = ys.map f → xs = ys
  | [], [], _ => rfl
  | [], _ :: _, e => by cases e
  | _ :: _, [], e => by cases e
  | x :: xs, y :: ys, e => by
    simp only [List.map_cons, List.cons.injEq] at e
    rw [hf _ _ e.1, map_inj hf e.2]
section
variable {G : Ctx} {gl : Str → PV} {ρ : Env} {h : MH} {D : PEnds} {Q : PK} {ex : Env → XV}
@[simp] theorem x_nil : wpSs G gl ex .nil ρ h D = D.nx ρ h := rfl
@[simp] theorem x_cons {s ss} : wpSs G gl ex (.cons s ss) ρ h D = wpS G gl ex s ρ h { nx := fun ρ1 h1 => wpSs G gl ex ss ρ1 h1 D, rt := D.rt, bk := D.bk, ct := D.ct } := rfl
@[simp] theorem x_expr {a} : wpS G gl ex (.expr a) ρ h D = wpE G gl ex a ρ h fun _ h1 => D.nx ρ h1 := rfl
@[simp] theorem x_set {i a} : wpS G gl ex (.set i a) ρ h D = wpE G gl ex a ρ h fun x h1 => D.nx (ρ.set i (some x)) h1 := rfl
@[simp] theorem x_unp {t a} : wpS G gl ex (.unp t a) ρ h D = wpE G gl ex a ρ h fun x h1 => ∃ ρ2, t.set x ρ = some ρ2 ∧ D.nx ρ2 h1 := rfl
@[simp] theorem x_par {i j a b} : wpS G gl ex (.par i j a b) ρ h D = wpE G gl ex a ρ h fun x h1 => wpE G gl ex b ρ h1 fun y h2 => D.nx ((ρ.set i (some x)).set j (some y)) h2 := by
  show wpE G gl ex a ρ h (fun x h1 => wpE G gl ex b ρ h1 fun y h2 => ∃ x1 y1, [x, y] = [x1, y1] ∧ D.nx ((ρ.set i (some x1)).set j (some y1)) h2) = _
  simp only [two_ex (P := fun x1 y1 h2 => D.nx ((ρ.set i (some x1)).set j (some y1)) h2)]
@[simp] theorem x_sub {o i v} : wpS G gl ex (.sub o i v) ρ h D = wpE G gl ex v ρ h fun v h1 => wpE G gl ex o ρ h1 fun o h2 => wpE G gl ex i ρ h2 fun i h3 => setOp o i v h3 fun h4 => D.nx ρ h4 := rfl
/-- a return may forget objects -/
def Rt (K : PK) : PK := fun x h1 => ∃ h2, (∀ b o, h2 b = some o → h1 b = some o) ∧ K x h2
theorem Rt.now {K : PK} {x : PV} (q : K x h) : Rt K x h := ⟨h, fun _ _ e => e, q⟩
@[simp] theorem x_ret {a} : wpS G gl ex (.ret a) ρ h D = wpE G gl ex a ρ h (Rt D.rt) := rfl
@[simp] theorem x_ifs {t x y} : wpS G gl ex (.ifs t x y) ρ h D = wpB G gl ex t ρ h fun b h1 => if b = true then wpSs G gl ex x ρ h1 D else wpSs G gl ex y ρ h1 D := rfl
@[simp] theorem x_brk : wpS G gl ex .brk ρ h D = D.bk ρ h := rfl
@[simp] theorem x_cont : wpS G gl ex .cont ρ h D = D.ct ρ h := rfl
@[simp] theorem x_pass : wpS G gl ex .pass ρ h D = D.nx ρ h := rfl
@[simp] theorem x_var0 {x : PV} : wpE G gl ex (.var 0) (some x :: ρ) h Q = Q x h := by simp [wpE, wVar]
@[simp] theorem x_varS {i : Nat} {x : Option PV} : wpE G gl ex (.var (i + 1)) (x :: ρ) h Q = wpE G gl ex (.var i) ρ h Q := by simp [wpE, wVar]
@[simp] theorem x_int {i} : wpE G gl ex (.int i) ρ h Q = Q (.int i) h := rfl
@[simp] theorem x_bl {i} : wpE G gl ex (.bl i) ρ h Q = Q (.bl i) h := rfl
@[simp] theorem x_str {i} : wpE G gl ex (.str i) ρ h Q = Q (.str i) h := rfl
@[simp] theorem x_non : wpE G gl ex .non ρ h Q = Q .non h := rfl
@[simp] theorem x_glob {x} : wpE G gl ex (.glob x) ρ h Q = Q (gl x) h := rfl
@[simp] theorem x_tup {es} : wpE G gl ex (.tup es) ρ h Q = wpEs G gl ex es ρ h fun xs h1 => xs.length ≤ sizeLine ∧ Q (.tup xs) h1 := rfl
@[simp] theorem x_lst {m es} : wpE G gl ex (.lst m es) ρ h Q = wpEs G gl ex es ρ h fun xs h1 => xs.length ≤ sizeLine ∧ allocL m xs h1 Q := rfl
@[simp] theorem x_neg {a} : wpE G gl ex (.neg a) ρ h Q = wpE G gl ex a ρ h fun x h1 => opNeg x h1 Q := rfl
@[simp] theorem x_not {a} : wpE G gl ex (.not a) ρ h Q = wpE G gl ex a ρ h fun x h1 => opNot x h1 Q := rfl
@[simp] theorem x_and {a b} : wpE G gl ex (.and a b) ρ h Q = wpE G gl ex a ρ h fun x h1 => ∃ k, x = .bl k ∧ if k = true then wpE G gl ex b ρ h1 Q else Q (.bl false) h1 := rfl
@[simp] theorem x_or {a b} : wpE G gl ex (.or a b) ρ h Q = wpE G gl ex a ρ h fun x h1 => ∃ k, x = .bl k ∧ if k = true then Q (.bl true) h1 else wpE G gl ex b ρ h1 Q := rfl
@[simp] theorem x_ite {t a b} : wpE G gl ex (.ite t a b) ρ h Q = wpB G gl ex t ρ h fun k h1 => if k = true then wpE G gl ex a ρ h1 Q else wpE G gl ex b ρ h1 Q := rfl
@[simp] theorem x_bin {m op a b} : wpE G gl ex (.bin m op a b) ρ h Q = wpE G gl ex a ρ h fun x h1 => wpE G gl ex b ρ h1 fun y h2 => binOp m op x y h2 Q := rfl
@[simp] theorem x_cmp {op a b} : wpE G gl ex (.cmp op a b) ρ h Q = wpE G gl ex a ρ h fun x h1 => wpE G gl ex b ρ h1 fun y h2 => cmpOp op x y h2 Q := rfl
@[simp] theorem x_chain {op op' a b d} : wpE G gl ex (.chain op op' a b d) ρ h Q = wpE G gl ex a ρ h fun x h1 => wpE G gl ex b ρ h1 fun y h2 => cmpOp op x y h2 fun z h3 => ∃ k, z = .bl k ∧ (if k = true then wpE G gl ex d ρ h3 fun w h4 => cmpOp op' y w h4 Q else Q (.bl false) h3) := rfl
@[simp] theorem x_ix {a b} : wpE G gl ex (.ix a b) ρ h Q = wpE G gl ex a ρ h fun x h1 => wpE G gl ex b ρ h1 fun y h2 => opIx x y h2 Q := rfl
@[simp] theorem x_sl {m a lo hi} : wpE G gl ex (.sl m a lo hi) ρ h Q = wpE G gl ex a ρ h fun x h1 => wpO G gl ex lo ρ h1 fun l h2 => wpO G gl ex hi ρ h2 fun u h3 => opSl m x l u h3 Q := rfl
@[simp] theorem x_bi {m b es} : wpE G gl ex (.bi m b es) ρ h Q = wpEs G gl ex es ρ h fun xs h1 => biOp m b xs h1 Q := rfl
@[simp] theorem x_fn {f es} : wpE G gl ex (.fn f es) ρ h Q = wpEs G gl ex es ρ h fun xs h1 => G.fn f xs h1 Q (ex ρ) := rfl
@[simp] theorem x_app {a b} : wpE G gl ex (.app a b) ρ h Q = wpE G gl ex a ρ h fun x h1 => isRefL h1 x ∧ wpE G gl ex b ρ h1 fun y h2 => meOp .append x [y] h2 Q := rfl
@[simp] theorem x_ext {a b} : wpE G gl ex (.ext a b) ρ h Q = wpE G gl ex a ρ h fun x h1 => isRefL h1 x ∧ wpE G gl ex b ρ h1 fun y h2 => meOp .extend x [y] h2 Q := rfl
@[simp] theorem x_tix {lo a b} : wpE G gl ex (.tix lo a b) ρ h Q = wpE G gl ex a ρ h fun x h1 => isTupP x ∧ wpE G gl ex b ρ h1 fun y h2 => opTix lo x y h2 Q := rfl
@[simp] theorem x_pop {a} : wpE G gl ex (.pop a) ρ h Q = wpE G gl ex a ρ h fun x h1 => isRefL h1 x ∧ meOp .pop x [] h1 Q := rfl
@[simp] theorem x_frz {a} : wpE G gl ex (.frz a) ρ h Q = wpE G gl ex a ρ h fun x h1 => ∃ p xs, x = .ref p ∧ h1 p = some (.lst xs) ∧ Q (.lst xs) (mdel h1 p) := rfl
@[simp] theorem x_enil {Q : LK} : wpEs G gl ex .nil ρ h Q = Q [] h := rfl
@[simp] theorem x_econs {e es} {Q : LK} : wpEs G gl ex (.cons e es) ρ h Q = wpE G gl ex e ρ h fun x h1 => wpEs G gl ex es ρ h1 fun xs h2 => Q (x :: xs) h2 := rfl
@[simp] theorem x_val {a} {Q : Bool → MH → Prop} : wpB G gl ex (.val a) ρ h Q = wpE G gl ex a ρ h fun x h1 => ∃ k, truP h1 x k ∧ Q k h1 := rfl
@[simp] theorem x_andT {a b} {Q : Bool → MH → Prop} : wpB G gl ex (.and a b) ρ h Q = wpB G gl ex a ρ h fun k h1 => if k = true then wpB G gl ex b ρ h1 Q else Q false h1 := rfl
@[simp] theorem x_orT {a b} {Q : Bool → MH → Prop} : wpB G gl ex (.or a b) ρ h Q = wpB G gl ex a ρ h fun k h1 => if k = true then Q true h1 else wpB G gl ex b ρ h1 Q := rfl
@[simp] theorem x_notT {a} {Q : Bool → MH → Prop} : wpB G gl ex (.not a) ρ h Q = wpB G gl ex a ρ h fun k h1 => Q (!k) h1 := rfl
@[simp] theorem x_tt {Q : Bool → MH → Prop} : wpB G gl ex .tt ρ h Q = Q true h := rfl
@[simp] theorem x_omit {Q : Option Int → MH → Prop} : wpO G gl ex .omit ρ h Q = Q none h := rfl
@[simp] theorem x_part {a} {Q : Option Int → MH → Prop} : wpO G gl ex (.part a) ρ h Q = wpE G gl ex a ρ h fun x h1 => ∃ i, x = .int i ∧ Q (some i) h1 := rfl
@[simp] theorem x_seq {a} {Q : Items → MH → Prop} : wpW G gl ex (.seq a) ρ h Q = wpE G gl ex a ρ h fun x h1 => ∃ xs, itemsOf h1 x = some xs ∧ Q ⟨xs, keepOf x xs⟩ h1 := rfl
@[simp] theorem x_rng1 {a} {Q : Items → MH → Prop} : wpW G gl ex (.rng1 a) ρ h Q = wpE G gl ex a ρ h fun x h1 => ∃ j : Int, x = .int j ∧ (-(2 ^ 62) ≤ j ∧ j < 2 ^ 62) ∧ Q ⟨rangeP 0 1 j.toNat, fun _ => True⟩ h1 := by
  show wpE G gl ex a ρ h (fun x h1 => ∃ j : Int, [x] = [.int j] ∧ -(2 ^ 62) ≤ j ∧ j < 2 ^ 62 ∧ Q ⟨rangeP 0 1 j.toNat, fun _ => True⟩ h1) = _
  simp only [List.cons.injEq, and_true, and_assoc]
@[simp] theorem x_rng2 {a b} {Q : Items → MH → Prop} : wpW G gl ex (.rng2 a b) ρ h Q = wpE G gl ex a ρ h fun x h1 => wpE G gl ex b ρ h1 fun y h2 => ∃ i j : Int, x = .int i ∧ y = .int j ∧ (-(2 ^ 62) ≤ i ∧ i < 2 ^ 62 ∧ -(2 ^ 62) ≤ j ∧ j < 2 ^ 62) ∧ Q ⟨rangeP i 1 (j - i).toNat, fun _ => True⟩ h2 := by
  show wpE G gl ex a ρ h (fun x h1 => wpE G gl ex b ρ h1 fun y h2 => ∃ i j : Int, [x, y] = [.int i, .int j] ∧ (-(2 ^ 62) ≤ i ∧ i < 2 ^ 62 ∧ -(2 ^ 62) ≤ j ∧ j < 2 ^ 62) ∧ Q ⟨rangeP i 1 (j - i).toNat, fun _ => True⟩ h2) = _
  simp only [List.cons.injEq, and_true, and_assoc]
@[simp] theorem x_rng3 {a b d} {Q : Items → MH → Prop} : wpW G gl ex (.rng3 a b d) ρ h Q = wpE G gl ex a ρ h fun x h1 => wpE G gl ex b ρ h1 fun y h2 => wpE G gl ex d ρ h2 fun z h3 => ∃ (i j c : Int) (n : Nat), x = .int i ∧ y = .int j ∧ z = .int c ∧ RgC i j c n ∧ Q ⟨rangeP i c n, fun _ => True⟩ h3 := by
  show wpE G gl ex a ρ h (fun x h1 => wpE G gl ex b ρ h1 fun y h2 => wpE G gl ex d ρ h2 fun z h3 => ∃ (i j c : Int) (n : Nat), [x, y, z] = [.int i, .int j, .int c] ∧ RgC i j c n ∧ Q ⟨rangeP i c n, fun _ => True⟩ h3) = _
  simp only [List.cons.injEq, and_true, and_assoc]
@[simp] theorem x_fnk {f ks perm es} : wpE G gl ex (.fnk f ks perm es) ρ h Q = wpEs G gl ex es ρ h fun xs h1 => G.fn f (perm.map fun i => xs.getD i .non) h1 Q (ex ρ) := rfl
@[simp] theorem x_dix {a b} : wpE G gl ex (.dix a b) ρ h Q = wpE G gl ex a ρ h fun x h1 => wpE G gl ex b ρ h1 fun y h2 => opDix x y h2 Q := rfl
@[simp] theorem x_dnew : wpE G gl ex .dnew ρ h Q = ∀ p, h p = none → Q (.ref p) (mupd h p (.dK [])) := rfl
@[simp] theorem x_disp {ps} : wpE G gl ex (.disp ps) ρ h Q = wpPs G gl ex ps ρ h fun ps h1 => ∃ kvs, keysP ps = some kvs ∧ kvs.length ≤ 15 ∧ ∀ p, h1 p = none → Q (.ref p) (mupd h1 p (.dK (mergeP [] kvs))) := rfl
@[simp] theorem x_pnil {Q : List (PV × PV) → MH → Prop} : wpPs G gl ex .nil ρ h Q = Q [] h := rfl
@[simp] theorem x_pcons {a b ps} {Q : List (PV × PV) → MH → Prop} : wpPs G gl ex (.cons a b ps) ρ h Q = wpE G gl ex a ρ h fun x h1 => wpE G gl ex b ρ h1 fun y h2 => wpPs G gl ex ps ρ h2 fun ps h3 => Q ((x, y) :: ps) h3 := rfl
@[simp] theorem x_lr1 {m a} : wpE G gl ex (.lr1 m a) ρ h Q = wpE G gl ex a ρ h fun x h1 => ∃ j, x = .int j ∧ RgOk 0 j ∧ allocL m (rngL 0 j) h1 Q := rfl
@[simp] theorem x_lr2 {m a b} : wpE G gl ex (.lr2 m a b) ρ h Q = wpE G gl ex a ρ h fun x h1 => wpE G gl ex b ρ h1 fun y h2 => ∃ i j, x = .int i ∧ y = .int j ∧ RgOk i j ∧ allocL m (rngL i j) h2 Q := rfl
@[simp] theorem x_isi {a t} : wpE G gl ex (.isi a t) ρ h Q = wpE G gl ex a ρ h fun x h1 => opIsi t x h1 Q := rfl
theorem o_isi {t x n} (e : clsP h x = some n) : opIsi t x h Q = Q (.bl (isB t n)) h := by
  show (∃ n, clsP h x = some n ∧ Q (.bl (isB t n)) h) = _
  rw [e]; simp
@[simp] theorem o_isiI {t i} : opIsi t (.int i) h Q = Q (.bl (isB t "int")) h := o_isi rfl
@[simp] theorem o_isiB {t i} : opIsi t (.bl i) h Q = Q (.bl (isB t "bool")) h := o_isi rfl
@[simp] theorem o_isiS {t i} : opIsi t (.str i) h Q = Q (.bl (isB t "str")) h := o_isi rfl
@[simp] theorem o_isiN {t} : opIsi t .non h Q = Q (.bl (isB t "NoneType")) h := o_isi rfl
@[simp] theorem o_isiT {t xs} : opIsi t (.tup xs) h Q = Q (.bl (isB t "tuple")) h := o_isi rfl
@[simp] theorem o_isiL {t xs} : opIsi t (.lst xs) h Q = Q (.bl (isB t "list")) h := o_isi rfl
@[simp] theorem o_dixR {p y} : opDix (.ref p) y h Q = ∃ kvs k v, h p = some (.dK kvs) ∧ keyP y = some k ∧ lookP kvs k = some v ∧ Q v h := rfl
@[simp] theorem o_dputR {p y v} {Q : MH → Prop} : dputP (.ref p) y v h Q = ∃ kvs k, h p = some (.dK kvs) ∧ keyP y = some k ∧ kvs.length < sizeLine ∧ Q (mupd h p (.dK (putP kvs k v))) := rfl
@[simp] theorem x_par3 {i j l a b d} : wpS G gl ex (.par3 i j l a b d) ρ h D = wpE G gl ex a ρ h fun x h1 => wpE G gl ex b ρ h1 fun y h2 => wpE G gl ex d ρ h2 fun z h3 => D.nx (((ρ.set i (some x)).set j (some y)).set l (some z)) h3 := by
  show wpE G gl ex a ρ h (fun x h1 => wpE G gl ex b ρ h1 fun y h2 => wpE G gl ex d ρ h2 fun z h3 => ∃ x1 y1 z1, [x, y, z] = [x1, y1, z1] ∧ D.nx (((ρ.set i (some x1)).set j (some y1)).set l (some z1)) h3) = _
  simp only [three_ex (P := fun x1 y1 z1 h2 => D.nx (((ρ.set i (some x1)).set j (some y1)).set l (some z1)) h2)]
@[simp] theorem x_subp {o i t v} : wpS G gl ex (.subp o i t v) ρ h D = wpE G gl ex v ρ h fun v h1 => ∃ x y, v = .tup [x, y] ∧ wpE G gl ex o ρ h1 fun o h2 => wpE G gl ex i ρ h2 fun i h3 => setOp o i x h3 fun h4 => ∃ ρ2, t.set y ρ = some ρ2 ∧ D.nx ρ2 h4 := rfl
@[simp] theorem x_dput {o i v} : wpS G gl ex (.dput o i v) ρ h D = wpE G gl ex v ρ h fun v h1 => wpE G gl ex o ρ h1 fun o h2 => wpE G gl ex i ρ h2 fun i h3 => dputP o i v h3 fun h4 => D.nx ρ h4 := rfl
@[simp] theorem x_enum {a} {Q : Items → MH → Prop} : wpW G gl ex (.enum a) ρ h Q = wpE G gl ex a ρ h fun x h1 => ∃ xs, asLstW h1 x = some xs ∧ Q ⟨enumP xs, keepOf x xs⟩ h1 := rfl
@[simp] theorem x_zip {a b} {Q : Items → MH → Prop} : wpW G gl ex (.zip a b) ρ h Q = wpE G gl ex a ρ h fun x h1 => wpE G gl ex b ρ h1 fun y h2 => ∃ xs ys, ((asLstW h2 x = some xs ∧ asLstW h2 y = some ys) ∨ (x = .tup xs ∧ y = .tup ys)) ∧ Q ⟨zipP xs ys, fun h => keepOf x xs h ∧ keepOf y ys h⟩ h2 := rfl
/-- a cut behind a statement -/
theorem x_cut {s ss} (J : EK) (h1 : wpS G gl ex s ρ h ⟨J, D.rt, D.bk, D.ct⟩) (h2 : ∀ ρ1 h1, J ρ1 h1 → wpSs G gl ex ss ρ1 h1 D) : wpSs G gl ex (.cons s ss) ρ h D :=
  MonS.go (monS ex s) h1 ⟨h2, fun _ _ z => z, fun _ _ z => z, fun _ _ z => z⟩
/-- a cut behind an expression -/
theorem x_cutE {a} (J : PK) (h1 : wpE G gl ex a ρ h J) (h2 : ∀ x h1, J x h1 → Q x h1) : wpE G gl ex a ρ h Q := monE ex a _ _ _ _ h2 h1
/-! ### loops: the invariant is given -/
theorem x_for {t it b} (Iv : Nat → Env → MH → Prop) (hw : wpW G gl ex it ρ h fun its h1 => Iv 0 ρ h1 ∧
    (∀ i x ρ h2, its.xs[i]? = some x → Iv i ρ h2 → its.keep h2 ∧ ∃ ρ2, t.set x ρ = some ρ2 ∧ wpSs G gl ex b ρ2 h2 ⟨Iv (i + 1), D.rt, D.nx, Iv (i + 1)⟩) ∧ ∀ ρ h2, Iv its.xs.length ρ h2 → its.keep h2 ∧ D.nx ρ h2) : wpS G gl ex (.for_ t it b) ρ h D :=
  monW ex it _ _ _ _ (fun its h1 z => ⟨Iv, z⟩) hw
/-- what is walked: without a change of the heap -/
theorem x_forI {t it b} (its : Items) (Iv : Nat → Env → MH → Prop) (hI : ∀ Q : Items → MH → Prop, Q its h → wpW G gl ex it ρ h Q) (h0 : Iv 0 ρ h)
    (step : ∀ i x ρ h2, its.xs[i]? = some x → Iv i ρ h2 → its.keep h2 ∧ ∃ ρ2, t.set x ρ = some ρ2 ∧ wpSs G gl ex b ρ2 h2 ⟨Iv (i + 1), D.rt, D.nx, Iv (i + 1)⟩)
    (fin : ∀ ρ h2, Iv its.xs.length ρ h2 → its.keep h2 ∧ D.nx ρ h2) : wpS G gl ex (.for_ t it b) ρ h D :=
  x_for Iv (hI _ ⟨h0, step, fin⟩)
/-- for .. in range -/
theorem x_forR {t it b} (lo : Int) (n : Nat) (Iv : Nat → Env → MH → Prop) (hI : ∀ Q : Items → MH → Prop, Q ⟨rangeP lo 1 n, fun _ => True⟩ h → wpW G gl ex it ρ h Q) (h0 : Iv 0 ρ h)
    (step : ∀ i ρ h2, i < n → Iv i ρ h2 → ∃ ρ2, t.set (.int (lo + i)) ρ = some ρ2 ∧ wpSs G gl ex b ρ2 h2 ⟨Iv (i + 1), D.rt, D.nx, Iv (i + 1)⟩)
    (fin : ∀ ρ h2, Iv n ρ h2 → D.nx ρ h2) : wpS G gl ex (.for_ t it b) ρ h D := by
  refine x_forI ⟨rangeP lo 1 n, fun _ => True⟩ Iv hI h0 (fun i x ρ h2 hx iv => ?_) fun ρ h2 iv => ?_
  · have hi : i < n := by
      have := (List.getElem?_eq_some_iff.mp hx).1
      rwa [rangeP_len] at this
    rw [rangeP_get hi] at hx
    cases hx
    rw [Int.mul_one]
    exact ⟨trivial, step i ρ h2 hi iv⟩
  · rw [show (⟨rangeP lo 1 n, fun _ => True⟩ : Items).xs.length = n from rangeP_len lo 1 n] at iv
    exact ⟨trivial, fin ρ h2 iv⟩
/-- for .. in range, any step -/
theorem x_forC {t it b} (lo c : Int) (n : Nat) (Iv : Nat → Env → MH → Prop) (hI : ∀ Q : Items → MH → Prop, Q ⟨rangeP lo c n, fun _ => True⟩ h → wpW G gl ex it ρ h Q) (h0 : Iv 0 ρ h)
    (step : ∀ i ρ h2, i < n → Iv i ρ h2 → ∃ ρ2, t.set (.int (lo + i * c)) ρ = some ρ2 ∧ wpSs G gl ex b ρ2 h2 ⟨Iv (i + 1), D.rt, D.nx, Iv (i + 1)⟩)
    (fin : ∀ ρ h2, Iv n ρ h2 → D.nx ρ h2) : wpS G gl ex (.for_ t it b) ρ h D := by
  refine x_forI ⟨rangeP lo c n, fun _ => True⟩ Iv hI h0 (fun i x ρ h2 hx iv => ?_) fun ρ h2 iv => ?_
  · have hi : i < n := by
      have := (List.getElem?_eq_some_iff.mp hx).1
      rwa [rangeP_len] at this
    rw [rangeP_get hi] at hx
    cases hx
    exact ⟨trivial, step i ρ h2 hi iv⟩
  · rw [show (⟨rangeP lo c n, fun _ => True⟩ : Items).xs.length = n from rangeP_len lo c n] at iv
    exact ⟨trivial, fin ρ h2 iv⟩
/-- for .. in range, the range's end drawn -/
theorem x_forRJ {t it b} (lo : Int) (J : Nat → MH → Prop) (hw : wpW G gl ex it ρ h fun its h1 => ∃ n, its = ⟨rangeP lo 1 n, fun _ => True⟩ ∧ J n h1) (Iv : Nat → Nat → Env → MH → Prop) (h0 : ∀ n h1, J n h1 → Iv n 0 ρ h1)
    (step : ∀ n i ρ h2, i < n → Iv n i ρ h2 → ∃ ρ2, t.set (.int (lo + i)) ρ = some ρ2 ∧ wpSs G gl ex b ρ2 h2 ⟨Iv n (i + 1), D.rt, D.nx, Iv n (i + 1)⟩)
    (fin : ∀ n ρ h2, Iv n n ρ h2 → D.nx ρ h2) : wpS G gl ex (.for_ t it b) ρ h D := by
  refine monW ex it _ _ _ _ (fun its h1 ⟨n, e, j⟩ => ?_) hw
  subst e
  refine ⟨Iv n, h0 n h1 j, fun i x ρ h2 hx iv => ?_, fun ρ h2 iv => ?_⟩
  · have hx : (rangeP lo 1 n)[i]? = some x := hx
    have hi : i < n := by
      have := (List.getElem?_eq_some_iff.mp hx).1
      rwa [rangeP_len] at this
    rw [rangeP_get hi] at hx
    cases hx
    rw [Int.mul_one]
    exact ⟨trivial, step n i ρ h2 hi iv⟩
  · rw [show (⟨rangeP lo 1 n, fun _ => True⟩ : Items).xs.length = n from rangeP_len lo 1 n] at iv
    exact ⟨trivial, fin n ρ h2 iv⟩
theorem x_while {t b} (Iv : Nat → Env → MH → Prop) (n : Nat) (h0 : Iv n ρ h)
    (step : ∀ n ρ h, Iv n ρ h → wpB G gl ex t ρ h fun k h1 => if k = true then wpSs G gl ex b ρ h1 ⟨fun ρ2 h2 => ∃ n', n' < n ∧ Iv n' ρ2 h2, D.rt, D.nx, fun ρ2 h2 => ∃ n', n' < n ∧ Iv n' ρ2 h2⟩ else D.nx ρ h1) : wpS G gl ex (.while_ t b) ρ h D :=
  ⟨Iv, ⟨n, h0⟩, step⟩
theorem x_comp {m own t it cond elt} (Iv : Nat → List PV → MH → Prop) (hw : wpW G gl ex it ρ h fun its h1 => its.xs.length ≤ sizeLine ∧ Iv 0 [] h1 ∧
  (∀ i x acc h2, its.xs[i]? = some x → Iv i acc h2 → its.keep h2 ∧ ∃ ρ2, t.set x (wipeE ρ (own.map (·.2))) = some ρ2 ∧ wpB G gl (fun _ => noX) cond ρ2 h2 fun b h3 => if b = true then wpE G gl (fun _ => noX) elt ρ2 h3 fun y h4 => Iv (i + 1) (acc ++ [y]) h4 else Iv (i + 1) acc h3) ∧
  ∀ acc h2, Iv its.xs.length acc h2 → its.keep h2 ∧ allocL m acc h2 Q) : wpE G gl ex (.comp m own t it cond elt) ρ h Q :=
  monW ex it _ _ _ _ (fun its h1 z => ⟨z.1, Iv, z.2⟩) hw
theorem x_compI {m own t it cond elt} (its : Items) (Iv : Nat → List PV → MH → Prop) (hI : ∀ Q : Items → MH → Prop, Q its h → wpW G gl ex it ρ h Q) (hz : its.xs.length ≤ sizeLine) (h0 : Iv 0 [] h)
    (step : ∀ i x acc h2, its.xs[i]? = some x → Iv i acc h2 → its.keep h2 ∧ ∃ ρ2, t.set x (wipeE ρ (own.map (·.2))) = some ρ2 ∧ wpB G gl (fun _ => noX) cond ρ2 h2 fun b h3 => if b = true then wpE G gl (fun _ => noX) elt ρ2 h3 fun y h4 => Iv (i + 1) (acc ++ [y]) h4 else Iv (i + 1) acc h3)
    (fin : ∀ acc h2, Iv its.xs.length acc h2 → its.keep h2 ∧ allocL m acc h2 Q) : wpE G gl ex (.comp m own t it cond elt) ρ h Q :=
  x_comp Iv (hI _ ⟨hz, h0, step, fin⟩)
/-- over a range, every item -/
theorem x_compR {m own t it elt} (lo : Int) (n : Nat) (Iv : Nat → List PV → MH → Prop) (hI : ∀ Q : Items → MH → Prop, Q ⟨rangeP lo 1 n, fun _ => True⟩ h → wpW G gl ex it ρ h Q) (hz : n ≤ sizeLine) (h0 : Iv 0 [] h)
    (step : ∀ i acc h2, i < n → Iv i acc h2 → ∃ ρ2, t.set (.int (lo + i)) (wipeE ρ (own.map (·.2))) = some ρ2 ∧ wpE G gl (fun _ => noX) elt ρ2 h2 fun y h4 => Iv (i + 1) (acc ++ [y]) h4)
    (fin : ∀ acc h2, Iv n acc h2 → allocL m acc h2 Q) : wpE G gl ex (.comp m own t it .tt elt) ρ h Q := by
  refine x_compI ⟨rangeP lo 1 n, fun _ => True⟩ Iv hI (by rw [rangeP_len]; exact hz) h0 (fun i x acc h2 hx iv => ?_) fun acc h2 iv => ?_
  · have hi : i < n := by
      have := (List.getElem?_eq_some_iff.mp hx).1
      rwa [rangeP_len] at this
    rw [rangeP_get hi] at hx
    cases hx
    rw [Int.mul_one]
    exact ⟨trivial, step i acc h2 hi iv⟩
  · rw [show (⟨rangeP lo 1 n, fun _ => True⟩ : Items).xs.length = n from rangeP_len lo 1 n] at iv
    exact ⟨trivial, fin acc h2 iv⟩
/-- a comprehension of plain values -/
theorem x_fmap {m own t it cond elt} (g : PV → Option PV) (hw : wpW G gl ex it ρ h fun its h1 => its.xs.length ≤ sizeLine ∧ its.keep h1 ∧
  (∀ x ∈ its.xs, ∃ ρ2, t.set x (wipeE ρ (own.map (·.2))) = some ρ2 ∧ wpB G gl (fun _ => noX) cond ρ2 h1 fun b h2 => if b = true then wpE G gl (fun _ => noX) elt ρ2 h2 fun y h3 => h3 = h1 ∧ g x = some y else h2 = h1 ∧ g x = none) ∧
  allocL m (its.xs.filterMap g) h1 Q) : wpE G gl ex (.comp m own t it cond elt) ρ h Q := by
  refine monW ex it _ _ _ _ (fun its h1 ⟨hz, kp, st, al⟩ => ⟨hz, fun i acc h2 => h2 = h1 ∧ acc = (its.xs.take i).filterMap g, ⟨rfl, rfl⟩, ?_, ?_⟩) hw
  · rintro i x acc h2 hx ⟨rfl, rfl⟩
    obtain ⟨ρ2, es, q⟩ := st x (List.mem_of_getElem? hx)
    have tk : its.xs.take (i + 1) = its.xs.take i ++ [x] := by
      rw [List.take_add_one, hx]; rfl
    refine ⟨kp, ρ2, es, monB _ cond _ _ _ _ (fun b h3 z => ?_) q⟩
    cases b with
    | true =>
      refine monE _ elt _ _ _ _ (fun y h4 ⟨e1, e2⟩ => ⟨e1, ?_⟩) z
      rw [tk, List.filterMap_append, List.filterMap_cons, e2] <;> rfl
    | false =>
      obtain ⟨e1, e2⟩ := z
      refine ⟨e1, ?_⟩
      rw [tk, List.filterMap_append, List.filterMap_cons, e2]
      simp
  · rintro acc h2 ⟨rfl, rfl⟩
    refine ⟨kp, ?_⟩
    rw [List.take_length]
    exact al
theorem x_mapI {m own t it elt} (its : Items) (g : PV → PV) (hI : ∀ Q : Items → MH → Prop, Q its h → wpW G gl ex it ρ h Q) (hz : its.xs.length ≤ sizeLine) (kp : its.keep h)
    (st : ∀ x ∈ its.xs, ∃ ρ2, t.set x (wipeE ρ (own.map (·.2))) = some ρ2 ∧ wpE G gl (fun _ => noX) elt ρ2 h fun y h3 => h3 = h ∧ y = g x)
    (al : allocL m (its.xs.map g) h Q) : wpE G gl ex (.comp m own t it .tt elt) ρ h Q := by
  refine x_fmap (fun x => some (g x)) (hI _ ⟨hz, kp, fun x hx => ?_, ?_⟩)
  · obtain ⟨ρ2, es, q⟩ := st x hx
    exact ⟨ρ2, es, monE _ elt _ _ _ _ (fun y h3 ⟨e1, e2⟩ => ⟨e1, by rw [e2]⟩) q⟩
  · have e : its.xs.filterMap (fun x => some (g x)) = its.xs.map g := by simp
    rw [e]; exact al
/-- the items: of a list of ours -/
theorem x_fmapT {α : Type} {m own t it cond elt} (ts : List α) (enc : α → PV) (kp : MH → Prop) (g : α → Option PV) (hI : ∀ Q : Items → MH → Prop, Q ⟨ts.map enc, kp⟩ h → wpW G gl ex it ρ h Q) (hz : ts.length ≤ sizeLine) (hk : kp h)
    (st : ∀ x ∈ ts, ∃ ρ2, t.set (enc x) (wipeE ρ (own.map (·.2))) = some ρ2 ∧ wpB G gl (fun _ => noX) cond ρ2 h fun b h2 => if b = true then wpE G gl (fun _ => noX) elt ρ2 h2 fun y h3 => h3 = h ∧ g x = some y else h2 = h ∧ g x = none)
    (al : allocL m (ts.filterMap g) h Q) : wpE G gl ex (.comp m own t it cond elt) ρ h Q := by
  refine x_compI ⟨ts.map enc, kp⟩ (fun i acc h2 => h2 = h ∧ acc = (ts.take i).filterMap g) hI (by rw [List.length_map]; exact hz) ⟨rfl, rfl⟩ ?_ ?_
  · rintro i x acc h2 hx ⟨rfl, rfl⟩
    have hx : (ts.map enc)[i]? = some x := hx
    rw [List.getElem?_map] at hx
    obtain ⟨y, hy, rfl⟩ := Option.map_eq_some_iff.mp hx
    obtain ⟨ρ2, es, q⟩ := st y (List.mem_of_getElem? hy)
    have tk : ts.take (i + 1) = ts.take i ++ [y] := by
      rw [List.take_add_one, hy]; rfl
    refine ⟨hk, ρ2, es, monB _ cond _ _ _ _ (fun b h3 z => ?_) q⟩
    cases b with
    | true =>
      refine monE _ elt _ _ _ _ (fun y h4 ⟨e1, e2⟩ => ⟨e1, ?_⟩) z
      rw [tk, List.filterMap_append, List.filterMap_cons, e2] <;> rfl
    | false =>
      obtain ⟨e1, e2⟩ := z
      refine ⟨e1, ?_⟩
      rw [tk, List.filterMap_append, List.filterMap_cons, e2]
      simp
  · rintro acc h2 ⟨rfl, rfl⟩
    refine ⟨hk, ?_⟩
    have e : (⟨ts.map enc, kp⟩ : Items).xs.length = ts.length := List.length_map ..
    rw [e, List.take_length]
    exact al
theorem x_mapT {α : Type} {m own t it elt} (ts : List α) (enc : α → PV) (kp : MH → Prop) (g : α → PV) (hI : ∀ Q : Items → MH → Prop, Q ⟨ts.map enc, kp⟩ h → wpW G gl ex it ρ h Q) (hz : ts.length ≤ sizeLine) (hk : kp h)
    (st : ∀ x ∈ ts, ∃ ρ2, t.set (enc x) (wipeE ρ (own.map (·.2))) = some ρ2 ∧ wpE G gl (fun _ => noX) elt ρ2 h fun y h3 => h3 = h ∧ y = g x)
    (al : allocL m (ts.map g) h Q) : wpE G gl ex (.comp m own t it .tt elt) ρ h Q := by
  refine x_fmapT ts enc kp (fun x => some (g x)) hI hz hk (fun x hx => ?_) ?_
  · obtain ⟨ρ2, es, q⟩ := st x hx
    exact ⟨ρ2, es, monE _ elt _ _ _ _ (fun y h3 ⟨e1, e2⟩ => ⟨e1, by rw [e2]⟩) q⟩
  · have e : ts.filterMap (fun x => some (g x)) = ts.map g := by simp
    rw [e]; exact al
theorem x_map {m own t it elt} (g : PV → PV) (hw : wpW G gl ex it ρ h fun its h1 => its.xs.length ≤ sizeLine ∧ its.keep h1 ∧
  (∀ x ∈ its.xs, ∃ ρ2, t.set x (wipeE ρ (own.map (·.2))) = some ρ2 ∧ wpE G gl (fun _ => noX) elt ρ2 h1 fun y h3 => h3 = h1 ∧ y = g x) ∧
  allocL m (its.xs.map g) h1 Q) : wpE G gl ex (.comp m own t it .tt elt) ρ h Q := by
  refine x_fmap (fun x => some (g x)) (monW ex it _ _ _ _ (fun its h1 ⟨hz, kp, st, al⟩ => ⟨hz, kp, fun x hx => ?_, ?_⟩) hw)
  · obtain ⟨ρ2, es, q⟩ := st x hx
    exact ⟨ρ2, es, monE _ elt _ _ _ _ (fun y h3 ⟨e1, e2⟩ => ⟨e1, by rw [e2]⟩) q⟩
  · have e : its.xs.filterMap (fun x => some (g x)) = its.xs.map g := by simp
    rw [e]; exact al
/-! ### operations -/
@[simp] theorem o_add {m i j} : binOp m .add (.int i) (.int j) h Q = Q (.int (i + j)) h := rfl
@[simp] theorem o_addS {m a b} : binOp m .add (.str a) (.str b) h Q = (a.length + b.length ≤ sizeLine ∧ Q (.str (a ++ b)) h) := rfl
@[simp] theorem o_addT {m xs ys} : binOp m .add (.tup xs) (.tup ys) h Q = (xs.length + ys.length ≤ sizeLine ∧ Q (.tup (xs ++ ys)) h) := rfl
@[simp] theorem o_addL {m xs ys} : binOp m .add (.lst xs) (.lst ys) h Q = (xs.length + ys.length ≤ sizeLine ∧ allocL m (xs ++ ys) h Q) := by
  show (∃ xs' ys', some xs = some xs' ∧ some ys = some ys' ∧ xs'.length + ys'.length ≤ sizeLine ∧ allocL m (xs' ++ ys') h Q) = _
  simp
@[simp] theorem o_sub {m i j} : binOp m .sub (.int i) (.int j) h Q = Q (.int (i - j)) h := rfl
@[simp] theorem o_mul {m i j} : binOp m .mul (.int i) (.int j) h Q = ((CMul i j ∨ CMulW i j) ∧ Q (.int (i * j)) h) := rfl
@[simp] theorem o_fdiv {m i j} : binOp m .fdiv (.int i) (.int j) h Q = (CDivW i j ∧ Q (.int (i / j)) h) := rfl
@[simp] theorem o_mod {m i j} : binOp m .mod (.int i) (.int j) h Q = (0 < j ∧ Q (.int (i % j)) h) := rfl
@[simp] theorem o_pow {m i j} : binOp m .pow (.int i) (.int j) h Q = (CPow i j ∧ Q (.int (i ^ j.toNat)) h) := rfl
@[simp] theorem o_neg {i} : opNeg (.int i) h Q = Q (.int (-i)) h := rfl
@[simp] theorem o_lt {i j} : cmpOp .lt (.int i) (.int j) h Q = Q (.bl (decide (i < j))) h := rfl
@[simp] theorem o_le {i j} : cmpOp .le (.int i) (.int j) h Q = Q (.bl (decide (i ≤ j))) h := rfl
@[simp] theorem o_gt {i j} : cmpOp .gt (.int i) (.int j) h Q = Q (.bl (decide (j < i))) h := rfl
@[simp] theorem o_ge {i j} : cmpOp .ge (.int i) (.int j) h Q = Q (.bl (decide (j ≤ i))) h := rfl
@[simp] theorem o_eqS {a b} : cmpOp .eq (.str a) (.str b) h Q = Q (.bl (decide (a = b))) h := by
  show Q (.bl (false != decide (a = b))) h = _
  rw [Bool.false_bne]
@[simp] theorem o_neS {a b} : cmpOp .ne (.str a) (.str b) h Q = Q (.bl (!decide (a = b))) h := by
  show Q (.bl (true != decide (a = b))) h = _
  rw [Bool.true_bne]
theorem sh_int {i : Int} : SeqAt.shaped (.int i) = true := by simp [SeqAt.shaped, PyData.canLay0, PyData.depth]
theorem sh_bool {i : Bool} : SeqAt.shaped (.bool i) = true := by simp [SeqAt.shaped, PyData.canLay0, PyData.depth]
theorem sh_none : SeqAt.shaped .none = true := by simp [SeqAt.shaped, PyData.canLay0, PyData.depth]
theorem o_eqD {n : Bool} {x y : PV} {d e : PyData} (h1 : dat h x = some d) (h2 : dat h y = some e) (s1 : SeqAt.shaped d = true) (s2 : SeqAt.shaped e = true) (hs : ∀ a b, x = .str a → y ≠ .str b) : opEq n x y h Q = Q (.bl (n != PyData.eqv d e)) h := by
  have key : opEq n x y h Q = ∃ d e, dat h x = some d ∧ dat h y = some e ∧ SeqAt.shaped d = true ∧ SeqAt.shaped e = true ∧ Q (.bl (n != PyData.eqv d e)) h := by
    cases x <;> first | rfl | (cases y <;> first | rfl | exact (hs _ _ rfl rfl).elim)
  rw [key, h1, h2]
  apply propext
  constructor
  · rintro ⟨_, _, e1, e2, _, _, q⟩
    cases e1; cases e2; exact q
  · exact fun q => ⟨_, _, rfl, rfl, s1, s2, q⟩
@[simp] theorem o_eqI {i j} : cmpOp .eq (.int i) (.int j) h Q = Q (.bl (i == j)) h := by
  rw [show cmpOp .eq = opEq false from rfl, o_eqD (d := .int i) (e := .int j) rfl rfl sh_int sh_int (fun _ _ z => by cases z), Bool.false_bne]
  rfl
@[simp] theorem o_neI {i j} : cmpOp .ne (.int i) (.int j) h Q = Q (.bl (i != j)) h := by
  rw [show cmpOp .ne = opEq true from rfl, o_eqD (d := .int i) (e := .int j) rfl rfl sh_int sh_int (fun _ _ z => by cases z), Bool.true_bne]
  rfl
@[simp] theorem o_eqB {i j} : cmpOp .eq (.bl i) (.bl j) h Q = Q (.bl (i == j)) h := by
  rw [show cmpOp .eq = opEq false from rfl, o_eqD (d := .bool i) (e := .bool j) rfl rfl sh_bool sh_bool (fun _ _ z => by cases z), Bool.false_bne]
  rfl
@[simp] theorem o_neB {i j} : cmpOp .ne (.bl i) (.bl j) h Q = Q (.bl (i != j)) h := by
  rw [show cmpOp .ne = opEq true from rfl, o_eqD (d := .bool i) (e := .bool j) rfl rfl sh_bool sh_bool (fun _ _ z => by cases z), Bool.true_bne]
  rfl
@[simp] theorem o_eqEL {xs} : cmpOp .eqE (.lst xs) (.lst []) h Q = Q (.bl xs.isEmpty) h := by
  show (∃ ys, some xs = some ys ∧ Q (.bl (false != ys.isEmpty)) h) = _
  simp
@[simp] theorem o_neEL {xs} : cmpOp .neE (.lst xs) (.lst []) h Q = Q (.bl (!xs.isEmpty)) h := by
  show (∃ ys, some xs = some ys ∧ Q (.bl (true != ys.isEmpty)) h) = _
  simp
@[simp] theorem o_eqER {p} : cmpOp .eqE (.ref p) (.lst []) h Q = ∃ xs, h p = some (.lst xs) ∧ Q (.bl xs.isEmpty) h := by
  show (∃ ys, asLst h (.ref p) = some ys ∧ Q (.bl (false != ys.isEmpty)) h) = _
  apply propext
  constructor
  · rintro ⟨xs, e, q⟩
    obtain ⟨ys, e2, e3⟩ := asLst_ref.mp e
    subst e3
    exact ⟨_, e2, by simpa using q⟩
  · rintro ⟨xs, e, q⟩
    exact ⟨xs, asLst_ref.mpr ⟨xs, e, rfl⟩, by simpa using q⟩
@[simp] theorem o_neER {p} : cmpOp .neE (.ref p) (.lst []) h Q = ∃ xs, h p = some (.lst xs) ∧ Q (.bl (!xs.isEmpty)) h := by
  show (∃ ys, asLst h (.ref p) = some ys ∧ Q (.bl (true != ys.isEmpty)) h) = _
  apply propext
  constructor
  · rintro ⟨xs, e, q⟩
    obtain ⟨ys, e2, e3⟩ := asLst_ref.mp e
    subst e3
    exact ⟨_, e2, by simpa using q⟩
  · rintro ⟨xs, e, q⟩
    exact ⟨xs, asLst_ref.mpr ⟨xs, e, rfl⟩, by simpa using q⟩
@[simp] theorem o_eqET {xs} : cmpOp .eqE (.tup xs) (.tup []) h Q = Q (.bl xs.isEmpty) h := by
  show Q (.bl (false != xs.isEmpty)) h = _
  rw [Bool.false_bne]
@[simp] theorem o_neET {xs} : cmpOp .neE (.tup xs) (.tup []) h Q = Q (.bl (!xs.isEmpty)) h := by
  show Q (.bl (true != xs.isEmpty)) h = _
  rw [Bool.true_bne]
@[simp] theorem o_tru {b k} : truP h (.bl b) k = (k = b) := rfl
@[simp] theorem o_truI {i k} : truP h (.int i) k = (k = (i != 0)) := rfl
@[simp] theorem o_abs {m i} : biOp m .abs [.int i] h Q = Q (.int i.natAbs) h := rfl
@[simp] theorem o_intI {m i} : biOp m .int [.int i] h Q = Q (.int i) h := rfl
@[simp] theorem o_intB {m b} : biOp m .int [.bl b] h Q = Q (.int (if b then 1 else 0)) h := rfl
@[simp] theorem o_min {m i j} : biOp m .min [.int i, .int j] h Q = Q (.int (min i j)) h := rfl
@[simp] theorem o_max {m i j} : biOp m .max [.int i, .int j] h Q = Q (.int (max i j)) h := rfl
theorem o_lenD {m x ys} (e : asSeq h x = some ys) : biOp m .len [x] h Q = Q (.int ys.length) h := by
  have key : biOp m .len [x] h Q = ∃ ys, asSeq h x = some ys ∧ Q (.int ys.length) h := by
    cases x <;> first | rfl | cases e
  rw [key, e]
  simp
@[simp] theorem o_lenT {m xs} : biOp m .len [.tup xs] h Q = Q (.int xs.length) h := o_lenD rfl
@[simp] theorem o_lenL {m xs} : biOp m .len [.lst xs] h Q = Q (.int xs.length) h := o_lenD rfl
@[simp] theorem o_lenW {m xs} : biOp m .len [.scr xs] h Q = Q (.int xs.length) h := o_lenD rfl
@[simp] theorem o_lenSt {m z} : biOp m .len [.str z] h Q = (z.length ≤ sizeLine ∧ Q (.int z.length) h) := rfl
theorem o_tupleD {m x ys} (e : asSeq h x = some ys) : biOp m .tuple [x] h Q = Q (.tup ys) h := by
  show (∃ ys, asSeq h x = some ys ∧ Q (.tup ys) h) = _
  rw [e]
  simp
@[simp] theorem o_tupleT {m xs} : biOp m .tuple [.tup xs] h Q = Q (.tup xs) h := o_tupleD rfl
@[simp] theorem o_tupleL {m xs} : biOp m .tuple [.lst xs] h Q = Q (.tup xs) h := o_tupleD rfl
theorem o_sumD {m x} {ns : List Int} (e : asLstW h x = some (ns.map .int)) : biOp m .sum [x] h Q = Q (.int ns.sum) h := by
  show (∃ ns : List Int, asLstW h x = some (ns.map .int) ∧ Q (.int ns.sum) h) = _
  rw [e]
  apply propext
  constructor
  · rintro ⟨ms, e2, q⟩
    have : ns = ms := by
      exact map_inj (fun _ _ z => PV.int.inj z) (Option.some.inj e2)
    rw [this]; exact q
  · exact fun q => ⟨ns, rfl, q⟩
@[simp] theorem o_sumL {m} {ns : List Int} : biOp m .sum [.lst (ns.map .int)] h Q = Q (.int ns.sum) h := o_sumD rfl
@[simp] theorem o_allL {m} {bs : List Bool} : biOp m .all [.lst (bs.map .bl)] h Q = Q (.bl (bs.all id)) h := by
  show (∃ ns : List Bool, asLstW h (.lst (bs.map .bl)) = some (ns.map .bl) ∧ Q (.bl (ns.all id)) h) = _
  apply propext
  constructor
  · rintro ⟨ms, e2, q⟩
    have : bs = ms := map_inj (fun _ _ z => PV.bl.inj z) (Option.some.inj e2)
    rw [this]; exact q
  · exact fun q => ⟨bs, rfl, q⟩
@[simp] theorem o_anyL {m} {bs : List Bool} : biOp m .any [.lst (bs.map .bl)] h Q = Q (.bl (bs.any id)) h := by
  show (∃ ns : List Bool, asLstW h (.lst (bs.map .bl)) = some (ns.map .bl) ∧ Q (.bl (ns.any id)) h) = _
  apply propext
  constructor
  · rintro ⟨ms, e2, q⟩
    have : bs = ms := map_inj (fun _ _ z => PV.bl.inj z) (Option.some.inj e2)
    rw [this]; exact q
  · exact fun q => ⟨bs, rfl, q⟩
theorem o_repr {m x d} (e : dat h x = some d) (s : Shw d) (q : Q (.str d.shown) h) : biOp m .repr [x] h Q := ⟨d, e, s, q⟩
@[simp] theorem sz_line : sizeLine = 16777216 := by decide
/-! ### parts -/
theorem atI_nat {α : Type} {xs : List α} {i : Int} {n : Nat} (e : i = n) (hn : n < xs.length) : L2.atI xs i = xs[n]? := by
  subst e
  unfold L2.atI L2.ixN
  rw [if_pos (by omega), if_pos (by omega)]
  rfl
@[simp] theorem atI_0 {α : Type} {x : α} {xs : List α} : L2.atI (x :: xs) 0 = some x := (atI_nat (i := 0) (n := 0) rfl (by simp)).trans rfl
@[simp] theorem atI_1 {α : Type} {x y : α} {xs : List α} : L2.atI (x :: y :: xs) 1 = some y := (atI_nat (i := 1) (n := 1) rfl (by simp)).trans rfl
@[simp] theorem atI_2 {α : Type} {x y z : α} {xs : List α} : L2.atI (x :: y :: z :: xs) 2 = some z := (atI_nat (i := 2) (n := 2) rfl (by simp)).trans rfl
@[simp] theorem atI_3 {α : Type} {x y z u : α} {xs : List α} : L2.atI (x :: y :: z :: u :: xs) 3 = some u := (atI_nat (i := 3) (n := 3) rfl (by simp)).trans rfl
theorem o_ixD {x i xs v} (e : asSeq h x = some xs) (ev : L2.atI xs i = some v) : opIx x (.int i) h Q = Q v h := by
  have key : opIx x (.int i) h Q = ∃ xs v, asSeq h x = some xs ∧ L2.atI xs i = some v ∧ Q v h := by
    cases x <;> first | rfl | cases e
  rw [key]
  apply propext
  constructor
  · rintro ⟨_, _, e1, e2, q⟩
    rw [e] at e1; cases e1
    rw [ev] at e2; cases e2
    exact q
  · exact fun q => ⟨_, _, e, ev, q⟩
@[simp] theorem o_ixT {i xs} : opIx (.tup xs) (.int i) h Q = ∃ v, L2.atI xs i = some v ∧ Q v h := by
  show (∃ xs' v, some xs = some xs' ∧ L2.atI xs' i = some v ∧ Q v h) = _
  simp
@[simp] theorem o_ixL {i xs} : opIx (.lst xs) (.int i) h Q = ∃ v, L2.atI xs i = some v ∧ Q v h := by
  show (∃ xs' v, some xs = some xs' ∧ L2.atI xs' i = some v ∧ Q v h) = _
  simp
@[simp] theorem o_ixR {p i} : opIx (.ref p) (.int i) h Q = ∃ xs, h p = some (.lst xs) ∧ ∃ v, L2.atI xs i = some v ∧ Q v h := by
  show (∃ xs' v, asLst h (.ref p) = some xs' ∧ L2.atI xs' i = some v ∧ Q v h) = _
  apply propext
  constructor
  · rintro ⟨xs, v, e, q⟩
    obtain ⟨ys, e2, e3⟩ := asLst_ref.mp e
    subst e3
    exact ⟨_, e2, v, q⟩
  · rintro ⟨xs, e, v, q⟩
    exact ⟨xs, v, asLst_ref.mpr ⟨xs, e, rfl⟩, q⟩
@[simp] theorem o_setR {p i v} {Q : MH → Prop} : setOp (.ref p) (.int i) v h Q = ∃ xs, h p = some (.lst xs) ∧ ∃ j, L2.ixN xs.length i = some j ∧ Q (mupd h p (.lst (xs.set j v))) := by
  show (∃ xs' j, h p = some (.lst xs') ∧ L2.ixN xs'.length i = some j ∧ Q (mupd h p (.lst (xs'.set j v)))) = _
  apply propext
  constructor
  · rintro ⟨xs, j, e, q⟩; exact ⟨xs, e, j, q⟩
  · rintro ⟨xs, e, j, q⟩; exact ⟨xs, j, e, q⟩
@[simp] theorem o_lenR {m p} : biOp m .len [.ref p] h Q = ∃ xs, h p = some (.lst xs) ∧ Q (.int xs.length) h := by
  show (∃ ys, asLst h (.ref p) = some ys ∧ Q (.int ys.length) h) = _
  apply propext
  constructor
  · rintro ⟨xs, e, q⟩
    obtain ⟨ys, e2, e3⟩ := asLst_ref.mp e
    subst e3
    exact ⟨_, e2, q⟩
  · rintro ⟨xs, e, q⟩
    exact ⟨xs, asLst_ref.mpr ⟨xs, e, rfl⟩, q⟩
@[simp] theorem o_tupleR {m p} : biOp m .tuple [.ref p] h Q = ∃ xs, h p = some (.lst xs) ∧ Q (.tup xs) h := by
  show (∃ ys, asLst h (.ref p) = some ys ∧ Q (.tup ys) h) = _
  apply propext
  constructor
  · rintro ⟨xs, e, q⟩
    obtain ⟨ys, e2, e3⟩ := asLst_ref.mp e
    subst e3
    exact ⟨_, e2, q⟩
  · rintro ⟨xs, e, q⟩
    exact ⟨xs, asLst_ref.mpr ⟨xs, e, rfl⟩, q⟩
@[simp] theorem o_refL {p} : isRefL h (.ref p) = ∃ xs, h p = some (.lst xs) := rfl
@[simp] theorem o_appR {p y} : meOp .append (.ref p) [y] h Q = ∃ xs, h p = some (.lst xs) ∧ xs.length < sizeLine ∧ Q .non (mupd h p (.lst (xs ++ [y]))) := rfl
@[simp] theorem o_popR {p} : meOp .pop (.ref p) [] h Q = ∃ xs y, h p = some (.lst xs) ∧ xs[xs.length - 1]? = some y ∧ Q y (mupd h p (.lst xs.dropLast)) := rfl
@[simp] theorem o_extR {p q} : meOp .extend (.ref p) [.ref q] h Q = ∃ xs ys, h p = some (.lst xs) ∧ h q = some (.lst ys) ∧ xs.length + ys.length ≤ sizeLine ∧ Q .non (mupd h p (.lst (xs ++ ys))) := by
  show (∃ xs q' ys, h p = some (.lst xs) ∧ PV.ref q = .ref q' ∧ h q' = some (.lst ys) ∧ xs.length + ys.length ≤ sizeLine ∧ Q .non (mupd h p (.lst (xs ++ ys)))) = _
  apply propext
  constructor
  · rintro ⟨xs, q', ys, e, e2, z⟩; cases e2; exact ⟨xs, ys, e, z⟩
  · rintro ⟨xs, ys, e, z⟩; exact ⟨xs, q, ys, e, rfl, z⟩
@[simp] theorem o_slT {m xs lo hi} : opSl m (.tup xs) lo hi h Q = Q (.tup (cutP xs lo hi)) h := rfl
@[simp] theorem o_slW {m xs lo hi} : opSl m (.scr xs) lo hi h Q = allocL m (cutP xs lo hi) h Q := by
  show (∃ ys, some xs = some ys ∧ allocL m (cutP ys lo hi) h Q) = _
  simp
@[simp] theorem o_slL {m xs lo hi} : opSl m (.lst xs) lo hi h Q = allocL m (cutP xs lo hi) h Q := by
  show (∃ ys, some xs = some ys ∧ allocL m (cutP ys lo hi) h Q) = _
  simp
@[simp] theorem o_itT {xs} : itemsOf h (.tup xs) = some xs := rfl
@[simp] theorem o_itL {xs} : itemsOf h (.lst xs) = some xs := rfl
@[simp] theorem o_itW {xs} : itemsOf h (.scr xs) = some xs := rfl
@[simp] theorem o_itR {p xs} : itemsOf h (.ref p) = some xs ↔ h p = some (.lst xs) := by
  show asLst h (.ref p) = some xs ↔ _
  constructor
  · intro e
    obtain ⟨ys, e2, e3⟩ := asLst_ref.mp e
    subst e3; exact e2
  · exact fun e => asLst_ref.mpr ⟨xs, e, rfl⟩
@[simp] theorem o_kpT {xs ys} : keepOf (.tup xs) ys = fun _ => True := rfl
@[simp] theorem o_kpL {xs ys} : keepOf (.lst xs) ys = fun _ => True := rfl
@[simp] theorem o_kpW {xs ys} : keepOf (.scr xs) ys = fun _ => True := rfl
@[simp] theorem o_kpR {p ys} : keepOf (.ref p) ys = fun h => h p = some (.lst ys) := rfl
@[simp] theorem al_f {xs} : allocL false xs h Q = Q (.lst xs) h := rfl
@[simp] theorem al_t {xs} : allocL true xs h Q = ∀ p, h p = none → Q (.ref p) (mupd h p (.lst xs)) := rfl
@[simp] theorem set_name {i x} : ST.set (.name i) x ρ = some (ρ.set i (some x)) := rfl
@[simp] theorem set_tup {ts xs} : ST.set (.tup ts) (.tup xs) ρ = ts.set xs ρ := rfl
@[simp] theorem set_nil : STs.set .nil [] ρ = some ρ := rfl
@[simp] theorem set_cons {t ts x xs} : STs.set (.cons t ts) (x :: xs) ρ = (t.set x ρ).bind fun ρ' => ts.set xs ρ' := rfl
@[simp] theorem mupd_mm {p : Addr} {a b : MO} : mupd (mupd h p a) p b = mupd h p b := mupd_mupd
@[simp] theorem mupd_at {p : Addr} {a : MO} : mupd h p a p = some a := mupd_same
end
end Ev

set_option Elab.async false
set_option linter.all false
set_option maxRecDepth 100000
set_option maxHeartbeats 4000000
/-! Ev16: promises by levels; the laws' own draws. -/
namespace Ev
open PySem PySem.Spec PyProof.Rows L2
/-- a promise that may be weakened -/
structure SpM where
  run : Spec
  mono : ∀ as h (P Q : PK) (R T : XV), (∀ x h, P x h → Q x h) → (∀ c fs h, R c fs h → T c fs h) → run as h P R → run as h Q T
/-- the promises of a module's defs: each from its level on -/
def mkCtx (sp : List (Str × Nat × SpM)) (k : Nat) : Ctx where
  fn := fun f as h Q R => ∃ e, sp.lookup f = some e ∧ e.1 ≤ k ∧ 0 < e.1 ∧ e.2.run as h Q R
  mono := fun f as h P Q R T k1 k2 ⟨e, e1, e2, e3, e4⟩ => ⟨e, e1, e2, e3, e.2.mono as h P Q R T k1 k2 e4⟩
theorem ctx_call {sp : List (Str × Nat × SpM)} {k n : Nat} {f : Str} {s : SpM} (e : sp.lookup f = some (n + 1, s)) {as h Q R} : (mkCtx sp k).fn f as h Q R = (n < k ∧ s.run as h Q R) := by
  apply propext
  constructor
  · rintro ⟨e2, e1, z, _, q⟩
    rw [e] at e1; cases e1
    exact ⟨z, q⟩
  · rintro ⟨z, q⟩
    exact ⟨_, e, z, Nat.succ_pos _, q⟩
theorem ctx_zero {sp : List (Str × Nat × SpM)} {f : Str} {as h Q R} : (mkCtx sp 0).fn f as h Q R → False := by
  rintro ⟨e, _, h1, h2, _⟩
  omega

/-- promises that tell of the level themselves (defs that call themselves) -/
def mkCtxR (sp : List (Str × (Nat → SpM))) (k : Nat) : Ctx where
  fn := fun f as h Q R => ∃ e, sp.lookup f = some e ∧ 0 < k ∧ (e k).run as h Q R
  mono := fun f as h P Q R T k1 k2 ⟨e, e1, e2, e3⟩ => ⟨e, e1, e2, (e k).mono as h P Q R T k1 k2 e3⟩
/-- from level n + 1 on -/
def lev (n : Nat) (s : SpM) (k : Nat) : SpM where
  run := fun as h Q R => n < k ∧ s.run as h Q R
  mono := fun as h P Q R T k1 k2 ⟨e, z⟩ => ⟨e, s.mono as h P Q R T k1 k2 z⟩
theorem ctxR_lev {sp : List (Str × (Nat → SpM))} {k n : Nat} {f : Str} {s : SpM} (e : sp.lookup f = some (lev n s)) {as h Q R} : (mkCtxR sp k).fn f as h Q R = (n < k ∧ s.run as h Q R) := by
  apply propext
  constructor
  · rintro ⟨e2, e1, _, q⟩
    rw [e] at e1; cases e1
    exact q
  · rintro ⟨z, q⟩
    exact ⟨_, e, by omega, z, q⟩
theorem ctxR_rec {sp : List (Str × (Nat → SpM))} {k : Nat} {f : Str} {s : Nat → SpM} (e : sp.lookup f = some s) {as h Q R} : (mkCtxR sp k).fn f as h Q R = (0 < k ∧ (s k).run as h Q R) := by
  apply propext
  constructor
  · rintro ⟨e2, e1, z, q⟩
    rw [e] at e1; cases e1
    exact ⟨z, q⟩
  · rintro ⟨z, q⟩
    exact ⟨_, e, z, q⟩
theorem ctxR_zero {sp : List (Str × (Nat → SpM))} {f : Str} {as h Q R} : (mkCtxR sp 0).fn f as h Q R → False := by
  rintro ⟨e, _, h1, _⟩
  omega
/-- a plain function of its values, told by the level too -/
def pureR (P : Nat → List PV → PV → Prop) (k : Nat) : SpM where
  run := fun as h Q _ => ∃ v, P k as v ∧ Q v h
  mono := fun as h P Q R T k _ ⟨v, e, q⟩ => ⟨v, e, k _ _ q⟩

/-! ### sides -/
theorem cmR {i j : Int} (h : -(2 ^ 64) < j ∧ j < 2 ^ 64) : CMul i j ∨ CMulW i j := .inl (.inr h)
theorem cmL {i j : Int} (h : -(2 ^ 64) < i ∧ i < 2 ^ 64) : CMul i j ∨ CMulW i j := .inl (.inl h)
theorem cdw {i j : Int} (h : 0 < j) (h2 : j < 2 ^ 64) : CDivW i j := by
  refine ⟨h, ?_⟩
  have h3 : j.natAbs ≠ 0 := by omega
  have h4 : j.natAbs < 2 ^ 64 := by omega
  have := (Nat.log2_lt h3).mpr h4
  omega

/-! ### what the laws draw from -/
def dr (a b c : Int) : MO := .lst [.int a, .int b, .int c]
def Dr (h : MH) (p : Addr) : Prop := ∃ a b c, h p = some (dr a b c) ∧ 0 ≤ a
section
variable {h : MH} {p q : Addr} {a b c : Int}
@[simp] theorem dr_at : Dr (mupd h p (dr a b c)) p ↔ 0 ≤ a := by
  constructor
  · rintro ⟨a', b', c', e, z⟩
    rw [mupd_same] at e
    unfold dr at e
    simp only [Option.some.injEq, MO.lst.injEq, List.cons.injEq, PV.int.injEq] at e
    omega
  · exact fun z => ⟨a, b, c, mupd_same, z⟩
theorem Dr.ne {o : MO} (d : Dr h p) (e : p ≠ q) : Dr (mupd h q o) p := by
  obtain ⟨a, b, c, e1, z⟩ := d
  exact ⟨a, b, c, by rw [mupd_ne e]; exact e1, z⟩
theorem Dr.some (d : Dr h p) : ∃ o, h p = some o := let ⟨_, _, _, e, _⟩ := d; ⟨_, e⟩
end
/-- a number below n is drawn -/
def spNext : SpM where
  run := fun as h Q _ => match as with
    | [.ref p, .int n] => Dr h p ∧ 0 < n ∧ n < 2 ^ 64 ∧ ∀ d a b c, 0 ≤ a → 0 ≤ d → d < n → Q (.int d) (mupd h p (dr a b c))
    | _ => False
  mono := by
    intro as h P Q R T k _
    split
    · exact fun ⟨h1, h2, h3, q⟩ => ⟨h1, h2, h3, fun d a b c z1 z2 z3 => k _ _ (q d a b c z1 z2 z3)⟩
    · exact id
/-- one of some items is drawn -/
def spOne : SpM where
  run := fun as h Q _ => match as with
    | [.ref p, x] => ∃ xs, (x = .lst xs ∨ x = .tup xs) ∧ Dr h p ∧ xs ≠ [] ∧ xs.length < 2 ^ 32 ∧ ∀ v a b c, 0 ≤ a → v ∈ xs → Q v (mupd h p (dr a b c))
    | _ => False
  mono := by
    intro as h P Q R T k _
    split
    · exact fun ⟨xs, e, h1, h2, h3, q⟩ => ⟨xs, e, h1, h2, h3, fun v a b c z1 z2 => k _ _ (q v a b c z1 z2)⟩
    · exact id
/-- the draws begin -/
def spDraws : SpM where
  run := fun as h Q _ => match as with
    | [.scr xs] => (∃ ns : List Int, xs = ns.map .int ∧ ns.length ≤ 63) ∧ ∀ p a b c, h p = none → 0 ≤ a → Q (.ref p) (mupd h p (dr a b c))
    | _ => False
  mono := by
    intro as h P Q R T k _
    split
    · exact fun ⟨e, q⟩ => ⟨e, fun p a b c z1 z2 => k _ _ (q p a b c z1 z2)⟩
    · exact id
section
variable {h : MH} {Q : PK} {R : XV} {p : Addr}
@[simp] theorem r_next {n} : spNext.run [.ref p, .int n] h Q R = (Dr h p ∧ 0 < n ∧ n < 2 ^ 64 ∧ ∀ d a b c, 0 ≤ a → 0 ≤ d → d < n → Q (.int d) (mupd h p (dr a b c))) := rfl
@[simp] theorem r_oneL {xs} : spOne.run [.ref p, .lst xs] h Q R = (Dr h p ∧ xs ≠ [] ∧ xs.length < 2 ^ 32 ∧ ∀ v a b c, 0 ≤ a → v ∈ xs → Q v (mupd h p (dr a b c))) := by
  show (∃ xs', (PV.lst xs = .lst xs' ∨ PV.lst xs = .tup xs') ∧ _) = _
  simp
@[simp] theorem r_oneT {xs} : spOne.run [.ref p, .tup xs] h Q R = (Dr h p ∧ xs ≠ [] ∧ xs.length < 2 ^ 32 ∧ ∀ v a b c, 0 ≤ a → v ∈ xs → Q v (mupd h p (dr a b c))) := by
  show (∃ xs', (PV.tup xs = .lst xs' ∨ PV.tup xs = .tup xs') ∧ _) = _
  simp
@[simp] theorem r_draws {xs} : spDraws.run [.scr xs] h Q R = ((∃ ns : List Int, xs = ns.map .int ∧ ns.length ≤ 63) ∧ ∀ p a b c, h p = none → 0 ≤ a → Q (.ref p) (mupd h p (dr a b c))) := rfl
theorem i_next {as} (hs : spNext.run as h Q R) : ∃ p n, as = [.ref p, .int n] ∧ Dr h p ∧ 0 < n ∧ n < 2 ^ 64 ∧ ∀ d a b c, 0 ≤ a → 0 ≤ d → d < n → Q (.int d) (mupd h p (dr a b c)) := by
  simp only [spNext] at hs
  split at hs
  · exact ⟨_, _, rfl, hs⟩
  · exact hs.elim
theorem i_one {as} (hs : spOne.run as h Q R) : ∃ p x xs, as = [.ref p, x] ∧ (x = .lst xs ∨ x = .tup xs) ∧ Dr h p ∧ xs ≠ [] ∧ xs.length < 2 ^ 32 ∧ ∀ v a b c, 0 ≤ a → v ∈ xs → Q v (mupd h p (dr a b c)) := by
  simp only [spOne] at hs
  split at hs
  · obtain ⟨xs, z⟩ := hs; exact ⟨_, _, xs, rfl, z⟩
  · exact hs.elim
theorem i_draws {as} (hs : spDraws.run as h Q R) : ∃ ns : List Int, as = [.scr (ns.map .int)] ∧ ns.length ≤ 63 ∧ ∀ p a b c, h p = none → 0 ≤ a → Q (.ref p) (mupd h p (dr a b c)) := by
  simp only [spDraws] at hs
  split at hs
  · obtain ⟨⟨ns, rfl, z⟩, q⟩ := hs; exact ⟨ns, rfl, z, q⟩
  · exact hs.elim
end
/-- a plain function of its values -/
def pureS (P : List PV → PV → Prop) : SpM where
  run := fun as h Q _ => ∃ v, P as v ∧ Q v h
  mono := fun as h P Q R T k _ ⟨v, e, q⟩ => ⟨v, e, k _ _ q⟩
/-- draws, then a value: of the arguments behind the drawn -/
def drawS (P : List PV → PV → Prop) (ok : List PV → Prop) : SpM where
  run := fun as h Q _ => match as with
    | .ref p :: as => Dr h p ∧ ok as ∧ ∀ v a b c, P as v → 0 ≤ a → Q v (mupd h p (dr a b c))
    | _ => False
  mono := by
    intro as h P Q R T k _
    split
    · exact fun ⟨h1, h2, q⟩ => ⟨h1, h2, fun v a b c z1 z2 => k _ _ (q v a b c z1 z2)⟩
    · exact id
theorem r_draw {P ok p as h Q R} : (drawS P ok).run (.ref p :: as) h Q R ↔ (Dr h p ∧ ok as ∧ ∀ v a b c, P as v → 0 ≤ a → Q v (mupd h p (dr a b c))) := Iff.rfl
theorem i_draw {P ok as h Q R} (hs : (drawS P ok).run as h Q R) : ∃ p bs, as = .ref p :: bs ∧ Dr h p ∧ ok bs ∧ ∀ v a b c, P bs v → 0 ≤ a → Q v (mupd h p (dr a b c)) := by
  simp only [drawS] at hs
  split at hs
  · exact ⟨_, _, rfl, hs⟩
  · exact hs.elim
/-! ### rows that may be changed: m of them, n long -/
def Rows (h : MH) (q : Addr) (m n : Nat) (qs : List Addr) : Prop := h q = some (.lst (qs.map .ref)) ∧ qs.length = m ∧ ∀ p ∈ qs, p ≠ q ∧ ∃ r : List Int, h p = some (.lst (r.map .int)) ∧ r.length = n
theorem Rows.row {h : MH} {q : Addr} {m n : Nat} {qs : List Addr} (hr : Rows h q m n qs) {i : Nat} (h0 : i < m) : ∃ (p : Addr) (r : List Int), p ∈ qs ∧ L2.atI (qs.map PV.ref) i = some (.ref p) ∧ h p = some (.lst (r.map .int)) ∧ r.length = n := by
  obtain ⟨_, hl, hp⟩ := hr
  have hi : i < qs.length := by omega
  obtain ⟨_, r, e, l⟩ := hp qs[i] (List.getElem_mem hi)
  refine ⟨qs[i], r, List.getElem_mem hi, ?_, e, l⟩
  rw [atI_nat (n := i) rfl (by simpa using hi), List.getElem?_map, List.getElem?_eq_getElem hi]
  rfl
theorem at_int {r : List Int} {i : Nat} (h0 : i < r.length) : L2.atI (r.map PV.int) i = some (.int (r.getD i 0)) := by
  rw [atI_nat (n := i) rfl (by simpa using h0), List.getElem?_map, List.getD_eq_getElem?_getD, List.getElem?_eq_getElem h0]
  rfl
theorem ixN_nat {n i : Nat} (h0 : i < n) : L2.ixN n (i : Int) = some i := by
  unfold L2.ixN
  rw [if_pos (by omega), if_pos (by omega)]
  simp
theorem Rows.set {h : MH} {q : Addr} {m n : Nat} {qs : List Addr} {p : Addr} {r : List Int} (hr : Rows h q m n qs) (hp : p ∈ qs) (hl : r.length = n) : Rows (mupd h p (.lst (r.map .int))) q m n qs := by
  obtain ⟨e, hl2, ha⟩ := hr
  refine ⟨by rw [mupd_ne (Ne.symm (ha p hp).1)]; exact e, hl2, fun p' hp' => ⟨(ha p' hp').1, ?_⟩⟩
  by_cases z : p' = p
  · subst z; exact ⟨r, mupd_same, hl⟩
  · rw [mupd_ne z]; exact (ha p' hp').2
theorem Rows.other {h : MH} {q : Addr} {m n : Nat} {qs : List Addr} {p : Addr} {o : MO} (hr : Rows h q m n qs) (h1 : p ≠ q) (h2 : p ∉ qs) : Rows (mupd h p o) q m n qs :=
  ⟨by rw [mupd_ne (Ne.symm h1)]; exact hr.1, hr.2.1, fun p' hp' => ⟨(hr.2.2 p' hp').1, by rw [mupd_ne (show p' ≠ p from fun e => h2 (e ▸ hp'))]; exact (hr.2.2 p' hp').2⟩⟩
theorem Rows.add {h : MH} {q p : Addr} {m n : Nat} {qs : List Addr} {r : List Int} (hr : Rows h q m n qs) (hp : h p = some (.lst (r.map .int))) (hl : r.length = n) (hq : p ≠ q) : Rows (mupd h q (.lst ((qs ++ [p]).map .ref))) q (m + 1) n (qs ++ [p]) := by
  refine ⟨mupd_same, by rw [List.length_append, hr.2.1]; rfl, fun p' hp' => ?_⟩
  rcases List.mem_append.mp hp' with z | z
  · obtain ⟨z1, z2⟩ := hr.2.2 p' z
    exact ⟨z1, by rw [mupd_ne z1]; exact z2⟩
  · cases List.mem_singleton.mp z
    exact ⟨hq, r, by rw [mupd_ne hq]; exact hp, hl⟩
/-! ### a heap that grows, the drawn goes on -/
def Kp (p : Addr) (h h' : MH) : Prop := Dr h' p ∧ ∀ b o, b ≠ p → h b = some o → h' b = some o
section
variable {p q : Addr} {h h1 h2 : MH} {a b c : Int} {Q : PK} {v : PV} {o : MO}
theorem Kp.refl (d : Dr h p) : Kp p h h := ⟨d, fun _ _ _ e => e⟩
theorem Kp.trans (k : Kp p h h1) (k2 : Kp p h1 h2) : Kp p h h2 := ⟨k2.1, fun b o n e => k2.2 b o n (k.2 b o n e)⟩
theorem Kp.dr (k : Kp p h h1) (ha : 0 ≤ a) : Kp p h (mupd h1 p (dr a b c)) := ⟨dr_at.mpr ha, fun b' o n e => by rw [mupd_ne n]; exact k.2 b' o n e⟩
theorem Kp.of (ha : 0 ≤ a) : Kp p h (mupd h p (Ev.dr a b c)) := ⟨dr_at.mpr ha, fun b' o n e => by rw [mupd_ne n]; exact e⟩
theorem Kp.upd (k : Kp p h h1) (hq : h q = none) (n : p ≠ q) : Kp p h (mupd h1 q o) := ⟨k.1.ne n, fun b' o n2 e => by
  by_cases z : b' = q
  · subst z; rw [hq] at e; cases e
  · rw [mupd_ne z]; exact k.2 b' o n2 e⟩
theorem Dr.neq (d : Dr h p) (hq : h q = none) : p ≠ q := fun e => by
  obtain ⟨_, _, _, e2, _⟩ := d
  rw [e, hq] at e2; cases e2
theorem Kp.none (k : Kp p h h1) (hq : h1 q = none) (n : p ≠ q) : h q = none := by
  cases z : h q with
  | none => rfl
  | some o => rw [k.2 q o (Ne.symm n) z] at hq; cases hq
theorem Kp.ret (k : Kp p h h1) (hq : ∀ a b c, 0 ≤ a → Q v (mupd h p (Ev.dr a b c))) : Rt Q v h1 := by
  obtain ⟨⟨a, b, c, e, z⟩, k2⟩ := k
  refine ⟨_, fun b' o e2 => ?_, hq a b c z⟩
  by_cases n : b' = p
  · subst n; rw [mupd_same] at e2; cases e2; exact e
  · rw [mupd_ne n] at e2; exact k2 b' o n e2
end
/-! ### data of a fair size -/
structure Fit (k w : Nat) (d : PyData) : Prop where
  lay : d.canLay0 = true
  dep : d.depth ≤ k
  wt : d.weight ≤ w
  sh : d.intsShort 13 = true
  shw : d.showable = true
structure FitAll (k w : Nat) (ds : List PyData) : Prop where
  lay : PyData.canLayAll0 ds = true
  dep : PyData.depthAll ds ≤ k
  wt : PyData.weightAll ds ≤ w
  sh : PyData.intsShortAll 13 ds = true
  shw : PyData.showableAll ds = true
theorem Fit.mono {k w k' w' : Nat} {d : PyData} (f : Fit k w d) (h1 : k ≤ k') (h2 : w ≤ w') : Fit k' w' d := ⟨f.lay, Nat.le_trans f.dep h1, Nat.le_trans f.wt h2, f.sh, f.shw⟩
theorem Fit.non : Fit 0 0 .none := ⟨by simp [PyData.canLay0], by simp [PyData.depth], by simp [PyData.weight], by simp [PyData.intsShort], by simp [PyData.showable]⟩
theorem Fit.bl {b : Bool} : Fit 0 0 (.bool b) := ⟨by simp [PyData.canLay0], by simp [PyData.depth], by simp [PyData.weight], by simp [PyData.intsShort], by simp [PyData.showable]⟩
theorem int_short {i : Int} (h0 : -(10 ^ 12) < i) (h1 : i < 10 ^ 12) : (PyData.shown (.int i)).length ≤ 13 := by
  show (Str.ofString (toString i)).length ≤ 13
  by_cases z : 0 ≤ i
  · exact Nat.le_trans (PyProof.Rows.toString_length_le z (k := 12) (by decide) h1) (by decide)
  · have e := PyProof.Rows.toString_neg (n := i) (by omega)
    have l := PyProof.Rows.toString_length_le (v := 0 - i) (by omega) (k := 12) (by decide) (by omega)
    rw [PyProof.Rows.ofString_length] at l ⊢
    rw [e, String.toList_append, List.length_append]
    have : ("-" : String).toList.length = 1 := by decide
    omega
theorem log_lt {n k : Nat} (h : n < 2 ^ k) (hk : 0 < k) : n.log2 < k := by
  by_cases z : n = 0
  · subst z; exact hk
  · exact (Nat.log2_lt z).mpr h
theorem Fit.int {i : Int} (h0 : -(10 ^ 12) < i) (h1 : i < 10 ^ 12) : Fit 0 41 (.int i) := by
  have l : i.natAbs.log2 < 40 := log_lt (by omega) (by decide)
  refine ⟨by simp [PyData.canLay0], by simp [PyData.depth], ?_, ?_, ?_⟩
  · simp only [PyData.weight]
    split <;> omega
  · simp only [PyData.intsShort, decide_eq_true_eq]
    exact int_short h0 h1
  · simp only [PyData.showable, decide_eq_true_eq]
    omega
theorem Fit.str {x : Str} {w : Nat} (h : PyData.strOk x = true) (hw : x.cps.size ≤ w) : Fit 0 w (.str x) :=
  ⟨by simpa [PyData.canLay0] using h, by simp [PyData.depth], by simpa [PyData.weight] using hw, by simp [PyData.intsShort], by simp [PyData.showable]⟩
theorem FitAll.nil {k w : Nat} : FitAll k w [] := ⟨by simp [PyData.canLayAll0], by simp [PyData.depthAll], by simp [PyData.weightAll], by simp [PyData.intsShortAll], by simp [PyData.showableAll]⟩
theorem FitAll.cons {k w v : Nat} {d : PyData} {ds : List PyData} (f : Fit k w d) (g : FitAll k v ds) : FitAll k (w + 1 + v) (d :: ds) :=
  ⟨by simp only [PyData.canLayAll0, f.lay, g.lay, Bool.and_self], by simp only [PyData.depthAll]; exact Nat.max_le.mpr ⟨f.dep, g.dep⟩, by simp only [PyData.weightAll]; have := f.wt; have := g.wt; omega, by simp only [PyData.intsShortAll, f.sh, g.sh, Bool.and_self], by simp only [PyData.showableAll, f.shw, g.shw, Bool.and_self]⟩
theorem FitAll.mono {k w k' w' : Nat} {d : List PyData} (f : FitAll k w d) (h1 : k ≤ k') (h2 : w ≤ w') : FitAll k' w' d := ⟨f.lay, Nat.le_trans f.dep h1, Nat.le_trans f.wt h2, f.sh, f.shw⟩
theorem FitAll.of {k w : Nat} : ∀ {ds : List PyData}, (∀ d ∈ ds, Fit k w d) → FitAll k (ds.length * (w + 1)) ds
  | [], _ => .nil
  | d :: ds, h => (FitAll.cons (h d List.mem_cons_self) (FitAll.of fun x hx => h x (List.mem_cons_of_mem _ hx))).mono (Nat.le_refl _) (by rw [List.length_cons, Nat.succ_mul]; omega)
theorem Fit.tup {k w : Nat} {ds : List PyData} (f : FitAll k w ds) : Fit (k + 1) w (.tuple ds) :=
  ⟨by simpa only [PyData.canLay0] using f.lay, by simpa only [PyData.depth] using Nat.succ_le_succ f.dep, by simpa only [PyData.weight] using f.wt, by simpa only [PyData.intsShort] using f.sh, by simpa only [PyData.showable] using f.shw⟩
theorem Fit.lst {k w : Nat} {ds : List PyData} (f : FitAll k w ds) : Fit (k + 1) w (.list ds) :=
  ⟨by simpa only [PyData.canLay0] using f.lay, by simpa only [PyData.depth] using Nat.succ_le_succ f.dep, by simpa only [PyData.weight] using f.wt, by simpa only [PyData.intsShort] using f.sh, by simpa only [PyData.showable] using f.shw⟩
theorem Fit.shaped {k w : Nat} {d : PyData} (f : Fit k w d) (h : k ≤ 64) : SeqAt.shaped d = true := by
  unfold SeqAt.shaped
  rw [f.lay, decide_eq_true (Nat.le_trans f.dep h)] <;> rfl
theorem Fit.shw' {k w : Nat} {d : PyData} (f : Fit k w d) (h : k ≤ 60) (hw : w ≤ 1048576) : Shw d := by
  refine ⟨f.shw, ?_, Nat.le_trans f.dep h⟩
  exact PyData.shown_fits (B := 13) (by decide) (by decide) (PyData.leavesShort_of_canLay0 13 d f.lay f.sh) (Nat.le_trans f.wt (by simpa using hw))
theorem datL_map {α : Type} {g : Addr → Option PyData} {e : α → PV} {t : α → PyData} : ∀ {xs : List α}, (∀ x ∈ xs, datV g (e x) = some (t x)) → datL g (xs.map e) = some (xs.map t)
  | [], _ => rfl
  | x :: xs, h => by
    simp only [List.map_cons, datL, h x List.mem_cons_self, datL_map fun y hy => h y (List.mem_cons_of_mem _ hy)]
    rfl
theorem strs_lay : ∀ {xs : List Str}, xs.all PyData.strOk = true → PyData.canLayAll0 (xs.map .str) = true ∧ PyData.depthAll (xs.map .str) = 0
  | [], _ => ⟨rfl, rfl⟩
  | x :: xs, h => by
    simp only [List.all_cons] at h
    obtain ⟨h1, h2⟩ := band h
    obtain ⟨i1, i2⟩ := strs_lay h2
    exact ⟨by simp only [List.map_cons, PyData.canLayAll0, PyData.canLay0, h1, i1, Bool.and_self], by simp only [List.map_cons, PyData.depthAll, PyData.depth, i2, Nat.max_self]⟩
theorem any_str {a : Str} : ∀ {xs : List Str}, ((xs.map PyData.str).any fun z => PyData.eqv z (.str a)) = xs.any fun z => z == a
  | [] => rfl
  | x :: xs => by
    simp only [List.map_cons, List.any_cons, any_str, PyData.eqv]
/-! ### plain values of a fair size -/
def FP (k w : Nat) (x : PV) : Prop := ∃ d, (∀ g, datV g x = some d) ∧ Fit k w d
def FPL (k w : Nat) (xs : List PV) : Prop := ∃ ds, (∀ g, datL g xs = some ds) ∧ FitAll k w ds
theorem FP.mono {k w k' w' : Nat} {x : PV} (f : FP k w x) (h1 : k ≤ k') (h2 : w ≤ w') : FP k' w' x := let ⟨d, e, z⟩ := f; ⟨d, e, z.mono h1 h2⟩
theorem FP.int {i : Int} (h0 : -(10 ^ 12) < i) (h1 : i < 10 ^ 12) : FP 0 41 (.int i) := ⟨_, fun _ => rfl, .int h0 h1⟩
theorem FP.non : FP 0 0 .non := ⟨_, fun _ => rfl, .non⟩
theorem FP.bl {b : Bool} : FP 0 0 (.bl b) := ⟨_, fun _ => rfl, .bl⟩
theorem FP.str {x : Str} {w : Nat} (h : PyData.strOk x = true) (hw : x.cps.size ≤ w) : FP 0 w (.str x) := ⟨_, fun _ => rfl, .str h hw⟩
theorem FPL.nil {k : Nat} : FPL k 0 [] := ⟨[], fun _ => rfl, .nil⟩
theorem FPL.cons {k w v : Nat} {x : PV} {xs : List PV} (f : FP k w x) (g : FPL k v xs) : FPL k (w + 1 + v) (x :: xs) := by
  obtain ⟨d, e, z⟩ := f
  obtain ⟨ds, e2, z2⟩ := g
  refine ⟨d :: ds, fun g => ?_, .cons z z2⟩
  simp only [datL, e g, e2 g]
  rfl
theorem FPL.of {k w : Nat} : ∀ {xs : List PV}, (∀ x ∈ xs, FP k w x) → FPL k (xs.length * (w + 1)) xs
  | [], _ => by simpa using FPL.nil
  | x :: xs, h => by
    have z := FPL.cons (h x List.mem_cons_self) (FPL.of fun y hy => h y (List.mem_cons_of_mem _ hy))
    rw [List.length_cons, Nat.succ_mul, Nat.add_comm (xs.length * (w + 1))]
    exact z
theorem FPL.mono {k w k' w' : Nat} {x : List PV} (f : FPL k w x) (h1 : k ≤ k') (h2 : w ≤ w') : FPL k' w' x := let ⟨d, e, z⟩ := f; ⟨d, e, z.mono h1 h2⟩
theorem FP.tup {k w : Nat} {xs : List PV} (f : FPL k w xs) : FP (k + 1) w (.tup xs) := by
  obtain ⟨ds, e, z⟩ := f
  exact ⟨_, fun g => by simp only [datV, e g]; rfl, .tup z⟩
theorem FP.lst {k w : Nat} {xs : List PV} (f : FPL k w xs) : FP (k + 1) w (.lst xs) := by
  obtain ⟨ds, e, z⟩ := f
  exact ⟨_, fun g => by simp only [datV, e g]; rfl, .lst z⟩
/-- its repr -/
def reprP (x : PV) : Str := match datV (fun _ => none) x with
  | some d => d.shown
  | none => ""
theorem o_reprP {m : Bool} {k w : Nat} {x : PV} {h : MH} {Q : PK} (f : FP k w x) (hk : k ≤ 60) (hw : w ≤ 1048576) : biOp m .repr [x] h Q = Q (.str (reprP x)) h := by
  obtain ⟨d, e, z⟩ := f
  have er : reprP x = d.shown := by unfold reprP; rw [e]
  rw [er]
  show (∃ d, dat h x = some d ∧ Shw d ∧ Q (.str d.shown) h) = _
  rw [show dat h x = some d from e _]
  apply propext
  constructor
  · rintro ⟨_, e2, _, q⟩; cases e2; exact q
  · exact fun q => ⟨_, rfl, z.shw' hk hw, q⟩
/-- the data of a plain value -/
def dataP (x : PV) : PyData := (datV (fun _ => none) x).getD .none
theorem FP.dat {k w : Nat} {x : PV} (f : FP k w x) (h : MH) : dat h x = some (dataP x) := by
  obtain ⟨d, e, z⟩ := f
  unfold dataP
  rw [e]
  exact e _
theorem FP.shaped {k w : Nat} {x : PV} (f : FP k w x) (hk : k ≤ 64) : SeqAt.shaped (dataP x) = true := by
  obtain ⟨d, e, z⟩ := f
  unfold dataP
  rw [e]
  exact z.shaped hk
theorem o_eqP {n : Bool} {k w k' w' : Nat} {x y : PV} {h : MH} {Q : PK} (f : FP k w x) (g : FP k' w' y) (hk : k ≤ 64) (hk' : k' ≤ 64) (hs : ∀ a b, x = .str a → y ≠ .str b) : opEq n x y h Q = Q (.bl (n != PyData.eqv (dataP x) (dataP y))) h :=
  o_eqD (f.dat h) (g.dat h) (f.shaped hk) (g.shaped hk') hs
/-! ### dicts -/
theorem lookP_cons {p : Key × PV} {t : List (Key × PV)} {k : Key} : lookP (p :: t) k = if p.1 = k then some p.2 else lookP t k := by
  unfold lookP
  by_cases e : p.1 = k
  · rw [List.find?_cons_of_pos (by simpa using e), if_pos e]; rfl
  · rw [List.find?_cons_of_neg (by simpa using e), if_neg e]
theorem lookP_map {k j : Key} {v : PV} : ∀ {kvs : List (Key × PV)}, lookP (kvs.map fun kv => if kv.1 = k then (kv.1, v) else kv) j = if j = k then (if kvs.any (fun kv => decide (kv.1 = k)) then some v else none) else lookP kvs j
  | [] => by simp [lookP]
  | p :: kvs => by
    rw [List.map_cons, lookP_cons, lookP_map, lookP_cons, List.any_cons]
    by_cases e : p.1 = k
    · rw [if_pos e]
      by_cases ej : j = k
      · subst ej; simp [e]
      · have ne : ¬ p.1 = j := fun z => ej (z.symm.trans e)
        simp [ne, ej]
    · rw [if_neg e, decide_eq_false e, Bool.false_or]
      by_cases ej : j = k
      · subst ej; rw [if_pos rfl, if_pos rfl, if_neg e]
      · rw [if_neg ej, if_neg ej]
theorem lookP_snoc {k j : Key} {v : PV} : ∀ {kvs : List (Key × PV)}, kvs.any (fun kv => decide (kv.1 = k)) = false → lookP (kvs ++ [(k, v)]) j = if j = k then some v else lookP kvs j
  | [], _ => by
    rw [List.nil_append, lookP_cons]
    by_cases e : j = k
    · rw [if_pos e, if_pos e.symm]
    · rw [if_neg e, if_neg (fun z => e z.symm)]
  | p :: kvs, h => by
    rw [List.any_cons, Bool.or_eq_false_iff] at h
    rw [List.cons_append, lookP_cons, lookP_snoc h.2, lookP_cons]
    have np : ¬ p.1 = k := by simpa using h.1
    by_cases e : j = k
    · subst e; rw [if_neg np, if_pos rfl, if_pos rfl]
    · rw [if_neg e, if_neg e]
theorem lookP_put {kvs : List (Key × PV)} {k j : Key} {v : PV} : lookP (putP kvs k v) j = if j = k then some v else lookP kvs j := by
  unfold putP
  by_cases h : kvs.any (fun kv => decide (kv.1 = k)) = true
  · rw [if_pos h, lookP_map, if_pos h]
  · rw [if_neg h, lookP_snoc (Bool.eq_false_iff.mpr h)]
theorem length_putP (kvs : List (Key × PV)) (k : Key) (v : PV) : (putP kvs k v).length ≤ kvs.length + 1 := by
  unfold putP
  split
  · rw [List.length_map]; omega
  · rw [List.length_append]; simp
theorem length_putP_old {kvs : List (Key × PV)} {k : Key} {v x : PV} (e : lookP kvs k = some x) : (putP kvs k v).length = kvs.length := by
  unfold putP
  rw [if_pos, List.length_map]
  unfold lookP at e
  obtain ⟨p, e1, _⟩ := Option.map_eq_some_iff.mp e
  exact List.any_eq_true.mpr ⟨p, List.mem_of_find?_eq_some e1, by simpa using List.find?_some e1⟩
/-- a text in a tuple of texts -/
theorem o_inS {h : MH} {Q : PK} {a : Str} {xs : List Str} (ha : PyData.strOk a = true) (hx : xs.all PyData.strOk = true) : cmpOp .in_ (.str a) (.tup (xs.map .str)) h Q = Q (.bl (xs.any fun z => z == a)) h := by
  have e1 : datL (deref h 5) (xs.map .str) = some (xs.map .str) := datL_map (t := PyData.str) fun _ _ => rfl
  obtain ⟨l1, l2⟩ := strs_lay hx
  have s1 : SeqAt.shaped (.str a) = true := (Fit.str (w := a.cps.size) ha (Nat.le_refl _)).shaped (by decide)
  have s2 : SeqAt.shaped (.list (xs.map .str)) = true := by
    unfold SeqAt.shaped
    simp only [PyData.canLay0, l1, PyData.depth, l2]
    decide
  show (∃ ys d ds, some (xs.map PV.str) = some ys ∧ dat h (.str a) = some d ∧ datL (deref h 5) ys = some ds ∧ SeqAt.shaped d = true ∧ SeqAt.shaped (.list ds) = true ∧ Q (.bl (false != ds.any fun z => PyData.eqv z d)) h) = _
  apply propext
  constructor
  · rintro ⟨ys, d, ds, e, e2, e3, _, _, q⟩
    cases e
    cases e2
    rw [e1] at e3
    cases e3
    rw [any_str, Bool.false_bne] at q
    exact q
  · intro q
    exact ⟨_, _, _, rfl, rfl, e1, s1, s2, by rw [any_str, Bool.false_bne]; exact q⟩
/-- slices of a list's beginning -/
theorem cut_head {xs : List PV} {n : Nat} : ∃ m, cutP xs none (some (n : Int)) = xs.take m := by
  unfold cutP
  exact ⟨_, by rw [show HT.sIx xs.length 0 none = 0 from rfl, List.drop_zero]⟩
section
variable {h : MH} {Q : PK}
/-! ### tuples that are known -/
@[simp] theorem o_lenTd {m xs} : biOp m .len [.tpl xs] h Q = Q (.int xs.length) h := o_lenD rfl
@[simp] theorem o_tupleTd {m xs} : biOp m .tuple [.tpl xs] h Q = Q (.tup xs) h := o_tupleD rfl
@[simp] theorem o_tupdL {m xs} : biOp m .tupd [.lst xs] h Q = Q (.tpl xs) h := by
  show (∃ ys, some xs = some ys ∧ Q (.tpl ys) h) = _
  simp
@[simp] theorem o_tupdR {m p} : biOp m .tupd [.ref p] h Q = ∃ xs, h p = some (.lst xs) ∧ Q (.tpl xs) h := by
  show (∃ ys, asLst h (.ref p) = some ys ∧ Q (.tpl ys) h) = _
  apply propext
  constructor
  · rintro ⟨xs, e, q⟩
    obtain ⟨ys, e2, e3⟩ := asLst_ref.mp e
    subst e3
    exact ⟨_, e2, q⟩
  · rintro ⟨xs, e, q⟩
    exact ⟨xs, asLst_ref.mpr ⟨xs, e, rfl⟩, q⟩
@[simp] theorem o_ixTd {i xs} : opIx (.tpl xs) (.int i) h Q = ∃ v, L2.atI xs i = some v ∧ Q v h := by
  show (∃ xs' v, some xs = some xs' ∧ L2.atI xs' i = some v ∧ Q v h) = _
  simp
@[simp] theorem o_slTd {m xs lo hi} : opSl m (.tpl xs) lo hi h Q = Q (.tup (cutP xs lo hi)) h := rfl
@[simp] theorem o_itTd {xs} : itemsOf h (.tpl xs) = some xs := rfl
@[simp] theorem isTup_tpl {xs} : isTupP (.tpl xs) = True := rfl
theorem FP.tpl {k w : Nat} {xs : List PV} (f : FPL k w xs) : FP (k + 1) w (.tpl xs) := by
  obtain ⟨ds, e, z⟩ := f
  exact ⟨_, fun g => by simp only [datV, e g]; rfl, .tup z⟩
theorem cut_tail {xs : List PV} (hx : 1 ≤ xs.length) : cutP xs (some 1) none = xs.drop 1 := by
  unfold cutP
  have e : HT.sIx xs.length 0 (some 1) = 1 := (HT.sIx_nat xs.length 0 1).trans (by omega)
  rw [e, HT.sIx_none, List.take_of_length_le (by rw [List.length_drop]; omega)]
end
end Ev

set_option Elab.async false
set_option linter.all false
set_option maxRecDepth 100000
set_option maxHeartbeats 0
namespace Ev.Lw
open PySem PySem.Spec PyProof.Rows L2
def top (i : Nat) : Stmt := PySem.Challenge.pw_anydistance_k07_forms_and_their_values.main.body.getD i (.Pass ⟨0, 0, 0, 0⟩)
def dd (n : Str) (i : Nat) : He.DefD := ⟨(n, none), n, n, C8.fnArgs (top i), C8.fnBody (top i), C8.fnScope (top i), [], []⟩
/-- value_of -/
def s_value_of : Ss := (.cons (.set 3 (.int 0))
 (.cons (.for_ (.tup (.cons (.name 4) (.cons (.name 5) .nil))) (.seq (.var 0))
 (.cons (.set 3 (.bin false .add (.var 3) (.bin false .mul (.var 4) (.ite (.val (.cmp .eq (.var 5) (.str "r"))) (.var 2) (.ix (.ix (.var 1) (.ix (.var 5) (.int 0))) (.ix (.var 5) (.int 1)))))))
 .nil))
 (.cons (.ret (.var 3))
 .nil)))
def d_value_of : DefE := ⟨dd "value_of" 1, ["form", "table", "radius", "total", "coefficient", "unknown"], ["form", "table", "radius"], s_value_of⟩
/-- is_integer -/
def s_is_integer : Ss := (.cons (.ret (.and (.isi (.var 0) .int) (.not (.isi (.var 0) .bool))))
 .nil)
def d_is_integer : DefE := ⟨dd "is_integer" 2, ["value"], ["value"], s_is_integer⟩
/-- is_unknown -/
def s_is_unknown : Ss := (.cons (.ifs (.val (.isi (.var 0) .str))
 (.cons (.ret (.cmp .eq (.var 0) (.str "r")))
 .nil)
 .nil)
 (.cons (.ifs (.or (.not (.val (.isi (.var 0) .tuple))) (.or (.val (.cmp .ne (.bi false .len (.cons (.var 0) .nil)) (.int 2))) (.not (.val (.bi false .all (.cons (.comp false [("place", 2)] (.name 2) (.seq (.var 0)) .tt (.fn "is_integer" (.cons (.var 2) .nil))) .nil))))))
 (.cons (.ret (.bl false))
 .nil)
 .nil)
 (.cons (.ret (.and (.cmp .ne (.ix (.var 0) (.int 0)) (.ix (.var 0) (.int 1))) (.bi false .all (.cons (.comp false [("place", 2)] (.name 2) (.seq (.var 0)) .tt (.chain .le .lt (.int 0) (.var 2) (.var 1))) .nil))))
 .nil)))
def d_is_unknown : DefE := ⟨dd "is_unknown" 3, ["value", "places", "place"], ["value", "places"], s_is_unknown⟩
/-- is_form -/
def s_is_form : Ss := (.cons (.ifs (.not (.val (.isi (.var 0) .tuple)))
 (.cons (.ret (.bl false))
 .nil)
 .nil)
 (.cons (.for_ (.name 2) (.seq (.var 0))
 (.cons (.ifs (.or (.not (.val (.isi (.var 2) .tuple))) (.val (.cmp .ne (.bi false .len (.cons (.var 2) .nil)) (.int 2))))
 (.cons (.ret (.bl false))
 .nil)
 .nil)
 (.cons (.ifs (.or (.not (.val (.fn "is_integer" (.cons (.ix (.var 2) (.int 0)) .nil)))) (.not (.val (.fn "is_unknown" (.cons (.ix (.var 2) (.int 1)) (.cons (.var 1) .nil))))))
 (.cons (.ret (.bl false))
 .nil)
 .nil)
 .nil)))
 (.cons (.ret (.bl true))
 .nil)))
def d_is_form : DefE := ⟨dd "is_form" 4, ["value", "places", "term"], ["value", "places"], s_is_form⟩
/-- _law_draws -/
def s__law_draws : Ss := (.cons (.par 1 2 (.int 0) (.bin true .add (.int 29290) (.bin true .mul (.int 43) (.bi true .len (.cons (.var 0) .nil)))))
 (.cons (.for_ (.name 3) (.seq (.sl false (.var 0) .omit (.part (.int 60))))
 (.cons (.set 2 (.bin true .mod (.bin true .add (.bin true .add (.bin true .add (.bin true .mul (.var 2) (.int 1000003)) (.bin true .mul (.int 2) (.bi true .abs (.cons (.var 3) .nil)))) (.bi true .int (.cons (.cmp .lt (.var 3) (.int 0)) .nil))) (.int 31)) (.int 2305843009213693951)))
 (.cons (.ifs (.val (.cmp .ge (.bi false .abs (.cons (.var 3) .nil)) (.bin false .pow (.int 10) (.int 18))))
 (.cons (.set 1 (.bin true .add (.bin true .mul (.var 1) (.int 31)) (.bi true .abs (.cons (.var 3) .nil))))
 .nil)
 .nil)
 .nil)))
 (.cons (.ret (.lst true (.cons (.var 1) (.cons (.var 2) (.cons (.int 0) .nil)))))
 .nil)))
def d__law_draws : DefE := ⟨dd "_law_draws" 6, ["_law_script", "_law_large", "_law_mixed", "_law_cell"], ["_law_script"], s__law_draws⟩
/-- _law_next -/
def s__law_next : Ss := (.cons (.ifs (.val (.cmp .gt (.ix (.var 0) (.int 0)) (.int 0)))
 (.cons (.set 2 (.bin false .mod (.bi false .int (.cons (.ix (.var 0) (.int 0)) .nil)) (.var 1)))
 (.cons (.sub (.var 0) (.int 0) (.bin false .fdiv (.ix (.var 0) (.int 0)) (.var 1)))
 (.cons (.ret (.var 2))
 .nil)))
 .nil)
 (.cons (.sub (.var 0) (.int 2) (.bin false .add (.ix (.var 0) (.int 2)) (.int 1)))
 (.cons (.set 3 (.bin false .mod (.bin false .add (.bi false .int (.cons (.ix (.var 0) (.int 1)) .nil)) (.bin false .mul (.int 11400714819323198485) (.ix (.var 0) (.int 2)))) (.int 18446744073709551557)))
 (.cons (.set 3 (.bin false .mod (.bin false .mul (.var 3) (.bin false .add (.bin false .mod (.var 3) (.int 4294967291)) (.int 11))) (.int 2305843009213693951)))
 (.cons (.ret (.bin false .mod (.bin false .fdiv (.bin false .mod (.bin false .mul (.var 3) (.var 3)) (.int 2305843009213693921)) (.int 512)) (.var 1)))
 .nil)))))
def d__law_next : DefE := ⟨dd "_law_next" 7, ["_law_drawn", "_law_many", "_law_digit", "_law_mixed"], ["_law_drawn", "_law_many"], s__law_next⟩
/-- _law_one -/
def s__law_one : Ss := (.cons (.ret (.ix (.var 1) (.fn "_law_next" (.cons (.var 0) (.cons (.bi false .len (.cons (.var 1) .nil)) .nil)))))
 .nil)
def d__law_one : DefE := ⟨dd "_law_one" 8, ["_law_drawn", "_law_items"], ["_law_drawn", "_law_items"], s__law_one⟩
/-- _law_unknown -/
def s__law_unknown : Ss := (.cons (.ifs (.val (.cmp .eq (.fn "_law_next" (.cons (.var 0) (.cons (.int 7) .nil))) (.int 0)))
 (.cons (.ret (.str "r"))
 .nil)
 .nil)
 (.cons (.par 2 3 (.fn "_law_next" (.cons (.var 0) (.cons (.var 1) .nil))) (.bin false .add (.int 1) (.fn "_law_next" (.cons (.var 0) (.cons (.bin false .sub (.var 1) (.int 1)) .nil)))))
 (.cons (.ret (.tup (.cons (.var 2) (.cons (.bin false .mod (.bi false .int (.cons (.bin false .add (.var 2) (.var 3)) .nil)) (.var 1)) .nil))))
 .nil)))
def d__law_unknown : DefE := ⟨dd "_law_unknown" 9, ["_law_drawn", "_law_places", "_law_x", "_law_more"], ["_law_drawn", "_law_places"], s__law_unknown⟩
/-- _law_form -/
def s__law_form : Ss := (.cons (.set 2 (.lst true .nil))
 (.cons (.for_ (.name 3) (.rng1 (.bin false .add (.int 1) (.fn "_law_next" (.cons (.var 0) (.cons (.int 5) .nil)))))
 (.cons (.set 4 (.fn "_law_one" (.cons (.var 0) (.cons (.lst false (.cons (.int 1) (.cons (.int 1) (.cons (.neg (.int 1)) (.cons (.neg (.int 1)) (.cons (.int 2) (.cons (.neg (.int 2)) (.cons (.int 3) (.cons (.bin false .sub (.fn "_law_next" (.cons (.var 0) (.cons (.int 41) .nil))) (.int 20)) .nil))))))))) .nil))))
 (.cons (.expr (.app (.var 2) (.tup (.cons (.var 4) (.cons (.fn "_law_unknown" (.cons (.var 0) (.cons (.var 1) .nil))) .nil)))))
 .nil)))
 (.cons (.ret (.bi false .tuple (.cons (.var 2) .nil)))
 .nil)))
def d__law_form : DefE := ⟨dd "_law_form" 10, ["_law_drawn", "_law_places", "_law_found", "_law_k", "_law_coefficient"], ["_law_drawn", "_law_places"], s__law_form⟩
/-- _law_value -/
def s__law_value : Ss := (.cons (.ret (.bi false .sum (.cons (.comp false [("_law_c", 3), ("_law_unknown_here", 4)] (.tup (.cons (.name 3) (.cons (.name 4) .nil))) (.seq (.var 0)) .tt (.bin false .mul (.var 3) (.ite (.val (.cmp .eq (.var 4) (.str "r"))) (.var 2) (.ix (.ix (.var 1) (.ix (.var 4) (.int 0))) (.ix (.var 4) (.int 1)))))) .nil)))
 .nil)
def d__law_value : DefE := ⟨dd "_law_value" 11, ["_law_form_here", "_law_table", "_law_radius", "_law_c", "_law_unknown_here"], ["_law_form_here", "_law_table", "_law_radius"], s__law_value⟩
/-- _law_is_int -/
def s__law_is_int : Ss := (.cons (.ret (.and (.isi (.var 0) .int) (.not (.isi (.var 0) .bool))))
 .nil)
def d__law_is_int : DefE := ⟨dd "_law_is_int" 12, ["_law_value_here"], ["_law_value_here"], s__law_is_int⟩
/-- _law_is_form -/
def s__law_is_form : Ss := (.cons (.ifs (.not (.val (.isi (.var 0) .tuple)))
 (.cons (.ret (.bl false))
 .nil)
 .nil)
 (.cons (.for_ (.name 2) (.seq (.var 0))
 (.cons (.ifs (.or (.not (.val (.isi (.var 2) .tuple))) (.or (.val (.cmp .ne (.bi false .len (.cons (.var 2) .nil)) (.int 2))) (.not (.val (.fn "_law_is_int" (.cons (.ix (.var 2) (.int 0)) .nil))))))
 (.cons (.ret (.bl false))
 .nil)
 .nil)
 (.cons (.ifs (.val (.isi (.ix (.var 2) (.int 1)) .str))
 (.cons (.ifs (.val (.cmp .ne (.ix (.var 2) (.int 1)) (.str "r")))
 (.cons (.ret (.bl false))
 .nil)
 .nil)
 .nil)
 (.cons (.ifs (.or (.not (.val (.isi (.ix (.var 2) (.int 1)) .tuple))) (.or (.val (.cmp .ne (.bi false .len (.cons (.ix (.var 2) (.int 1)) .nil)) (.int 2))) (.val (.cmp .neE (.comp false [("_law_p", 3)] (.name 3) (.seq (.ix (.var 2) (.int 1))) (.not (.val (.fn "_law_is_int" (.cons (.var 3) .nil)))) (.var 3)) (.lst false .nil)))))
 (.cons (.ret (.bl false))
 .nil)
 (.cons (.ifs (.val (.cmp .eq (.ix (.ix (.var 2) (.int 1)) (.int 0)) (.ix (.ix (.var 2) (.int 1)) (.int 1))))
 (.cons (.ret (.bl false))
 .nil)
 (.cons (.ifs (.or (.val (.cmp .lt (.bi false .min (.cons (.ix (.var 2) (.int 1)) .nil)) (.int 0))) (.val (.cmp .ge (.bi false .max (.cons (.ix (.var 2) (.int 1)) .nil)) (.var 1))))
 (.cons (.ret (.bl false))
 .nil)
 .nil)
 .nil))
 .nil))
 .nil))
 .nil)))
 (.cons (.ret (.bl true))
 .nil)))
def d__law_is_form : DefE := ⟨dd "_law_is_form" 13, ["_law_value_here", "_law_places", "_law_term", "_law_p"], ["_law_value_here", "_law_places"], s__law_is_form⟩
/-- _law_bent -/
def s__law_bent : Ss := (.cons (.set 2 (.lst false (.cons (.bl true) (.cons .non (.cons (.str "r") (.cons (.str "R") (.cons (.str "") (.cons (.int 0) (.cons (.tup (.cons (.int 0) (.cons (.int 1) .nil))) (.cons (.tup (.cons (.int 1) (.cons (.int 1) .nil))) (.cons (.tup (.cons (.int 0) (.cons (.neg (.int 1)) .nil))) (.cons (.tup (.cons (.int 0) (.cons (.int 9) .nil))) (.cons (.tup (.cons (.bl true) (.cons (.int 2) .nil))) (.cons (.lst false (.cons (.int 0) (.cons (.int 1) .nil))) (.cons (.tup (.cons (.int 0) (.cons (.int 1) (.cons (.int 2) .nil)))) .nil)))))))))))))))
 (.cons (.set 2 (.fn "_law_one" (.cons (.var 0) (.cons (.var 2) .nil))))
 (.cons (.par3 3 4 5 (.bi false .list (.cons (.var 1) .nil)) (.fn "_law_next" (.cons (.var 0) (.cons (.bin false .add (.bi false .len (.cons (.var 1) .nil)) (.int 1)) .nil))) (.fn "_law_next" (.cons (.var 0) (.cons (.int 7) .nil))))
 (.cons (.ifs (.val (.cmp .eq (.var 5) (.int 0)))
 (.cons (.ret (.fn "_law_one" (.cons (.var 0) (.cons (.lst false (.cons (.bi false .list (.cons (.var 1) .nil)) (.cons (.var 2) (.cons .non (.cons (.str "r") (.cons (.tup (.cons (.var 2) .nil)) (.cons (.tup (.cons (.tup (.cons (.int 1) (.cons (.var 2) .nil))) .nil)) .nil))))))) .nil))))
 .nil)
 .nil)
 (.cons (.ifs (.val (.cmp .eq (.var 5) (.int 1)))
 (.cons (.set 3 (.bin false .add (.bin false .add (.sl false (.var 3) .omit (.part (.var 4))) (.lst false (.cons (.var 2) .nil))) (.sl false (.var 3) (.part (.var 4)) .omit)))
 .nil)
 .nil)
 (.cons (.ifs (.val (.cmp .eq (.var 5) (.int 2)))
 (.cons (.set 3 (.bin false .add (.bin false .add (.sl false (.var 3) .omit (.part (.var 4))) (.lst false (.cons (.tup (.cons (.int 1) (.cons (.var 2) .nil))) .nil))) (.sl false (.var 3) (.part (.var 4)) .omit)))
 .nil)
 .nil)
 (.cons (.ifs (.val (.cmp .eq (.var 5) (.int 3)))
 (.cons (.set 3 (.bin false .add (.bin false .add (.sl false (.var 3) .omit (.part (.var 4))) (.lst false (.cons (.tup (.cons (.var 2) (.cons (.str "r") .nil))) .nil))) (.sl false (.var 3) (.part (.var 4)) .omit)))
 .nil)
 .nil)
 (.cons (.ifs (.val (.cmp .eq (.var 5) (.int 4)))
 (.cons (.set 3 (.bin false .add (.bin false .add (.sl false (.var 3) .omit (.part (.var 4))) (.lst false (.cons (.fn "_law_one" (.cons (.var 0) (.cons (.lst false (.cons (.tup (.cons (.int 1) .nil)) (.cons (.tup .nil) (.cons (.tup (.cons (.int 1) (.cons (.str "r") (.cons (.int 1) .nil)))) (.cons (.lst false (.cons (.int 1) (.cons (.str "r") .nil))) (.cons (.tup (.cons (.int 1) (.cons (.tup (.cons (.int 0) (.cons (.int 1) .nil))) (.cons (.int 0) .nil)))) .nil)))))) .nil))) .nil))) (.sl false (.var 3) (.part (.var 4)) .omit)))
 .nil)
 .nil)
 (.cons (.ret (.bi false .tuple (.cons (.var 3) .nil)))
 .nil)))))))))
def d__law_bent : DefE := ⟨dd "_law_bent" 14, ["_law_drawn", "_law_form_here", "_law_odd", "_law_some", "_law_spot", "_law_sort"], ["_law_drawn", "_law_form_here"], s__law_bent⟩
/-- law -/
def s_law : Ss := (.cons (.set 1 (.fn "_law_draws" (.cons (.var 0) .nil)))
 (.cons (.for_ (.name 2) (.rng1 (.int 8))
 (.cons (.set 3 (.bin false .add (.int 2) (.fn "_law_next" (.cons (.var 1) (.cons (.int 4) .nil)))))
 (.cons (.unp (.tup (.cons (.name 4) (.cons (.name 5) .nil))) (.tup (.cons (.fn "_law_form" (.cons (.var 1) (.cons (.var 3) .nil))) (.cons (.lst false (.cons (.int 1) (.cons (.int 1) (.cons (.bin false .pow (.int 10) (.int 4)) (.cons (.bin false .mul (.neg (.int 5)) (.bin false .pow (.int 10) (.int 4))) .nil))))) .nil))))
 (.cons (.set 4 (.bi false .tuple (.cons (.comp false [("_law_c", 6), ("_law_name", 7)] (.tup (.cons (.name 6) (.cons (.name 7) .nil))) (.seq (.var 4)) .tt (.tup (.cons (.bin false .mul (.var 6) (.fn "_law_one" (.cons (.var 1) (.cons (.var 5) .nil)))) (.cons (.var 7) .nil)))) .nil)))
 (.cons (.set 4 (.sl false (.bin false .add (.bin false .mul (.var 4) (.int 14)) (.fn "_law_form" (.cons (.var 1) (.cons (.var 3) .nil)))) .omit (.part (.fn "_law_one" (.cons (.var 1) (.cons (.lst false (.cons (.int 0) (.cons (.int 8) (.cons (.int 60) (.cons (.fn "_law_next" (.cons (.var 1) (.cons (.int 61) .nil))) .nil))))) .nil))))))
 (.cons (.unp (.tup (.cons (.name 8) (.cons (.name 9) .nil))) (.tup (.cons (.fn "_law_one" (.cons (.var 1) (.cons (.lst false (.cons (.int 5) (.cons (.int 1000) (.cons (.bin false .pow (.int 10) (.int 60)) .nil)))) .nil))) (.cons (.lst true .nil) .nil))))
 (.cons (.for_ (.name 10) (.rng1 (.var 3))
 (.cons (.expr (.app (.var 9) (.bi false .tuple (.cons (.comp false [("_law_y", 11)] (.name 11) (.rng1 (.var 3)) .tt (.ite (.val (.cmp .eq (.var 10) (.var 11))) (.int 0) (.fn "_law_next" (.cons (.var 1) (.cons (.var 8) .nil))))) .nil))))
 .nil))
 (.cons (.set 12 (.fn "_law_next" (.cons (.var 1) (.cons (.var 8) .nil))))
 (.cons (.set 13 (.bi false .repr (.cons (.lst false (.cons (.var 4) (.cons (.var 9) .nil))) .nil)))
 (.cons (.set 14 (.comp false [("_law_again", 15)] (.name 15) (.rng1 (.int 2)) .tt (.fn "value_of" (.cons (.var 4) (.cons (.bi false .tuple (.cons (.var 9) .nil)) (.cons (.var 12) .nil))))))
 (.cons (.ifs (.val (.cmp .ne (.bi false .repr (.cons (.var 14) .nil)) (.bi false .repr (.cons (.bin false .mul (.lst false (.cons (.fn "_law_value" (.cons (.var 4) (.cons (.var 9) (.cons (.var 12) .nil)))) .nil)) (.int 2)) .nil))))
 (.cons (.ret (.bl false))
 .nil)
 .nil)
 (.cons (.for_ (.name 16) (.rng1 (.int 4))
 (.cons (.unp (.tup (.cons (.name 17) (.cons (.name 18) .nil))) (.tup (.cons (.fn "_law_bent" (.cons (.var 1) (.cons (.var 4) .nil))) (.cons (.fn "_law_one" (.cons (.var 1) (.cons (.lst false (.cons (.var 3) (.cons (.var 3) (.cons (.int 2) (.cons (.int 5) (.cons (.int 10) .nil)))))) .nil))) .nil))))
 (.cons (.par 19 20 (.bi false .repr (.cons (.var 17) .nil)) (.fn "_law_is_form" (.cons (.var 17) (.cons (.var 18) .nil))))
 (.cons (.set 14 (.comp false [("_law_again", 15)] (.name 15) (.rng1 (.int 2)) .tt (.fn "is_form" (.cons (.var 17) (.cons (.var 18) .nil)))))
 (.cons (.ifs (.or (.val (.cmp .ne (.bi false .repr (.cons (.var 14) .nil)) (.bi false .repr (.cons (.lst false (.cons (.var 20) (.cons (.var 20) .nil))) .nil)))) (.val (.cmp .ne (.bi false .repr (.cons (.var 17) .nil)) (.var 19))))
 (.cons (.ret (.bl false))
 .nil)
 .nil)
 .nil)))))
 (.cons (.set 21 (.bin false .mul (.bin false .add (.var 4) (.tup (.cons (.tup (.cons (.bin false .pow (.int 10) (.int 7)) (.cons (.str "r") .nil))) (.cons (.tup (.cons (.bin false .sub (.neg (.int 1)) (.bin false .pow (.int 10) (.int 30))) (.cons (.tup (.cons (.int 0) (.cons (.int 1) .nil))) .nil))) .nil)))) (.int 31)))
 (.cons (.set 22 (.lst false (.cons (.fn "is_form" (.cons (.var 4) (.cons (.var 3) .nil))) (.cons (.fn "is_form" (.cons (.tup .nil) (.cons (.int 2) .nil))) (.cons (.fn "is_form" (.cons (.var 21) (.cons (.var 3) .nil))) .nil)))))
 (.cons (.ifs (.or (.val (.cmp .ne (.bi false .repr (.cons (.var 22) .nil)) (.bi false .repr (.cons (.lst false (.cons (.bl true) (.cons (.bl true) (.cons (.bl true) .nil)))) .nil)))) (.val (.cmp .ne (.bi false .repr (.cons (.lst false (.cons (.var 4) (.cons (.var 9) .nil))) .nil)) (.var 13))))
 (.cons (.ret (.bl false))
 .nil)
 .nil)
 .nil)))))))))))))))
 (.cons (.ret (.bl true))
 .nil)))
def d_law : DefE := ⟨dd "law" 15, ["_law_script", "_law_drawn", "_law_turn", "_law_places", "_law_form_here", "_law_some", "_law_c", "_law_name", "_law_far", "_law_rows", "_law_x", "_law_y", "_law_radius", "_law_held", "_law_found", "_law_again", "_law_k", "_law_value_here", "_law_many", "_law_kept", "_law_due", "_law_great", "_law_told"], ["_law_script"], s_law⟩

def ds : List DefE := [d_value_of, d_is_integer, d_is_unknown, d_is_form, d__law_draws, d__law_next, d__law_one, d__law_unknown, d__law_form, d__law_value, d__law_is_int, d__law_is_form, d__law_bent, d_law]
def fns : List (Str × List Str) := ds.map fun e => (e.d.name, e.ps)
def free : List Str := ["abs", "all", "bool", "int", "isinstance", "len", "list", "max", "min", "range", "repr", "str", "sum", "tuple"]
def cst : List Str := []
def kws : List (Str × List Str × List Nat) := []
theorem ds_ok : ds.all (DefE.ok (ds.map fun e => (e.d.name, e.ps)) free cst kws) = true := by decide +kernel
theorem b_value_of : d_value_of.Bs := fun _ _ _ _ _ _ _ us hl => match us, hl with | [_, _, _], _ => rfl
theorem b_is_integer : d_is_integer.Bs := fun _ _ _ _ _ _ _ us hl => match us, hl with | [_], _ => rfl
theorem b_is_unknown : d_is_unknown.Bs := fun _ _ _ _ _ _ _ us hl => match us, hl with | [_, _], _ => rfl
theorem b_is_form : d_is_form.Bs := fun _ _ _ _ _ _ _ us hl => match us, hl with | [_, _], _ => rfl
theorem b__law_draws : d__law_draws.Bs := fun _ _ _ _ _ _ _ us hl => match us, hl with | [_], _ => rfl
theorem b__law_next : d__law_next.Bs := fun _ _ _ _ _ _ _ us hl => match us, hl with | [_, _], _ => rfl
theorem b__law_one : d__law_one.Bs := fun _ _ _ _ _ _ _ us hl => match us, hl with | [_, _], _ => rfl
theorem b__law_unknown : d__law_unknown.Bs := fun _ _ _ _ _ _ _ us hl => match us, hl with | [_, _], _ => rfl
theorem b__law_form : d__law_form.Bs := fun _ _ _ _ _ _ _ us hl => match us, hl with | [_, _], _ => rfl
theorem b__law_value : d__law_value.Bs := fun _ _ _ _ _ _ _ us hl => match us, hl with | [_, _, _], _ => rfl
theorem b__law_is_int : d__law_is_int.Bs := fun _ _ _ _ _ _ _ us hl => match us, hl with | [_], _ => rfl
theorem b__law_is_form : d__law_is_form.Bs := fun _ _ _ _ _ _ _ us hl => match us, hl with | [_, _], _ => rfl
theorem b__law_bent : d__law_bent.Bs := fun _ _ _ _ _ _ _ us hl => match us, hl with | [_, _], _ => rfl
theorem b_law : d_law.Bs := fun _ _ _ _ _ _ _ us hl => match us, hl with | [_], _ => rfl
theorem hkw : ∀ q ∈ kws, ∃ e ∈ ds, e.d.name = q.1 ∧ e.KBs q.2.1 q.2.2 := fun _ h => (nomatch h)
end Ev.Lw

set_option Elab.async false
set_option linter.all false
set_option maxRecDepth 100000
set_option maxHeartbeats 4000000
namespace Ev.Lw
open PySem PySem.Spec PyProof.Rows L2
section
variable {G : Ctx} {gl : Str → PV} {ρ : Env} {h : MH} {D : PEnds} {Q : PK} {R : XV} {ex : Env → XV} {k : Nat} {as : List PV}
/-! ### a number in a list of numbers -/
theorem ints_lay : ∀ {xs : List Int}, PyData.canLayAll0 (xs.map .int) = true ∧ PyData.depthAll (xs.map .int) = 0
  | [] => ⟨rfl, rfl⟩
  | x :: xs => by
    obtain ⟨i1, i2⟩ := ints_lay (xs := xs)
    exact ⟨by simp only [List.map_cons, PyData.canLayAll0, PyData.canLay0, i1, Bool.and_self], by simp only [List.map_cons, PyData.depthAll, PyData.depth, i2, Nat.max_self]⟩
theorem any_int {a : Int} : ∀ {xs : List Int}, ((xs.map PyData.int).any fun z => PyData.eqv z (.int a)) = xs.any fun z => z == a
  | [] => rfl
  | x :: xs => by
    simp only [List.map_cons, List.any_cons, any_int, PyData.eqv]
theorem o_notInI {h : MH} {Q : PK} {a : Int} {xs : List Int} : cmpOp .notIn (.int a) (.lst (xs.map .int)) h Q = Q (.bl (!xs.any fun z => z == a)) h := by
  have e1 : datL (deref h 5) (xs.map .int) = some (xs.map .int) := datL_map (t := PyData.int) fun _ _ => rfl
  obtain ⟨l1, l2⟩ := ints_lay (xs := xs)
  have s1 : SeqAt.shaped (.int a) = true := by
    unfold SeqAt.shaped
    simp [PyData.canLay0, PyData.depth]
  have s2 : SeqAt.shaped (.list (xs.map .int)) = true := by
    unfold SeqAt.shaped
    simp only [PyData.canLay0, l1, PyData.depth, l2]
    decide
  show (∃ ys d ds, some (xs.map PV.int) = some ys ∧ dat h (.int a) = some d ∧ datL (deref h 5) ys = some ds ∧ SeqAt.shaped d = true ∧ SeqAt.shaped (.list ds) = true ∧ Q (.bl (true != ds.any fun z => PyData.eqv z d)) h) = _
  apply propext
  constructor
  · rintro ⟨ys, d, ds, e, e2, e3, _, _, q⟩
    cases e
    cases e2
    rw [e1] at e3
    cases e3
    rw [any_int, Bool.true_bne] at q
    exact q
  · intro q
    exact ⟨_, _, _, rfl, rfl, e1, s1, s2, by rw [any_int, Bool.true_bne]; exact q⟩
theorem ints_inj : ∀ {a b : List Int}, a.map PV.int = b.map PV.int → a = b
  | [], [], _ => rfl
  | x :: a, y :: b, e => by
    simp only [List.map_cons, List.cons.injEq, PV.int.injEq] at e
    rw [e.1, ints_inj e.2]
def spLaw : SpM where
  run := fun as h Q _ => ∃ ns : List Int, as = [.scr (ns.map .int)] ∧ ns.length ≤ 63 ∧ ∀ h', Q (.bl true) h'
  mono := fun as h P Q R T k _ ⟨ns, e, z, q⟩ => ⟨ns, e, z, fun h' => k _ _ (q h')⟩
/-! ### a table of lists that may change -/
abbrev Tbl := List (List Int)
structure Mat (h : MH) (q : Addr) (qs : List Addr) (t : Tbl) : Prop where
  top : h q = some (.lst (qs.map .ref))
  len : qs.length = t.length
  row : ∀ (i : Nat) (p : Addr) (r : List Int), qs[i]? = some p → t[i]? = some r → h p = some (.lst (r.map .int))
  nd : ∀ (i j : Nat) (p : Addr), qs[i]? = some p → qs[j]? = some p → i = j
  nq : q ∉ qs
/-- n rows of n numbers from 0 to m -/
def Sq (n : Nat) (m : Int) (t : Tbl) : Prop := t.length = n ∧ ∀ r ∈ t, r.length = n ∧ ∀ x ∈ r, 0 ≤ x ∧ x ≤ m
def at2 (t : Tbl) (x y : Nat) : Int := (t[x]?.getD [])[y]?.getD 0
def tot (t : Tbl) : Int := (t.map List.sum).sum
def put2 (t : Tbl) (x y : Nat) (v : Int) : Tbl := t.set x ((t[x]?.getD []).set y v)
theorem sum_set : ∀ (r : List Int) (i : Nat) (v : Int), i < r.length → (r.set i v).sum = r.sum - r[i]?.getD 0 + v
  | [], _, _, h => absurd h (Nat.not_lt_zero _)
  | x :: r, 0, v, _ => by simp only [List.set_cons_zero, List.sum_cons, List.getElem?_cons_zero, Option.getD_some]; omega
  | x :: r, i + 1, v, h => by
    simp only [List.set_cons_succ, List.sum_cons, List.getElem?_cons_succ, sum_set r i v (Nat.lt_of_succ_lt_succ h)]; omega
theorem tot_set : ∀ (t : Tbl) (i : Nat) (r : List Int), i < t.length → tot (t.set i r) = tot t - (t[i]?.getD []).sum + r.sum
  | [], _, _, h => absurd h (Nat.not_lt_zero _)
  | x :: t, 0, r, _ => by simp only [tot, List.set_cons_zero, List.map_cons, List.sum_cons, List.getElem?_cons_zero, Option.getD_some]; omega
  | x :: t, i + 1, r, h => by
    have := tot_set t i r (Nat.lt_of_succ_lt_succ h)
    simp only [tot] at this
    simp only [tot, List.set_cons_succ, List.map_cons, List.sum_cons, List.getElem?_cons_succ, this]; omega
theorem Sq.row {n : Nat} {m : Int} {t : Tbl} (s : Sq n m t) {i : Nat} (hi : i < n) : t[i]? = some (t[i]?.getD []) ∧ (t[i]?.getD []).length = n ∧ t[i]?.getD [] ∈ t := by
  have h1 : i < t.length := by rw [s.1]; exact hi
  have e : t[i]? = some t[i] := List.getElem?_eq_getElem h1
  have e2 : t[i]?.getD [] = t[i] := by rw [e]; rfl
  rw [e2]
  exact ⟨e, (s.2 _ (List.getElem_mem h1)).1, List.getElem_mem h1⟩
theorem Sq.cell {n : Nat} {m : Int} {t : Tbl} (s : Sq n m t) {i j : Nat} (hi : i < n) (hj : j < n) : 0 ≤ at2 t i j ∧ at2 t i j ≤ m := by
  obtain ⟨_, l, me⟩ := s.row hi
  have h1 : j < (t[i]?.getD []).length := by rw [l]; exact hj
  have e : at2 t i j = (t[i]?.getD [])[j] := by unfold at2; rw [List.getElem?_eq_getElem h1]; rfl
  rw [e]
  exact (s.2 _ me).2 _ (List.getElem_mem h1)
theorem Sq.put {n : Nat} {m v : Int} {t : Tbl} (s : Sq n m t) {i j : Nat} (hi : i < n) (h0 : 0 ≤ v) (h1 : v ≤ m) : Sq n m (put2 t i j v) := by
  obtain ⟨_, l, me⟩ := s.row hi
  refine ⟨by unfold put2; rw [List.length_set]; exact s.1, fun r hr => ?_⟩
  rcases List.mem_or_eq_of_mem_set hr with hr | rfl
  · exact s.2 r hr
  · refine ⟨by rw [List.length_set]; exact l, fun x hx => ?_⟩
    rcases List.mem_or_eq_of_mem_set hx with hx | rfl
    · exact (s.2 _ me).2 x hx
    · exact ⟨h0, h1⟩
theorem tot_put {n : Nat} {m v : Int} {t : Tbl} (s : Sq n m t) {i j : Nat} (hi : i < n) (hj : j < n) : tot (put2 t i j v) = tot t - at2 t i j + v := by
  obtain ⟨_, l, me⟩ := s.row hi
  unfold put2 at2
  rw [tot_set _ _ _ (by rw [s.1]; exact hi), sum_set _ _ _ (by rw [l]; exact hj)]
  omega
theorem sum_pos : ∀ (r : List Int), (∀ x ∈ r, 0 ≤ x) → 0 ≤ r.sum
  | [], _ => Int.le_refl 0
  | x :: r, h => by
    have := sum_pos r fun y hy => h y (List.mem_cons_of_mem _ hy)
    have := h x List.mem_cons_self
    rw [List.sum_cons]; omega
theorem tot_pos {n : Nat} {m : Int} {t : Tbl} (s : Sq n m t) : 0 ≤ tot t := by
  refine sum_pos _ fun x hx => ?_
  obtain ⟨r, hr, rfl⟩ := List.mem_map.mp hx
  exact sum_pos r fun y hy => ((s.2 r hr).2 y hy).1
section
variable {q : Addr} {qs : List Addr} {t : Tbl} {n : Nat} {m : Int}
theorem Mat.get (M : Mat h q qs t) (s : Sq n m t) {i : Nat} (hi : i < n) : ∃ p, qs[i]? = some p ∧ L2.atI (qs.map PV.ref) i = some (.ref p) ∧ h p = some (.lst ((t[i]?.getD []).map .int)) := by
  have h1 : i < qs.length := by rw [M.len, s.1]; exact hi
  have e : qs[i]? = some qs[i] := List.getElem?_eq_getElem h1
  refine ⟨qs[i], e, ?_, M.row i _ _ e (s.row hi).1⟩
  rw [atI_nat (n := i) rfl (by rw [List.length_map]; exact h1), List.getElem?_map, e]
  rfl
theorem Mat.at (s : Sq n m t) {i j : Nat} (hi : i < n) (hj : j < n) : L2.atI ((t[i]?.getD []).map PV.int) j = some (.int (at2 t i j)) := by
  have l := (s.row hi).2.1
  have := at_int (r := t[i]?.getD []) (i := j) (by rw [l]; exact hj)
  rw [this]
  rfl
theorem Mat.ne (M : Mat h q qs t) {i : Nat} {p : Addr} (e : qs[i]? = some p) : p ≠ q := fun z => M.nq (z ▸ List.mem_of_getElem? e)
theorem Mat.put (M : Mat h q qs t) (s : Sq n m t) {i : Nat} {p : Addr} (hi : i < n) (e : qs[i]? = some p) (r : List Int) : Mat (mupd h p (.lst (r.map .int))) q qs (t.set i r) := by
  refine ⟨by rw [mupd_ne (Ne.symm (M.ne e))]; exact M.top, by rw [List.length_set]; exact M.len, fun j p2 r2 e1 e2 => ?_, M.nd, M.nq⟩
  by_cases z : j = i
  · subst z
    rw [e] at e1; cases e1
    rw [List.getElem?_set_self (by rw [s.1]; exact hi)] at e2
    cases e2
    exact mupd_same
  · rw [List.getElem?_set_ne (Ne.symm z)] at e2
    have n2 : p2 ≠ p := fun w => z (M.nd j i p2 e1 (w ▸ e))
    rw [mupd_ne n2]
    exact M.row j p2 r2 e1 e2
theorem Mat.other {p : Addr} {o : MO} (M : Mat h q qs t) (h1 : p ≠ q) (h2 : p ∉ qs) : Mat (mupd h p o) q qs t :=
  ⟨by rw [mupd_ne (Ne.symm h1)]; exact M.top, M.len, fun j p2 r2 e1 e2 => by rw [mupd_ne fun z => h2 (by rw [← z]; exact List.mem_of_getElem? e1)]; exact M.row j p2 r2 e1 e2, M.nd, M.nq⟩
theorem Mat.fresh {p : Addr} (M : Mat h q qs t) (hp : h p = none) : p ≠ q ∧ p ∉ qs := by
  refine ⟨fun e => (by rw [e, M.top] at hp; cases hp), fun hm => ?_⟩
  obtain ⟨i, hi, e⟩ := List.mem_iff_getElem.mp hm
  have e1 : qs[i]? = some p := by rw [List.getElem?_eq_getElem hi, e]
  have e2 : t[i]? = some (t[i]'(by rw [← M.len]; exact hi)) := List.getElem?_eq_getElem _
  rw [M.row i p _ e1 e2] at hp
  cases hp
end
/-! ### a number in a pair of numbers -/
theorem o_notInT {h : MH} {Q : PK} {a : Int} {xs : List Int} : cmpOp .notIn (.int a) (.tup (xs.map .int)) h Q = Q (.bl (!xs.any fun z => z == a)) h := by
  have e1 : datL (deref h 5) (xs.map .int) = some (xs.map .int) := datL_map (t := PyData.int) fun _ _ => rfl
  obtain ⟨l1, l2⟩ := ints_lay (xs := xs)
  have s1 : SeqAt.shaped (.int a) = true := by
    unfold SeqAt.shaped
    simp [PyData.canLay0, PyData.depth]
  have s2 : SeqAt.shaped (.list (xs.map .int)) = true := by
    unfold SeqAt.shaped
    simp only [PyData.canLay0, l1, PyData.depth, l2]
    decide
  show (∃ ys d ds, some (xs.map PV.int) = some ys ∧ dat h (.int a) = some d ∧ datL (deref h 5) ys = some ds ∧ SeqAt.shaped d = true ∧ SeqAt.shaped (.list ds) = true ∧ Q (.bl (true != ds.any fun z => PyData.eqv z d)) h) = _
  apply propext
  constructor
  · rintro ⟨ys, d, ds, e, e2, e3, _, _, q⟩
    cases e
    cases e2
    rw [e1] at e3
    cases e3
    rw [any_int, Bool.true_bne] at q
    exact q
  · intro q
    exact ⟨_, _, _, rfl, rfl, e1, s1, s2, by rw [any_int, Bool.true_bne]; exact q⟩
/-! ### draws of greater numbers -/
def spNext7 : SpM where
  run := fun as h Q _ => match as with
    | [.ref p, .int n] => Dr h p ∧ 0 < n ∧ n < 2 ^ 256 ∧ ∀ d a b c, 0 ≤ a → 0 ≤ d → d < n → Q (.int d) (mupd h p (dr a b c))
    | _ => False
  mono := by
    intro as h P Q R T k _
    split
    · exact fun ⟨h1, h2, h3, q⟩ => ⟨h1, h2, h3, fun d a b c z1 z2 z3 => k _ _ (q d a b c z1 z2 z3)⟩
    · exact id
@[simp] theorem r_next7 {h : MH} {Q : PK} {R : XV} {p : Addr} {n} : spNext7.run [.ref p, .int n] h Q R = (Dr h p ∧ 0 < n ∧ n < 2 ^ 256 ∧ ∀ d a b c, 0 ≤ a → 0 ≤ d → d < n → Q (.int d) (mupd h p (dr a b c))) := rfl
theorem i_next7 {h : MH} {Q : PK} {R : XV} {as} (hs : spNext7.run as h Q R) : ∃ p n, as = [.ref p, .int n] ∧ Dr h p ∧ 0 < n ∧ n < 2 ^ 256 ∧ ∀ d a b c, 0 ≤ a → 0 ≤ d → d < n → Q (.int d) (mupd h p (dr a b c)) := by
  simp only [spNext7] at hs
  split at hs
  · exact ⟨_, _, rfl, hs⟩
  · exact hs.elim
theorem cdw7 {i j : Int} (h : 0 < j) (h2 : j < 2 ^ 256) : CDivW i j := by
  refine ⟨h, ?_⟩
  have h3 : j.natAbs ≠ 0 := by omega
  have h4 : j.natAbs < 2 ^ 256 := by omega
  have := (Nat.log2_lt h3).mpr h4
  omega
/-! ### plain values -/
mutual
def pnV : PV → Bool
  | .non => true
  | .bl _ => true
  | .int _ => true
  | .str _ => true
  | .tup xs => pnL xs
  | .lst xs => pnL xs
  | .scr _ => false
  | .ref _ => false
  | .ty _ => false
  | .tpl _ => false
def pnL : List PV → Bool
  | [] => true
  | x :: xs => pnV x && pnL xs
end
theorem pnL_iff : ∀ {xs : List PV}, pnL xs = true ↔ ∀ x ∈ xs, pnV x = true
  | [] => by simp [pnL]
  | x :: xs => by simp [pnL, pnL_iff (xs := xs)]
def isI : PV → Bool
  | .int _ => true
  | _ => false
def isU (n : Int) : PV → Bool
  | .str s => decide (s = "r")
  | .tup [.int i, .int j] => i != j && (decide (0 ≤ i) && decide (i < n)) && (decide (0 ≤ j) && decide (j < n))
  | _ => false
def isRow (n : Int) : PV → Bool
  | .tup [a, u] => isI a && isU n u
  | _ => false
def isFm (n : Int) : PV → Bool
  | .tup xs => xs.all (isRow n)
  | _ => false
def spIsInt : SpM := pureS fun as v => ∃ x, as = [x] ∧ pnV x = true ∧ v = .bl (isI x)
def spIsUnk : SpM := pureS fun as v => ∃ x n, as = [x, .int n] ∧ pnV x = true ∧ v = .bl (isU n x)
def spIsForm : SpM := pureS fun as v => ∃ x n, as = [x, .int n] ∧ pnV x = true ∧ v = .bl (isFm n x)
/-! ### plain values with greater numbers -/
def FB (k w : Nat) (x : PV) : Prop := ∃ d : PyData, (∀ g, datV g x = some d) ∧ d.canLay0 = true ∧ d.depth ≤ k ∧ d.weight ≤ w ∧ d.intsShort 100 = true ∧ d.showable = true
def FBL (k w : Nat) (xs : List PV) : Prop := ∃ ds : List PyData, (∀ g, datL g xs = some ds) ∧ PyData.canLayAll0 ds = true ∧ PyData.depthAll ds ≤ k ∧ PyData.weightAll ds ≤ w ∧ PyData.intsShortAll 100 ds = true ∧ PyData.showableAll ds = true
theorem FB.mono {k w k' w' : Nat} {x : PV} (f : FB k w x) (h1 : k ≤ k') (h2 : w ≤ w') : FB k' w' x := let ⟨d, e, a, b, c, z⟩ := f; ⟨d, e, a, Nat.le_trans b h1, Nat.le_trans c h2, z⟩
theorem FBL.mono {k w k' w' : Nat} {x : List PV} (f : FBL k w x) (h1 : k ≤ k') (h2 : w ≤ w') : FBL k' w' x := let ⟨d, e, a, b, c, z⟩ := f; ⟨d, e, a, Nat.le_trans b h1, Nat.le_trans c h2, z⟩
theorem FB.of {k w : Nat} {x : PV} (f : FP k w x) : FB k w x := by
  obtain ⟨d, e, z⟩ := f
  refine ⟨d, e, z.lay, z.dep, z.wt, ?_, z.shw⟩
  have := z.sh
  revert this
  have key : ∀ n : Nat, (∀ d : PyData, sizeOf d < n → d.intsShort 13 = true → d.intsShort 100 = true) ∧ ∀ ds : List PyData, sizeOf ds < n → PyData.intsShortAll 13 ds = true → PyData.intsShortAll 100 ds = true := by
    intro n
    induction n with
    | zero => exact ⟨fun _ z => absurd z (Nat.not_lt_zero _), fun _ z => absurd z (Nat.not_lt_zero _)⟩
    | succ n ih =>
      refine ⟨fun d hd hs => ?_, fun ds hd hs => ?_⟩
      · cases d with
        | int i =>
          simp only [PyData.intsShort, decide_eq_true_eq] at hs ⊢
          omega
        | list xs =>
          simp only [PyData.intsShort] at hs ⊢
          exact ih.2 xs (by simp at hd; omega) hs
        | tuple xs =>
          simp only [PyData.intsShort] at hs ⊢
          exact ih.2 xs (by simp at hd; omega) hs
        | _ => simp only [PyData.intsShort]
      · cases ds with
        | nil => simp only [PyData.intsShortAll]
        | cons x xs =>
          simp only [PyData.intsShortAll, Bool.and_eq_true] at hs ⊢
          exact ⟨ih.1 x (by simp at hd; omega) hs.1, ih.2 xs (by simp at hd; omega) hs.2⟩
  exact (key (sizeOf d + 1)).1 d (Nat.lt_succ_self _)
theorem int_shortB {i : Int} (h0 : -(10 ^ 90) < i) (h1 : i < 10 ^ 90) : (PyData.shown (.int i)).length ≤ 100 := by
  show (Str.ofString (toString i)).length ≤ 100
  by_cases z : 0 ≤ i
  · exact Nat.le_trans (PyProof.Rows.toString_length_le z (k := 90) (by decide) h1) (by decide)
  · have e := PyProof.Rows.toString_neg (n := i) (by omega)
    have l := PyProof.Rows.toString_length_le (v := 0 - i) (by omega) (k := 90) (by decide) (by omega)
    rw [PyProof.Rows.ofString_length] at l ⊢
    rw [e, String.toList_append, List.length_append]
    have : ("-" : String).toList.length = 1 := by decide
    omega
theorem FB.int {i : Int} (h0 : -(10 ^ 90) < i) (h1 : i < 10 ^ 90) : FB 0 300 (.int i) := by
  have l : i.natAbs.log2 < 299 := log_lt (by omega) (by decide)
  refine ⟨_, fun _ => rfl, by simp [PyData.canLay0], by simp [PyData.depth], ?_, ?_, ?_⟩
  · simp only [PyData.weight]
    split <;> omega
  · simp only [PyData.intsShort, decide_eq_true_eq]
    exact int_shortB h0 h1
  · simp only [PyData.showable, decide_eq_true_eq]
    omega
theorem FBL.nil {k : Nat} : FBL k 0 [] := ⟨[], fun _ => rfl, by simp [PyData.canLayAll0], by simp [PyData.depthAll], by simp [PyData.weightAll], by simp [PyData.intsShortAll], by simp [PyData.showableAll]⟩
theorem FBL.cons {k w v : Nat} {x : PV} {xs : List PV} (f : FB k w x) (g : FBL k v xs) : FBL k (w + 1 + v) (x :: xs) := by
  obtain ⟨d, e, a1, a2, a3, a4, a5⟩ := f
  obtain ⟨ds, e2, b1, b2, b3, b4, b5⟩ := g
  refine ⟨d :: ds, fun g => ?_, by simp only [PyData.canLayAll0, a1, b1, Bool.and_self], by simp only [PyData.depthAll]; exact Nat.max_le.mpr ⟨a2, b2⟩, by simp only [PyData.weightAll]; omega, by simp only [PyData.intsShortAll, a4, b4, Bool.and_self], by simp only [PyData.showableAll, a5, b5, Bool.and_self]⟩
  simp only [datL, e g, e2 g]
  rfl
theorem FBL.of {k w : Nat} : ∀ {xs : List PV}, (∀ x ∈ xs, FB k w x) → FBL k (xs.length * (w + 1)) xs
  | [], _ => by simpa using FBL.nil
  | x :: xs, h => by
    have z := FBL.cons (h x List.mem_cons_self) (FBL.of fun y hy => h y (List.mem_cons_of_mem _ hy))
    rw [List.length_cons, Nat.succ_mul, Nat.add_comm (xs.length * (w + 1))]
    exact z
theorem FB.tup {k w : Nat} {xs : List PV} (f : FBL k w xs) : FB (k + 1) w (.tup xs) := by
  obtain ⟨ds, e, a1, a2, a3, a4, a5⟩ := f
  exact ⟨.tuple ds, fun g => by simp only [datV, e g]; rfl, by simpa only [PyData.canLay0] using a1, by simpa only [PyData.depth] using Nat.succ_le_succ a2, by simpa only [PyData.weight] using a3, by simpa only [PyData.intsShort] using a4, by simpa only [PyData.showable] using a5⟩
theorem FB.lst {k w : Nat} {xs : List PV} (f : FBL k w xs) : FB (k + 1) w (.lst xs) := by
  obtain ⟨ds, e, a1, a2, a3, a4, a5⟩ := f
  exact ⟨.list ds, fun g => by simp only [datV, e g]; rfl, by simpa only [PyData.canLay0] using a1, by simpa only [PyData.depth] using Nat.succ_le_succ a2, by simpa only [PyData.weight] using a3, by simpa only [PyData.intsShort] using a4, by simpa only [PyData.showable] using a5⟩
theorem shwB {k w : Nat} {d : PyData} (a1 : d.canLay0 = true) (a2 : d.depth ≤ k) (a3 : d.weight ≤ w) (a4 : d.intsShort 100 = true) (a5 : d.showable = true) (hk : k ≤ 60) (hw : w ≤ 150000) : Shw d := by
  refine ⟨a5, ?_, Nat.le_trans a2 hk⟩
  have h := PyData.shown_le 100 (by decide) d (PyData.leavesShort_of_canLay0 100 d a1 a4)
  have h2 : (100 + 2) * d.weight ≤ 102 * 150000 := Nat.mul_le_mul (by decide) (by omega)
  rw [sizeLine_eq]
  omega
theorem o_reprB {m : Bool} {k w : Nat} {x : PV} {h : MH} {Q : PK} (f : FB k w x) (hk : k ≤ 60) (hw : w ≤ 150000) : biOp m .repr [x] h Q = Q (.str (reprP x)) h := by
  obtain ⟨d, e, a1, a2, a3, a4, a5⟩ := f
  have er : reprP x = d.shown := by unfold reprP; rw [e]
  rw [er]
  show (∃ d, dat h x = some d ∧ Shw d ∧ Q (.str d.shown) h) = _
  rw [show dat h x = some d from e _]
  apply propext
  constructor
  · rintro ⟨_, e2, _, q⟩; cases e2; exact q
  · exact fun q => ⟨_, rfl, shwB a1 a2 a3 a4 a5 hk hw, q⟩
/-- [x, a list that may be changed] -/
theorem o_reprB2 {m : Bool} {k w : Nat} {x : PV} {q : Addr} {xs : List PV} {h : MH} {Q : PK} (hx : FB k w x) (hxs : FB k w (.lst xs)) (e : h q = some (.lst xs)) (hk : k ≤ 59) (hw : 2 * w + 2 ≤ 150000) : biOp m .repr [.lst [x, .ref q]] h Q = Q (.str (reprP (.lst [x, .lst xs]))) h := by
  have f : FB (k + 1) (w + 1 + (w + 1 + 0)) (.lst [x, .lst xs]) := .lst (.cons hx (.cons hxs .nil))
  obtain ⟨d1, e1, _⟩ := hx
  obtain ⟨d2, e2, _⟩ := hxs
  obtain ⟨d, e3, a1, a2, a3, a4, a5⟩ := f
  have er : reprP (.lst [x, .lst xs]) = d.shown := by unfold reprP; rw [e3]
  have eq : deref h 5 q = some d2 := by
    unfold deref
    rw [e]
    have := e2 (deref h 4)
    simpa only [datV] using this
  have ed : dat h (.lst [x, .ref q]) = some d := by
    have z := e3 (deref h 5)
    show datV (deref h 5) (.lst [x, .ref q]) = some d
    simp only [datV, datL, e1, e2] at z ⊢
    rw [eq]
    have z2 := e2 (deref h 5)
    simp only [datV] at z2
    rw [z2] at z
    exact z
  rw [er]
  show (∃ d, dat h (.lst [x, .ref q]) = some d ∧ Shw d ∧ Q (.str d.shown) h) = _
  rw [ed]
  apply propext
  constructor
  · rintro ⟨_, e2, _, q⟩; cases e2; exact q
  · exact fun q => ⟨_, rfl, shwB a1 a2 a3 a4 a5 (by omega) (by omega), q⟩
/-! ### forms of k07 -/
abbrev Form := List (Int × PV)
def eRow (p : Int × PV) : PV := .tup [.int p.1, p.2]
def eF (f : Form) : PV := .tup (f.map eRow)
def Unk7 (n : Int) (x : PV) : Prop := x = .str "r" ∨ ∃ i j : Int, x = .tup [.int i, .int j] ∧ i ≠ j ∧ 0 ≤ i ∧ i < n ∧ 0 ≤ j ∧ j < n
def Rw7 (n : Int) (f : Form) : Prop := ∀ p ∈ f, -10000000 < p.1 ∧ p.1 < 10000000 ∧ Unk7 n p.2
def vU (t : Tbl) (r : Int) : PV → Int
  | .tup [.int i, .int j] => at2 t i.toNat j.toNat
  | _ => r
def val (f : Form) (t : Tbl) (r : Int) : Int := (f.map fun p => p.1 * vU t r p.2).sum
theorem val_snoc {f : Form} {t : Tbl} {r : Int} {p : Int × PV} : val (f ++ [p]) t r = val f t r + p.1 * vU t r p.2 := by
  unfold val
  rw [List.map_append, List.sum_append]
  simp
def eT (t : Tbl) : PV := .tup (t.map fun r => .tup (r.map .int))
def spUnknown7 : SpM := drawS (fun as v => ∃ n : Int, as = [.int n] ∧ Unk7 n v) (fun as => ∃ n : Int, as = [.int n] ∧ 2 ≤ n ∧ n < 10)
def spForm7 : SpM := drawS (fun as v => ∃ (n : Int) (f : Form), as = [.int n] ∧ v = eF f ∧ 1 ≤ f.length ∧ f.length ≤ 5 ∧ ∀ p ∈ f, -100 < p.1 ∧ p.1 < 100 ∧ Unk7 n p.2) (fun as => ∃ n : Int, as = [.int n] ∧ 2 ≤ n ∧ n < 10)
def spVal7 : SpM := pureS fun as v => ∃ (f : Form) (t : Tbl) (r m : Int) (n : Nat), as = [eF f, eT t, .int r] ∧ Rw7 n f ∧ Sq n m t ∧ n < 100 ∧ v = .int (val f t r)
def spLVal7 : SpM where
  run := fun as h Q _ => ∃ (f : Form) (t : Tbl) (r m : Int) (n : Nat) (q : Addr), as = [eF f, .ref q, .int r] ∧ f.length ≤ 1000 ∧ h q = some (.lst (t.map fun r => .tup (r.map .int))) ∧ Rw7 n f ∧ Sq n m t ∧ n < 100 ∧ Q (.int (val f t r)) h
  mono := fun as h P Q R T k _ ⟨f, t, r, m, n, q, e, z0, z1, z2, z3, z4, z⟩ => ⟨f, t, r, m, n, q, e, z0, z1, z2, z3, z4, k _ _ z⟩
/-- a part of a value -/
def El (x : PV) : Prop := pnV x = true ∧ FB 4 1500 x
def spBent : SpM := drawS (fun _ v => pnV v = true ∧ FB 6 100000 v) (fun as => ∃ (f : Form) (n : Int), as = [eF f] ∧ f.length ≤ 60 ∧ Rw7 n f ∧ n < 100)
theorem ne_r {h : MH} {i j : Int} {Q : PK} : cmpOp .eq (.tup [.int i, .int j]) (.str "r") h Q = Q (.bl false) h := by
  rw [show cmpOp .eq = opEq false from rfl, o_eqD (d := .tuple [.int i, .int j]) (e := .str "r") rfl rfl rfl (by decide +kernel) (fun _ _ z => by cases z)]
  rfl
def sps : List (Str × (Nat → SpM)) := [("value_of", lev 0 spVal7),
  ("is_integer", lev 0 spIsInt),
  ("is_unknown", lev 1 spIsUnk),
  ("is_form", lev 2 spIsForm),
  ("_law_draws", lev 0 spDraws),
  ("_law_next", lev 0 spNext7),
  ("_law_one", lev 1 spOne),
  ("_law_unknown", lev 1 spUnknown7),
  ("_law_form", lev 2 spForm7),
  ("_law_value", lev 0 spLVal7),
  ("_law_is_int", lev 0 spIsInt),
  ("_law_is_form", lev 1 spIsForm),
  ("_law_bent", lev 2 spBent),
  ("law", lev 4 spLaw)]
abbrev Γ (k : Nat) : Ctx := mkCtxR sps k
@[simp] theorem c_value_of {k : Nat} {as : List PV} {h : MH} {Q : PK} {R : XV} : (Γ k).fn "value_of" as h Q R = (0 < k ∧ (spVal7).run as h Q R) := ctxR_lev rfl
@[simp] theorem c_is_integer {k : Nat} {as : List PV} {h : MH} {Q : PK} {R : XV} : (Γ k).fn "is_integer" as h Q R = (0 < k ∧ (spIsInt).run as h Q R) := ctxR_lev rfl
@[simp] theorem c_is_unknown {k : Nat} {as : List PV} {h : MH} {Q : PK} {R : XV} : (Γ k).fn "is_unknown" as h Q R = (1 < k ∧ (spIsUnk).run as h Q R) := ctxR_lev rfl
@[simp] theorem c_is_form {k : Nat} {as : List PV} {h : MH} {Q : PK} {R : XV} : (Γ k).fn "is_form" as h Q R = (2 < k ∧ (spIsForm).run as h Q R) := ctxR_lev rfl
@[simp] theorem c__law_draws {k : Nat} {as : List PV} {h : MH} {Q : PK} {R : XV} : (Γ k).fn "_law_draws" as h Q R = (0 < k ∧ (spDraws).run as h Q R) := ctxR_lev rfl
@[simp] theorem c__law_next {k : Nat} {as : List PV} {h : MH} {Q : PK} {R : XV} : (Γ k).fn "_law_next" as h Q R = (0 < k ∧ (spNext7).run as h Q R) := ctxR_lev rfl
@[simp] theorem c__law_one {k : Nat} {as : List PV} {h : MH} {Q : PK} {R : XV} : (Γ k).fn "_law_one" as h Q R = (1 < k ∧ (spOne).run as h Q R) := ctxR_lev rfl
@[simp] theorem c__law_unknown {k : Nat} {as : List PV} {h : MH} {Q : PK} {R : XV} : (Γ k).fn "_law_unknown" as h Q R = (1 < k ∧ (spUnknown7).run as h Q R) := ctxR_lev rfl
@[simp] theorem c__law_form {k : Nat} {as : List PV} {h : MH} {Q : PK} {R : XV} : (Γ k).fn "_law_form" as h Q R = (2 < k ∧ (spForm7).run as h Q R) := ctxR_lev rfl
@[simp] theorem c__law_value {k : Nat} {as : List PV} {h : MH} {Q : PK} {R : XV} : (Γ k).fn "_law_value" as h Q R = (0 < k ∧ (spLVal7).run as h Q R) := ctxR_lev rfl
@[simp] theorem c__law_is_int {k : Nat} {as : List PV} {h : MH} {Q : PK} {R : XV} : (Γ k).fn "_law_is_int" as h Q R = (0 < k ∧ (spIsInt).run as h Q R) := ctxR_lev rfl
@[simp] theorem c__law_is_form {k : Nat} {as : List PV} {h : MH} {Q : PK} {R : XV} : (Γ k).fn "_law_is_form" as h Q R = (1 < k ∧ (spIsForm).run as h Q R) := ctxR_lev rfl
@[simp] theorem c__law_bent {k : Nat} {as : List PV} {h : MH} {Q : PK} {R : XV} : (Γ k).fn "_law_bent" as h Q R = (2 < k ∧ (spBent).run as h Q R) := ctxR_lev rfl
@[simp] theorem c_law {k : Nat} {as : List PV} {h : MH} {Q : PK} {R : XV} : (Γ k).fn "law" as h Q R = (4 < k ∧ (spLaw).run as h Q R) := ctxR_lev rfl
end
end Ev.Lw

set_option Elab.async false
set_option linter.all false
set_option maxRecDepth 100000
set_option maxHeartbeats 4000000
namespace Ev.Lw
open PySem PySem.Spec PyProof.Rows L2
section
variable {G : Ctx} {gl : Str → PV} {ρ : Env} {h : MH} {D : PEnds} {Q : PK} {R : XV} {ex : Env → XV} {k : Nat} {as : List PV}
theorem t__law_draws {n0 : Nat} (_ : n0 < k + 1) (hs : spDraws.run as h Q R) : wpSs (Γ k) gl ex s__law_draws (startE d__law_draws.N as) h (retE Q) := by
  obtain ⟨ns, rfl, hl, hq⟩ := i_draws hs
  show wpSs (Γ k) gl ex s__law_draws [some (.scr (ns.map .int)), none, none, none] h (retE Q)
  unfold s__law_draws
  simp [retE]
  refine ⟨cmL (by omega), ?_⟩
  obtain ⟨m, em⟩ := cut_head (xs := ns.map .int) (n := 60)
  refine x_forI ⟨cutP (ns.map .int) none (some 60), fun _ => True⟩ (fun _ ρ h' => h' = h ∧ ∃ a b x, 0 ≤ a ∧ ρ = [some (.scr (ns.map .int)), some (.int a), some (.int b), x]) (fun Q q => ?_) ⟨rfl, _, _, _, Int.le_refl 0, rfl⟩ ?_ ?_
  · simp [q]
  · rintro i x ρ h2 hx ⟨rfl, a, b, x1, ha, rfl⟩
    have hx : x ∈ cutP (ns.map .int) none (some 60) := List.mem_of_getElem? hx
    rw [show ((60 : Int)) = ((60 : Nat) : Int) from rfl, em] at hx
    obtain ⟨n, _, rfl⟩ := List.mem_map.mp (List.mem_of_mem_take hx)
    simp
    refine ⟨cmR (by omega), cmL (by omega), by unfold CPow; omega, ?_⟩
    by_cases z : (n.natAbs : Int) < 1000000000000000000
    · exact .inl ⟨z, ha⟩
    · exact .inr ⟨by omega, cmR (by omega), by omega⟩
  · rintro ρ h2 ⟨rfl, a, b, x1, ha, rfl⟩
    simp
    exact fun p hp => .now (hq p a b 0 hp ha)
theorem t__law_next {n0 : Nat} (_ : n0 < k + 1) (hs : spNext7.run as h Q R) : wpSs (Γ k) gl ex s__law_next (startE d__law_next.N as) h (retE Q) := by
  obtain ⟨p, n, rfl, ⟨a, b, c, hp, ha⟩, h0, h1, hq⟩ := i_next7 hs
  unfold dr at hp
  show wpSs (Γ k) gl ex s__law_next [some (.ref p), some (.int n), none, none] h (retE Q)
  unfold s__law_next
  simp [hp, retE, L2.ixN]
  by_cases z : a ≤ 0
  · refine .inl ⟨z, cmL (by omega), cmR (by omega), cmR (by omega), cdw (by omega) (by omega), h0, .now (hq _ _ _ _ (by omega) (Int.emod_nonneg _ (by omega)) (Int.emod_lt_of_pos _ h0))⟩
  · exact .inr ⟨by omega, h0, cdw7 h0 h1, .now (hq _ _ _ _ (Int.ediv_nonneg (by omega) (by omega)) (Int.emod_nonneg _ (by omega)) (Int.emod_lt_of_pos _ h0))⟩
theorem t__law_one (hk : 1 < k + 1) (hs : spOne.run as h Q R) : wpSs (Γ k) gl ex s__law_one (startE d__law_one.N as) h (retE Q) := by
  obtain ⟨p, x, xs, rfl, hx, hd, h0, h1, hq⟩ := i_one hs
  show wpSs (Γ k) gl ex s__law_one [some (.ref p), some x] h (retE Q)
  unfold s__law_one
  have l0 := List.length_pos_iff.mpr h0
  have key : ∀ (d a b c : Int), 0 ≤ a → 0 ≤ d → d < xs.length → ∃ v, L2.atI xs d = some v ∧ Rt Q v (mupd h p (dr a b c)) := by
    intro d a b c z1 z2 z3
    rw [atI_nat (n := d.toNat) (by omega) (by omega)]
    have hd : d.toNat < xs.length := by omega
    exact ⟨_, List.getElem?_eq_getElem hd, .now (hq _ _ _ _ z1 (List.getElem_mem hd))⟩
  rcases hx with rfl | rfl
  · simp [retE]
    exact ⟨by omega, hd, l0, by omega, key⟩
  · simp [retE]
    exact ⟨by omega, hd, l0, by omega, key⟩
theorem tab_at {n : Nat} {m : Int} {t : Tbl} (s : Sq n m t) {i : Nat} (hi : i < n) : L2.atI (t.map fun r => PV.tup (r.map .int)) i = some (.tup ((t[i]?.getD []).map .int)) := by
  rw [atI_nat (n := i) rfl (by rw [List.length_map, s.1]; exact hi), List.getElem?_map, (s.row hi).1]
  rfl
theorem t_value_of {n0 : Nat} (_ : n0 < k + 1) (hs : spVal7.run as h Q R) : wpSs (Γ k) gl ex s_value_of (startE d_value_of.N as) h (retE Q) := by
  obtain ⟨v, ⟨f, t, r, m, n, rfl, hf, sq, n100, rfl⟩, hq⟩ := hs
  show wpSs (Γ k) gl ex s_value_of [some (eF f), some (eT t), some (.int r), none, none, none] h (retE Q)
  unfold s_value_of
  simp [retE]
  refine x_forI ⟨f.map eRow, fun _ => True⟩ (fun i ρ h' => h' = h ∧ ∃ x4 x5, ρ = [some (eF f), some (eT t), some (.int r), some (.int (val (f.take i) t r)), x4, x5]) ?_ ⟨rfl, _, _, rfl⟩ ?_ ?_
  · intro Q hq
    simp [eF]
    exact hq
  · rintro i x _ h2 hx ⟨rfl, x4, x5, rfl⟩
    have hx : (f.map eRow)[i]? = some x := hx
    rw [List.getElem?_map] at hx
    obtain ⟨p, hp, rfl⟩ := Option.map_eq_some_iff.mp hx
    obtain ⟨p1, p2, hu⟩ := hf p (List.mem_of_getElem? hp)
    have et : f.take (i + 1) = f.take i ++ [p] := by rw [List.take_add_one, hp]; rfl
    rw [et, val_snoc]
    obtain ⟨c, u⟩ := p
    refine ⟨trivial, [some (eF f), some (eT t), some (.int r), some (.int (val (f.take i) t r)), some (.int c), some u], by simp [eRow], ?_⟩
    rcases hu with rfl | ⟨a, b, rfl, ab, a0, a1, b0, b1⟩
    · simp
      exact ⟨cmL (by omega), rfl⟩
    · have e1 := tab_at sq (i := a.toNat) (by omega)
      have e2 := Mat.at sq (i := a.toNat) (j := b.toNat) (by omega) (by omega)
      rw [Int.toNat_of_nonneg a0] at e1
      rw [Int.toNat_of_nonneg b0] at e2
      simp [ne_r, eT, e1, e2]
      exact ⟨cmL (by omega), rfl⟩
  · rintro _ h2 ⟨rfl, x4, x5, rfl⟩
    have e : f.take (f.map eRow).length = f := by rw [List.length_map, List.take_length]
    simp [e]
    exact .now hq
theorem t__law_value {n0 : Nat} (_ : n0 < k + 1) (hs : spLVal7.run as h Q R) : wpSs (Γ k) gl ex s__law_value (startE d__law_value.N as) h (retE Q) := by
  obtain ⟨f, t, r, m, n, q, rfl, hl, hq1, hf, sq, n100, hq⟩ := hs
  show wpSs (Γ k) gl ex s__law_value [some (eF f), some (.ref q), some (.int r), none, none] h (retE Q)
  unfold s__law_value
  simp [retE]
  refine x_mapT f eRow (fun _ => True) (fun p => .int (p.1 * vU t r p.2)) (fun Q q => by simp [eF]; exact q) (by simp; omega) trivial ?_ ?_
  · rintro ⟨c, u⟩ hx
    obtain ⟨p1, p2, hu⟩ := hf _ hx
    rcases hu with rfl | ⟨a, b, rfl, ab, a0, a1, b0, b1⟩
    · simp [wipeE, eRow]
      exact ⟨cmL (by omega), rfl⟩
    · have e1 := tab_at sq (i := a.toNat) (by omega)
      have e2 := Mat.at sq (i := a.toNat) (j := b.toNat) (by omega) (by omega)
      rw [Int.toNat_of_nonneg a0] at e1
      rw [Int.toNat_of_nonneg b0] at e2
      simp [wipeE, eRow, ne_r, hq1, e1, e2]
      exact ⟨cmL (by omega), rfl⟩
  · have e : (f.map fun p => PV.int (p.1 * vU t r p.2)) = (f.map fun p => p.1 * vU t r p.2).map .int := by
      rw [List.map_map]; rfl
    rw [al_f, e, o_sumL]
    exact .now hq
theorem t__law_unknown (hk : 1 < k + 1) (hs : spUnknown7.run as h Q R) : wpSs (Γ k) gl ex s__law_unknown (startE d__law_unknown.N as) h (retE Q) := by
  obtain ⟨p, _, rfl, hd, ⟨n, rfl, n2, n10⟩, hq⟩ := i_draw hs
  show wpSs (Γ k) gl ex s__law_unknown [some (.ref p), some (.int n), none, none] h (retE Q)
  unfold s__law_unknown
  simp [retE]
  refine ⟨by omega, hd, fun d a b c z1 z2 z3 => ?_⟩
  by_cases d0 : d = 0
  · exact .inr ⟨d0, .now (hq _ _ _ _ ⟨n, rfl, .inl rfl⟩ z1)⟩
  refine .inl ⟨d0, by omega, z1, by omega, by omega, fun d a z4 z5 z6 => ⟨by omega, z4, by omega, by omega, fun e a b c z7 z8 z9 => ⟨by omega, .now (hq _ _ _ _ ⟨n, rfl, .inr ⟨d, (d + (1 + e)) % n, rfl, ?_, z5, z6, Int.emod_nonneg _ (by omega), Int.emod_lt_of_pos _ (by omega)⟩⟩ z7)⟩⟩⟩
  intro e2
  by_cases z : d + (1 + e) < n
  · rw [Int.emod_eq_of_lt (by omega) z] at e2; omega
  · have : (d + (1 + e)) % n = d + (1 + e) - n := by
      rw [show d + (1 + e) = (d + (1 + e) - n) + n * 1 by omega, Int.add_mul_emod_self_left, Int.emod_eq_of_lt (by omega) (by omega)]
      omega
    omega
theorem t__law_form (hk : 2 < k + 1) (hs : spForm7.run as h Q R) : wpSs (Γ k) gl ex s__law_form (startE d__law_form.N as) h (retE Q) := by
  obtain ⟨p, _, rfl, hd, ⟨n, rfl, n2, n10⟩, hq⟩ := i_draw hs
  show wpSs (Γ k) gl ex s__law_form [some (.ref p), some (.int n), none, none, none] h (retE Q)
  unfold s__law_form
  simp [retE]
  intro q hqn
  have pq := hd.neq hqn
  refine x_forRJ 0 (fun m h1 => (1 ≤ m ∧ m ≤ 5) ∧ Kp p h h1 ∧ h1 q = some (.lst [])) ?_ (fun m i ρ h' => (1 ≤ m ∧ m ≤ 5) ∧ Kp p h h' ∧ ∃ (f : Form) (x y : Option PV), ρ = [some (.ref p), some (.int n), some (.ref q), x, y] ∧ h' q = some (.lst (f.map eRow)) ∧ f.length = i ∧ ∀ t ∈ f, -100 < t.1 ∧ t.1 < 100 ∧ Unk7 n t.2) ?_ ?_ ?_
  · simp
    refine ⟨by omega, hd.ne pq, fun d a b c z1 z2 z3 => ⟨by omega, _, rfl, ⟨by omega, by omega⟩, ((Kp.refl hd).upd hqn pq).dr z1, ?_⟩⟩
    rw [mupd_ne (Ne.symm pq), mupd_same]
  · rintro m h1 ⟨m5, k1, e⟩
    exact ⟨m5, k1, [], _, _, rfl, e, rfl, fun t ht => nomatch ht⟩
  · rintro m i ρ h1 hi ⟨m5, k1, f, x, y, rfl, e, fl, fo⟩
    simp
    refine ⟨by omega, k1.1, fun d a z1 z2 z3 => ⟨by omega, z1, fun v a b c z4 z5 => ⟨⟨f.map eRow, ?_⟩, by omega, ?_⟩⟩⟩
    · rw [mupd_ne (Ne.symm pq)]; exact e
    obtain ⟨w, rfl, w0, w1⟩ : ∃ w, v = .int w ∧ -100 < w ∧ w < 100 := by
      rcases z5 with rfl | rfl | rfl | rfl | rfl | rfl <;> exact ⟨_, rfl, by omega, by omega⟩
    refine r_draw.mpr ⟨(k1.dr z4).1, ⟨n, rfl, n2, n10⟩, ?_⟩
    rintro u a b c ⟨n', en, hu⟩ z6
    cases en
    rw [mupd_mupd]
    refine ⟨_, by rw [mupd_ne (Ne.symm pq)]; exact e, by simp; omega, ⟨m5.1, m5.2⟩, (k1.dr z6).upd hqn pq, f ++ [(w, u)], by simp [eRow], by simp [fl], fun a b hab => ?_⟩
    rcases List.mem_append.mp hab with z | z
    · exact fo _ z
    · cases List.mem_singleton.mp z
      exact ⟨w0, w1, hu⟩
  · rintro m ρ h1 ⟨m5, k1, f, x, y, rfl, e, fl, fo⟩
    simp [e]
    exact k1.ret fun a b c z => hq _ _ _ _ ⟨n, f, rfl, rfl, by omega, by omega, fo⟩ z
end
end Ev.Lw

set_option Elab.async false
set_option linter.all false
set_option maxRecDepth 100000
set_option maxHeartbeats 4000000
namespace Ev.Lw
open PySem PySem.Spec PyProof.Rows L2
section
variable {G : Ctx} {gl : Str → PV} {ρ : Env} {h : MH} {D : PEnds} {Q : PK} {R : XV} {ex : Env → XV} {k : Nat} {as : List PV}
theorem int_or {x : PV} (e : isI x = true) : ∃ i, x = .int i := by
  cases x with
  | int i => exact ⟨i, rfl⟩
  | _ => cases e
theorem t_is_integer {n0 : Nat} (_ : n0 < k + 1) (hs : spIsInt.run as h Q R) : wpSs (Γ k) gl ex s_is_integer (startE d_is_integer.N as) h (retE Q) := by
  obtain ⟨v, ⟨x, rfl, hp, rfl⟩, hq⟩ := hs
  show wpSs (Γ k) gl ex s_is_integer [some x] h (retE Q)
  unfold s_is_integer
  cases x with
  | non => simp [retE, opIsi, clsP, isB]; exact .now hq
  | bl b => simp [retE, opIsi, clsP, isB]; exact .now hq
  | int i => simp [retE, opIsi, clsP, isB]; exact .now hq
  | str z => simp [retE, opIsi, clsP, isB]; exact .now hq
  | tup xs => simp [retE, opIsi, clsP, isB]; exact .now hq
  | lst xs => simp [retE, opIsi, clsP, isB]; exact .now hq
  | _ => cases hp
theorem t__law_is_int {n0 : Nat} (_ : n0 < k + 1) (hs : spIsInt.run as h Q R) : wpSs (Γ k) gl ex s__law_is_int (startE d__law_is_int.N as) h (retE Q) := by
  obtain ⟨v, ⟨x, rfl, hp, rfl⟩, hq⟩ := hs
  show wpSs (Γ k) gl ex s__law_is_int [some x] h (retE Q)
  unfold s__law_is_int
  cases x with
  | non => simp [retE, opIsi, clsP, isB]; exact .now hq
  | bl b => simp [retE, opIsi, clsP, isB]; exact .now hq
  | int i => simp [retE, opIsi, clsP, isB]; exact .now hq
  | str z => simp [retE, opIsi, clsP, isB]; exact .now hq
  | tup xs => simp [retE, opIsi, clsP, isB]; exact .now hq
  | lst xs => simp [retE, opIsi, clsP, isB]; exact .now hq
  | _ => cases hp
theorem o_allL {m : Bool} {bs : List Bool} : biOp m .all [.lst (bs.map .bl)] h Q = Q (.bl (bs.all id)) h := by
  show (∃ bs' : List Bool, some (bs.map PV.bl) = some (bs'.map .bl) ∧ Q (.bl (bs'.all id)) h) = _
  apply propext
  constructor
  · rintro ⟨bs', e, q⟩
    have inj : ∀ {a b : List Bool}, a.map PV.bl = b.map PV.bl → a = b := by
      intro a
      induction a with
      | nil => intro b e; cases b with
        | nil => rfl
        | cons _ _ => cases e
      | cons x a ih => intro b e; cases b with
        | nil => cases e
        | cons y b =>
          simp only [List.map_cons, List.cons.injEq, PV.bl.injEq] at e
          rw [e.1, ih e.2]
    rw [inj (Option.some.inj e)]
    exact q
  · exact fun q => ⟨bs, rfl, q⟩
theorem t_is_unknown (hk : 1 < k + 1) (hs : spIsUnk.run as h Q R) : wpSs (Γ k) gl ex s_is_unknown (startE d_is_unknown.N as) h (retE Q) := by
  obtain ⟨v, ⟨x, n, rfl, hp, rfl⟩, hq⟩ := hs
  show wpSs (Γ k) gl ex s_is_unknown [some x, some (.int n), none] h (retE Q)
  unfold s_is_unknown
  cases x with
  | non => simp [retE, opIsi, clsP, isB]; exact .now hq
  | bl b => simp [retE, opIsi, clsP, isB]; exact .now hq
  | int i => simp [retE, opIsi, clsP, isB]; exact .now hq
  | str z => simp [retE, opIsi, clsP, isB]; exact .now hq
  | lst xs => simp [retE, opIsi, clsP, isB]; exact .now hq
  | tup xs =>
    match xs, hp, hq with
    | [], hp, hq => simp [retE, isB]; exact .now hq
    | [a], hp, hq => simp [retE, isB]; exact .now (by cases a <;> exact hq)
    | a :: b :: c :: r, hp, hq =>
      simp [retE, isB]
      exact .inr ⟨by omega, .now (by cases a <;> (try cases b) <;> exact hq)⟩
    | [a, b], hp, hq =>
      have hp2 : pnV a = true ∧ pnV b = true := by simpa [pnV, pnL] using hp
      simp [retE, isB]
      refine x_mapT [a, b] id (fun _ => True) (fun x => .bl (isI x)) (fun Q q => by simp; exact q) (by simp) trivial ?_ ?_
      · intro x hx
        have hx : x = a ∨ x = b := by simpa using hx
        simp [wipeE]
        exact ⟨by omega, _, ⟨x, rfl, by rcases hx with rfl | rfl; exact hp2.1; exact hp2.2, rfl⟩, by simp⟩
      · have e : [a, b].map (fun x => PV.bl (isI x)) = [isI a, isI b].map .bl := rfl
        rw [e, al_f, o_allL]
        simp
        by_cases z : isI a = true ∧ isI b = true
        · refine .inr ⟨z, ?_⟩
          obtain ⟨i, rfl⟩ := int_or z.1
          obtain ⟨j, rfl⟩ := int_or z.2
          simp
          by_cases e2 : i = j
          · refine .inl ⟨e2, .now ?_⟩
            simpa [isU, e2] using hq
          · refine .inr ⟨e2, ?_⟩
            refine x_mapT [i, j] .int (fun _ => True) (fun x => .bl (decide (0 ≤ x) && decide (x < n))) (fun Q q => by simp; exact q) (by simp) trivial ?_ ?_
            · intro x hx
              simp [wipeE]
              by_cases c1 : 0 ≤ x
              · simp [c1]
              · simp [c1]
                omega
            · have e : [i, j].map (fun x => PV.bl (decide (0 ≤ x) && decide (x < n))) = [decide (0 ≤ i) && decide (i < n), decide (0 ≤ j) && decide (j < n)].map .bl := rfl
              rw [e, al_f, o_allL]
              refine .now ?_
              have e3 : (i != j) = true := by simpa using e2
              simpa [isU, e3] using hq
        · refine .inl ⟨fun z1 => ?_, .now ?_⟩
          · cases zb : isI b with
            | false => rfl
            | true => exact absurd ⟨z1, zb⟩ z
          · have eu : isU n (.tup [a, b]) = false := by
              cases a with
              | int i => cases b with
                | int j => exact absurd ⟨rfl, rfl⟩ z
                | _ => rfl
              | _ => rfl
            rw [eu] at hq
            exact hq
  | _ => cases hp
theorem take_all {xs : List PV} {i : Nat} {x : PV} {p : PV → Bool} (h : xs[i]? = some x) (al : ∀ y ∈ xs.take i, p y = true) (hp : p x = true) : ∀ y ∈ xs.take (i + 1), p y = true := fun y hy => by
  rw [List.take_add_one, h] at hy
  rcases List.mem_append.mp hy with hy | hy
  · exact al y hy
  · cases List.mem_singleton.mp hy
    exact hp
theorem all_out {xs : List PV} {i : Nat} {x : PV} {p : PV → Bool} (h : xs[i]? = some x) (hp : p x = false) : xs.all p = false := by
  cases z : xs.all p with
  | false => rfl
  | true => rw [List.all_eq_true.mp z x (List.mem_of_getElem? h)] at hp; cases hp
theorem t_is_form (hk : 2 < k + 1) (hs : spIsForm.run as h Q R) : wpSs (Γ k) gl ex s_is_form (startE d_is_form.N as) h (retE Q) := by
  obtain ⟨v, ⟨x, n, rfl, hp, rfl⟩, hq⟩ := hs
  show wpSs (Γ k) gl ex s_is_form [some x, some (.int n), none] h (retE Q)
  unfold s_is_form
  cases x with
  | non => simp [retE, opIsi, clsP, isB]; exact .now hq
  | bl b => simp [retE, opIsi, clsP, isB]; exact .now hq
  | int i => simp [retE, opIsi, clsP, isB]; exact .now hq
  | str z => simp [retE, opIsi, clsP, isB]; exact .now hq
  | lst xs => simp [retE, opIsi, clsP, isB]; exact .now hq
  | tup xs =>
    have hx := pnL_iff.mp (show pnL xs = true from hp)
    simp [retE, isB]
    refine x_forI ⟨xs, fun _ => True⟩ (fun i ρ h' => h = h' ∧ (∀ y ∈ xs.take i, isRow n y = true) ∧ ∃ x2, ρ = [some (.tup xs), some (.int n), x2]) (fun Q q => by simp; exact q) ⟨rfl, (fun y hy => by simp at hy), _, rfl⟩ ?_ ?_
    · rintro i x _ _ hi ⟨rfl, al, x2, rfl⟩
      have hi : xs[i]? = some x := hi
      have px := hx x (List.mem_of_getElem? hi)
      refine ⟨trivial, _, rfl, ?_⟩
      have bad : isRow n x = false → Rt Q (.bl false) h := fun e => by
        have := all_out hi e
        have e2 : isFm n (.tup xs) = false := this
        rw [e2] at hq
        exact .now hq
      by_cases two : ∃ a u, x = .tup [a, u]
      · obtain ⟨a, u, rfl⟩ := two
        have hp2 : pnV a = true ∧ pnV u = true := by simpa [pnV, pnL] using px
        simp [isB]
        refine ⟨by omega, _, ⟨a, rfl, hp2.1, rfl⟩, ?_⟩
        simp
        cases za : isI a with
        | false => simp; exact bad (by simp [isRow, za])
        | true =>
          simp
          refine ⟨by omega, _, ⟨u, n, rfl, hp2.2, rfl⟩, ?_⟩
          cases zu : isU n u with
          | false => simp; exact bad (by simp [isRow, za, zu])
          | true =>
            simp
            exact take_all hi al (by simp [isRow, za, zu])
      · have hr : isRow n x = false := by
          cases x with
          | tup ys =>
            match ys, two with
            | [], _ => rfl
            | [_], _ => rfl
            | [a, u], two => exact absurd ⟨a, u, rfl⟩ two
            | _ :: _ :: _ :: _, _ => rfl
          | _ => rfl
        have bd := bad hr
        cases x with
        | non => simp [isB]; exact bd
        | bl b => simp [isB]; exact bd
        | int i => simp [isB]; exact bd
        | str z => simp [isB]; exact bd
        | lst ys => simp [isB]; exact bd
        | tup ys =>
          match ys, two with
          | [], _ => simp [isB]; exact bd
          | [_], _ => simp [isB]; exact bd
          | [a, u], two => exact absurd ⟨a, u, rfl⟩ two
          | _ :: _ :: _ :: r, _ =>
            simp [isB]
            exact .inr ⟨by omega, bd⟩
        | _ => cases px
    · rintro _ _ ⟨rfl, al, x2, rfl⟩
      have al : ∀ y ∈ xs.take xs.length, isRow n y = true := al
      rw [List.take_length] at al
      refine ⟨trivial, ?_⟩
      simp
      have e2 : isFm n (.tup xs) = true := List.all_eq_true.mpr al
      rw [e2] at hq
      exact .now hq
  | _ => cases hp
theorem o_min2 {m : Bool} {i j : Int} : biOp m .min [.tup [.int i, .int j]] h Q = Q (.int (min i j)) h := by
  show (∃ n' ns', some [PV.int i, .int j] = some ((n' :: ns').map PV.int) ∧ Q (.int (ns'.foldl min n')) h) = _
  apply propext
  constructor
  · rintro ⟨n', ns', e, q⟩
    match ns', e, q with
    | [], e, q => simp at e
    | [x], e, q =>
      simp at e
      obtain ⟨rfl, rfl⟩ := e
      exact q
    | _ :: _ :: _, e, q => simp at e
  · exact fun q => ⟨i, [j], rfl, q⟩
theorem o_max2 {m : Bool} {i j : Int} : biOp m .max [.tup [.int i, .int j]] h Q = Q (.int (max i j)) h := by
  show (∃ n' ns', some [PV.int i, .int j] = some ((n' :: ns').map PV.int) ∧ Q (.int (ns'.foldl max n')) h) = _
  apply propext
  constructor
  · rintro ⟨n', ns', e, q⟩
    match ns', e, q with
    | [], e, q => simp at e
    | [x], e, q =>
      simp at e
      obtain ⟨rfl, rfl⟩ := e
      exact q
    | _ :: _ :: _, e, q => simp at e
  · exact fun q => ⟨i, [j], rfl, q⟩
theorem t__law_is_form (hk : 1 < k + 1) (hs : spIsForm.run as h Q R) : wpSs (Γ k) gl ex s__law_is_form (startE d__law_is_form.N as) h (retE Q) := by
  obtain ⟨v, ⟨x, n, rfl, hp, rfl⟩, hq⟩ := hs
  show wpSs (Γ k) gl ex s__law_is_form [some x, some (.int n), none, none] h (retE Q)
  unfold s__law_is_form
  cases x with
  | non => simp [retE, opIsi, clsP, isB]; exact .now hq
  | bl b => simp [retE, opIsi, clsP, isB]; exact .now hq
  | int i => simp [retE, opIsi, clsP, isB]; exact .now hq
  | str z => simp [retE, opIsi, clsP, isB]; exact .now hq
  | lst xs => simp [retE, opIsi, clsP, isB]; exact .now hq
  | tup xs =>
    have hx := pnL_iff.mp (show pnL xs = true from hp)
    simp [retE, isB]
    refine x_forI ⟨xs, fun _ => True⟩ (fun i ρ h' => h = h' ∧ (∀ y ∈ xs.take i, isRow n y = true) ∧ ∃ x2, ρ = [some (.tup xs), some (.int n), x2, none]) (fun Q q => by simp; exact q) ⟨rfl, (fun y hy => by simp at hy), _, rfl⟩ ?_ ?_
    · rintro i x _ _ hi ⟨rfl, al, x2, rfl⟩
      have hi : xs[i]? = some x := hi
      have px := hx x (List.mem_of_getElem? hi)
      refine ⟨trivial, _, rfl, ?_⟩
      have bad : isRow n x = false → Rt Q (.bl false) h := fun e => by
        have := all_out hi e
        have e2 : isFm n (.tup xs) = false := this
        rw [e2] at hq
        exact .now hq
      by_cases two : ∃ a u, x = .tup [a, u]
      · obtain ⟨a, u, rfl⟩ := two
        have hp2 : pnV a = true ∧ pnV u = true := by simpa [pnV, pnL] using px
        simp [isB]
        refine ⟨by omega, _, ⟨a, rfl, hp2.1, rfl⟩, ?_⟩
        simp
        cases za : isI a with
        | false => simp; exact bad (by simp [isRow, za])
        | true =>
          simp
          have good : isU n u = true → ∀ y ∈ xs.take (i + 1), isRow n y = true := fun e => take_all hi al (by simp [isRow, za, e])
          have bad2 : isU n u = false → Rt Q (.bl false) h := fun e => bad (by simp [isRow, za, e])
          cases u with
          | non => simp [isB]; exact bad2 rfl
          | bl b => simp [isB]; exact bad2 rfl
          | int i => simp [isB]; exact bad2 rfl
          | lst ys => simp [isB]; exact bad2 rfl
          | str z =>
            simp [isB]
            by_cases e : z = "r"
            · exact .inl ⟨e, good (by simp [isU, e])⟩
            · exact .inr ⟨e, bad2 (by simp [isU, e])⟩
          | tup ys =>
            match ys, hp2, good, bad2 with
            | [], hp2, good, bad2 => simp [isB]; exact bad2 rfl
            | [c], hp2, good, bad2 => simp [isB]; exact bad2 (by cases c <;> rfl)
            | c :: d :: e :: r, hp2, good, bad2 =>
              simp [isB]
              exact .inr ⟨by omega, bad2 (by cases c <;> (try cases d) <;> rfl)⟩
            | [c, d], hp2, good, bad2 =>
              have hp3 : pnV c = true ∧ pnV d = true := by simpa [pnV, pnL] using hp2.2
              simp [isB]
              refine x_fmapT [c, d] id (fun _ => True) (fun x => if isI x = true then none else some x) (fun Q q => by simp; exact q) (by simp) trivial ?_ ?_
              · intro x hx
                have hx : x = c ∨ x = d := by simpa using hx
                simp [wipeE]
                refine ⟨by omega, _, ⟨x, rfl, by rcases hx with rfl | rfl; exact hp3.1; exact hp3.2, rfl⟩, ?_⟩
                cases isI x <;> simp
              · by_cases z : isI c = true ∧ isI d = true
                · obtain ⟨ci, rfl⟩ := int_or z.1
                  obtain ⟨di, rfl⟩ := int_or z.2
                  simp [isI, o_min2, o_max2]
                  by_cases e1 : ci = di
                  · exact .inr ⟨e1, bad2 (by simp [isU, e1])⟩
                  have e3 : (ci != di) = true := by simpa using e1
                  refine .inl ⟨e1, ?_⟩
                  by_cases e4 : min ci di < 0
                  · refine .inr ⟨by omega, bad2 ?_⟩
                    simp only [isU, e3, Bool.true_and]
                    rw [Bool.and_eq_false_iff, Bool.and_eq_false_iff, Bool.and_eq_false_iff]
                    simp only [decide_eq_false_iff_not]
                    omega
                  refine .inl ⟨by omega, ?_⟩
                  by_cases e5 : n ≤ max ci di
                  · refine .inr ⟨by omega, bad2 ?_⟩
                    simp only [isU, e3, Bool.true_and]
                    rw [Bool.and_eq_false_iff, Bool.and_eq_false_iff, Bool.and_eq_false_iff]
                    simp only [decide_eq_false_iff_not]
                    omega
                  · refine .inl ⟨by omega, good ?_⟩
                    simp only [isU, e3, Bool.true_and, Bool.and_eq_true, decide_eq_true_eq]
                    omega
                · have ne : ([c, d].filterMap fun x => if isI x = true then none else some x) ≠ [] := fun e => z (by
                    rw [List.filterMap_eq_nil_iff] at e
                    have e1 := e c List.mem_cons_self
                    have e2 := e d (by simp)
                    constructor
                    · cases zc : isI c with
                      | true => rfl
                      | false => simp [zc] at e1
                    · cases zd : isI d with
                      | true => rfl
                      | false => simp [zd] at e2)
                  have eu : isU n (.tup [c, d]) = false := by
                    cases c with
                    | int i => cases d with
                      | int j => exact absurd ⟨rfl, rfl⟩ z
                      | _ => rfl
                    | _ => rfl
                  rw [al_f, o_neEL]
                  have e0 : ([c, d].filterMap fun x => if isI x = true then none else some x).isEmpty = false := by
                    cases zz : ([c, d].filterMap fun x => if isI x = true then none else some x) with
                    | nil => exact absurd zz ne
                    | cons _ _ => rfl
                  rw [e0]
                  simp
                  exact bad2 eu
          | _ => cases hp2.2
      · have hr : isRow n x = false := by
          cases x with
          | tup ys =>
            match ys, two with
            | [], _ => rfl
            | [_], _ => rfl
            | [a, u], two => exact absurd ⟨a, u, rfl⟩ two
            | _ :: _ :: _ :: _, _ => rfl
          | _ => rfl
        have bd := bad hr
        cases x with
        | non => simp [isB]; exact bd
        | bl b => simp [isB]; exact bd
        | int i => simp [isB]; exact bd
        | str z => simp [isB]; exact bd
        | lst ys => simp [isB]; exact bd
        | tup ys =>
          match ys, two with
          | [], _ => simp [isB]; exact bd
          | [_], _ => simp [isB]; exact bd
          | [a, u], two => exact absurd ⟨a, u, rfl⟩ two
          | _ :: _ :: _ :: r, _ =>
            simp [isB]
            exact .inr ⟨by omega, bd⟩
        | _ => cases px
    · rintro _ _ ⟨rfl, al, x2, rfl⟩
      have al : ∀ y ∈ xs.take xs.length, isRow n y = true := al
      rw [List.take_length] at al
      refine ⟨trivial, ?_⟩
      simp
      have e2 : isFm n (.tup xs) = true := List.all_eq_true.mpr al
      rw [e2] at hq
      exact .now hq
  | _ => cases hp
end
end Ev.Lw

set_option Elab.async false
set_option linter.all false
set_option maxRecDepth 100000
set_option maxHeartbeats 4000000
namespace Ev.Lw
open PySem PySem.Spec PyProof.Rows L2
section
variable {G : Ctx} {gl : Str → PV} {ρ : Env} {h : MH} {D : PEnds} {Q : PK} {R : XV} {ex : Env → XV} {k : Nat} {as : List PV}
theorem o_listT {m : Bool} {ys : List PV} : biOp m .list [.tup ys] h Q = allocL m ys h Q :=
  propext ⟨fun ⟨_, e, q⟩ => by cases e; exact q, fun q => ⟨_, rfl, q⟩⟩
theorem cut_to {xs : List PV} {s : Nat} : cutP xs none (some (s : Int)) = xs.take s := by
  unfold cutP
  rw [HT.sIx_none, List.drop_zero, Nat.sub_zero, HT.sIx_nat]
  by_cases z : s ≤ xs.length
  · rw [Nat.min_eq_left z]
  · rw [Nat.min_eq_right (by omega), List.take_length, List.take_of_length_le (by omega)]
theorem cut_from {xs : List PV} {s : Nat} (hs : s ≤ xs.length) : cutP xs (some (s : Int)) none = xs.drop s := by
  unfold cutP
  rw [HT.sIx_none, HT.sIx_nat, Nat.min_eq_left hs, List.take_of_length_le (by rw [List.length_drop]; omega)]
theorem fb_ii {i j : Int} (h0 : -(10 ^ 90) < i) (h1 : i < 10 ^ 90) (h2 : -(10 ^ 90) < j) (h3 : j < 10 ^ 90) : FB 1 602 (.tup [.int i, .int j]) :=
  .tup (FBL.cons (FB.int h0 h1) (FBL.cons (FB.int h2 h3) .nil))
theorem fb_unk {n : Int} {x : PV} (hn : n < 100) (u : Unk7 n x) : FB 1 602 x ∧ pnV x = true := by
  rcases u with rfl | ⟨i, j, rfl, ij, i0, i1, j0, j1⟩
  · exact ⟨(FB.of (FP.str (w := 1) (by decide +kernel) (by decide +kernel))).mono (by omega) (by omega), rfl⟩
  · exact ⟨fb_ii (by omega) (by omega) (by omega) (by omega), rfl⟩
theorem fb_row {n : Int} {p : Int × PV} (hn : n < 100) (h0 : -(10 ^ 80) < p.1) (h1 : p.1 < 10 ^ 80) (u : Unk7 n p.2) : FB 2 904 (eRow p) ∧ pnV (eRow p) = true := by
  obtain ⟨fu, pu⟩ := fb_unk hn u
  exact ⟨.tup ((FBL.cons ((FB.int (by omega) (by omega)).mono (by omega) (Nat.le_refl _)) (FBL.cons fu .nil)).mono (Nat.le_refl _) (by omega)), by simp [eRow, pnV, pnL, pu]⟩
theorem el_row {n : Int} {p : Int × PV} (hn : n < 100) (h0 : -(10 ^ 80) < p.1) (h1 : p.1 < 10 ^ 80) (u : Unk7 n p.2) : El (eRow p) :=
  let z := fb_row hn h0 h1 u
  ⟨z.2, z.1.mono (by omega) (by omega)⟩
theorem fb_els {xs : List PV} (hl : xs.length ≤ 64) (h : ∀ x ∈ xs, El x) : FBL 4 96064 xs := (FBL.of fun x hx => (h x hx).2).mono (Nat.le_refl _) (by omega)
theorem t__law_bent (hk : 2 < k + 1) (hs : spBent.run as h Q R) : wpSs (Γ k) gl ex s__law_bent (startE d__law_bent.N as) h (retE Q) := by
  obtain ⟨p, bs, rfl, hd, ⟨f, n, rfl, hl, hf, n100⟩, hq⟩ := i_draw hs
  show wpSs (Γ k) gl ex s__law_bent [some (.ref p), some (eF f), none, none, none, none] h (retE Q)
  unfold s__law_bent
  have ells : ∀ x ∈ f.map eRow, El x := fun x hx => by
    obtain ⟨q, hq, rfl⟩ := List.mem_map.mp hx
    obtain ⟨h0, h1, u⟩ := hf q hq
    exact el_row n100 (by omega) (by omega) u
  refine x_cut (fun ρ h' => h = h' ∧ ∃ xs, ρ = [some (.ref p), some (eF f), some (.lst xs), none, none, none] ∧ xs ≠ [] ∧ xs.length < 100 ∧ ∀ x ∈ xs, pnV x = true ∧ FB 1 1000 x) ?_ ?_
  · have s0 : ∀ s : Str, PyData.strOk s = true → s.cps.size ≤ 10 → pnV (.str s) = true ∧ FB 1 1000 (.str s) := fun s h1 h2 => ⟨rfl, (FB.of (FP.str h1 h2)).mono (by omega) (by omega)⟩
    have i0 : ∀ i : Int, -1000 < i → i < 1000 → pnV (.int i) = true ∧ FB 1 1000 (.int i) := fun i h1 h2 => ⟨rfl, (FB.int (by omega) (by omega)).mono (by omega) (by omega)⟩
    have t2 : ∀ i j : Int, -1000 < i → i < 1000 → -1000 < j → j < 1000 → pnV (.tup [.int i, .int j]) = true ∧ FB 1 1000 (.tup [.int i, .int j]) := fun i j h1 h2 h3 h4 => ⟨rfl, (fb_ii (by omega) (by omega) (by omega) (by omega)).mono (by omega) (by omega)⟩
    simp
    refine ⟨⟨rfl, (FB.of .bl).mono (by omega) (by omega)⟩, ⟨rfl, (FB.of .non).mono (by omega) (by omega)⟩, s0 _ (by decide +kernel) (by decide +kernel), s0 _ (by decide +kernel) (by decide +kernel), s0 _ (by decide +kernel) (by decide +kernel), i0 0 (by omega) (by omega),
      t2 _ _ (by omega) (by omega) (by omega) (by omega), t2 _ _ (by omega) (by omega) (by omega) (by omega), t2 _ _ (by omega) (by omega) (by omega) (by omega), t2 _ _ (by omega) (by omega) (by omega) (by omega), ?_, ?_, ?_⟩
    · exact ⟨rfl, (FB.tup (FBL.cons (FB.of .bl) (FBL.cons (FB.int (by omega) (by omega)) .nil))).mono (by omega) (by omega)⟩
    · exact ⟨rfl, (FB.lst (FBL.cons (FB.int (by omega) (by omega)) (FBL.cons (FB.int (by omega) (by omega)) .nil))).mono (by omega) (by omega)⟩
    · exact ⟨rfl, (FB.tup (FBL.cons (FB.int (by omega) (by omega)) (FBL.cons (FB.int (by omega) (by omega)) (FBL.cons (FB.int (by omega) (by omega)) .nil)))).mono (by omega) (by omega)⟩
  rintro _ _ ⟨rfl, xs, rfl, x1, x2, x3⟩
  refine x_cut (fun ρ h' => Kp p h h' ∧ ∃ o, ρ = [some (.ref p), some (eF f), some o, none, none, none] ∧ pnV o = true ∧ FB 1 1000 o) ?_ ?_
  · simp
    exact ⟨by omega, hd, x1, by omega, fun v a b c z1 z2 => ⟨.of z1, (x3 v z2).1, (x3 v z2).2⟩⟩
  rintro _ h1 ⟨kp, o, rfl, po, fo⟩
  refine x_cut (fun ρ h' => Kp p h h' ∧ ∃ (s : Nat) (w : Int), ρ = [some (.ref p), some (eF f), some o, some (.lst (f.map eRow)), some (.int s), some (.int w)] ∧ s ≤ f.length) ?_ ?_
  · simp [eF, o_listT]
    refine ⟨by omega, kp.1, by omega, ?_⟩
    exact fun d a z1 z2 z3 => ⟨by omega, z1, fun d2 a2 b2 c2 z4 z5 z6 => ⟨kp.dr z4, d.toNat, by omega, by omega⟩⟩
  rintro _ h1 ⟨kp, s, w, rfl, hs⟩
  have elo : El o := ⟨po, fo.mono (by omega) (by omega)⟩
  refine x_cut (fun ρ h' => h1 = h' ∧ ρ = [some (.ref p), some (eF f), some o, some (.lst (f.map eRow)), some (.int s), some (.int w)]) ?_ ?_
  · simp [eF, o_listT]
    by_cases e : w = 0
    · refine .inr ⟨e, by omega, kp.1, fun v a b c z1 z2 => ?_⟩
      refine (kp.dr z1).ret fun a b c z => hq _ _ _ _ ?_ z
      have flf : FB 6 100000 (.lst (f.map eRow)) := (FB.lst (fb_els (by rw [List.length_map]; omega) ells)).mono (by omega) (by omega)
      have p1 : pnV (.lst (f.map eRow)) = true := pnL_iff.mpr fun x hx => (ells x hx).1
      rcases z2 with rfl | rfl | rfl | rfl | rfl | rfl
      · exact ⟨p1, flf⟩
      · exact ⟨po, fo.mono (by omega) (by omega)⟩
      · exact ⟨rfl, (FB.of .non).mono (by omega) (by omega)⟩
      · exact ⟨rfl, (FB.of (FP.str (w := 1) (by decide +kernel) (by decide +kernel))).mono (by omega) (by omega)⟩
      · exact ⟨by simp [pnV, pnL, po], (FB.tup (FBL.cons fo .nil)).mono (by omega) (by omega)⟩
      · exact ⟨by simp [pnV, pnL, po], (FB.tup (FBL.cons (FB.tup (FBL.cons ((FB.int (i := 1) (by omega) (by omega)).mono (by omega) (Nat.le_refl _)) (FBL.cons fo .nil))) .nil)).mono (by omega) (by omega)⟩
    · exact .inl e
  rintro _ _ ⟨rfl, rfl⟩
  have ins : ∀ (xs : List PV) (y : PV), s ≤ xs.length → (∀ x ∈ xs, El x) → El y → ∀ x ∈ xs.take s ++ [y] ++ xs.drop s, El x := fun xs y hs2 h1 h2 x hx => by
    rcases List.mem_append.mp hx with hx | hx
    · rcases List.mem_append.mp hx with hx | hx
      · exact h1 x (List.mem_of_mem_take hx)
      · cases List.mem_singleton.mp hx; exact h2
    · exact h1 x (List.mem_of_mem_drop hx)
  let J : Nat → Env → MH → Prop := fun i ρ h' => Kp p h h' ∧ ∃ xs : List PV, ρ = [some (.ref p), some (eF f), some o, some (.lst xs), some (.int s), some (.int w)] ∧ s ≤ xs.length ∧ xs.length ≤ 60 + i ∧ ∀ x ∈ xs, El x
  have one : ∀ (i : Nat) (xs : List PV) (y : PV) (h' : MH), Kp p h h' → s ≤ xs.length → xs.length ≤ 60 + i → (∀ x ∈ xs, El x) → El y → J (i + 1) [some (.ref p), some (eF f), some o, some (.lst (xs.take s ++ y :: xs.drop s)), some (.int s), some (.int w)] h' := fun i xs y h' kp l1 l2 he hy => ⟨kp, _, rfl, by simp; omega, by simp; omega, by simpa using ins xs y l1 he hy⟩
  have j0 : J 0 [some (.ref p), some (eF f), some o, some (.lst (f.map eRow)), some (.int s), some (.int w)] h1 := ⟨kp, _, rfl, by rw [List.length_map]; exact hs, by rw [List.length_map]; omega, ells⟩
  refine x_cut (J 1) ?_ ?_
  · obtain ⟨_, xs, e, l1, l2, he⟩ := j0
    simp at e
    subst e
    simp [cut_to, cut_from l1]
    by_cases e : w = 1
    · exact .inr ⟨e, by omega, by omega, one 0 _ o h1 kp l1 l2 he elo⟩
    · exact .inl ⟨e, kp, _, rfl, l1, by omega, he⟩
  rintro _ h2 ⟨kp, xs, rfl, l1, l2, he⟩
  refine x_cut (J 2) ?_ ?_
  · simp [cut_to, cut_from l1]
    have el1 : El (.tup [.int 1, o]) := ⟨by simp [pnV, pnL, po], (FB.tup (FBL.cons ((FB.int (i := 1) (by omega) (by omega)).mono (by omega) (Nat.le_refl _)) (FBL.cons fo .nil))).mono (by omega) (by omega)⟩
    by_cases e : w = 2
    · exact .inr ⟨e, by omega, by omega, one 1 _ _ h2 kp l1 l2 he el1⟩
    · exact .inl ⟨e, kp, _, rfl, l1, by omega, he⟩
  rintro _ h2 ⟨kp, xs, rfl, l1, l2, he⟩
  refine x_cut (J 3) ?_ ?_
  · simp [cut_to, cut_from l1]
    have el1 : El (.tup [o, .str "r"]) := ⟨by simp [pnV, pnL, po], (FB.tup (FBL.cons fo (FBL.cons (FB.of ((FP.str (w := 1) (by decide +kernel) (by decide +kernel)).mono (k' := 1) (by omega) (Nat.le_refl _))) .nil))).mono (by omega) (by omega)⟩
    by_cases e : w = 3
    · exact .inr ⟨e, by omega, by omega, one 2 _ _ h2 kp l1 l2 he el1⟩
    · exact .inl ⟨e, kp, _, rfl, l1, by omega, he⟩
  rintro _ h2 ⟨kp, xs, rfl, l1, l2, he⟩
  refine x_cut (J 4) ?_ ?_
  · simp [cut_to, cut_from l1]
    by_cases e : w = 4
    · refine .inr ⟨e, by omega, kp.1, fun v a b c z1 z2 => ⟨by omega, by omega, one 3 _ v _ (kp.dr z1) l1 l2 he ?_⟩⟩
      have fi : ∀ i : Int, -1000 < i → i < 1000 → FB 1 300 (.int i) := fun i h1 h2 => (FB.int (by omega) (by omega)).mono (by omega) (Nat.le_refl _)
      have fr : FB 1 1 (.str "r") := FB.of ((FP.str (w := 1) (by decide +kernel) (by decide +kernel)).mono (by omega) (Nat.le_refl _))
      rcases z2 with rfl | rfl | rfl | rfl | rfl
      · exact ⟨rfl, (FB.tup (FBL.cons (fi 1 (by omega) (by omega)) .nil)).mono (by omega) (by omega)⟩
      · exact ⟨rfl, (FB.tup (k := 0) .nil).mono (by omega) (by omega)⟩
      · exact ⟨rfl, (FB.tup (FBL.cons (fi 1 (by omega) (by omega)) (FBL.cons fr (FBL.cons (fi 1 (by omega) (by omega)) .nil)))).mono (by omega) (by omega)⟩
      · exact ⟨rfl, (FB.lst (FBL.cons (fi 1 (by omega) (by omega)) (FBL.cons fr .nil))).mono (by omega) (by omega)⟩
      · exact ⟨rfl, (FB.tup (FBL.cons (fi 1 (by omega) (by omega)) (FBL.cons (fb_ii (i := 0) (j := 1) (by omega) (by omega) (by omega) (by omega)) (FBL.cons (fi 0 (by omega) (by omega)) .nil)))).mono (by omega) (by omega)⟩
    · exact .inl ⟨e, kp, _, rfl, l1, by omega, he⟩
  rintro _ h2 ⟨kp, xs, rfl, l1, l2, he⟩
  simp [retE]
  exact kp.ret fun a b c z => hq _ _ _ _ ⟨pnL_iff.mpr fun x hx => (he x hx).1, (FB.tup (fb_els (by omega) he)).mono (by omega) (by omega)⟩ z
theorem o_mul2 {m : Bool} {x : PV} : binOp m .mul (.lst [x]) (.int 2) h Q = allocL m [x, x] h Q :=
  propext ⟨fun ⟨xs, e, _, _, _, q⟩ => by cases e; exact q, fun q => ⟨_, rfl, by decide, by decide, (by decide : 1 * 2 ≤ sizeLine), q⟩⟩
def repF {α : Type} (n : Nat) (xs : List α) : List α := (List.replicate n xs).flatten
theorem o_mulT {m : Bool} {xs : List PV} {j : Int} : binOp m .mul (.tup xs) (.int j) h Q = (xs ≠ [] ∧ 2 ≤ j ∧ j ≤ 1000 ∧ xs.length ≤ 1000 ∧ Q (.tup (repF j.toNat xs)) h) := rfl
theorem rep_map {α β : Type} {g : α → β} {xs : List α} : ∀ n : Nat, repF n (xs.map g) = (repF n xs).map g
  | 0 => rfl
  | n + 1 => by
    have ih := rep_map (g := g) (xs := xs) n
    unfold repF at ih ⊢
    rw [List.replicate_succ, List.flatten_cons, List.replicate_succ, List.flatten_cons, List.map_append, ih]
theorem rep_mem {α : Type} {xs : List α} {x : α} : ∀ n : Nat, x ∈ repF n xs → x ∈ xs
  | 0, h => by simp [repF] at h
  | n + 1, h => by
    unfold repF at h
    rw [List.replicate_succ, List.flatten_cons] at h
    rcases List.mem_append.mp h with h | h
    · exact h
    · exact rep_mem n h
theorem rep_len {α : Type} {xs : List α} : ∀ n : Nat, (repF n xs).length = n * xs.length
  | 0 => by simp [repF]
  | n + 1 => by
    have ih := rep_len (xs := xs) n
    unfold repF at ih ⊢
    rw [List.replicate_succ, List.flatten_cons, List.length_append, ih, Nat.succ_mul]
    omega
theorem val_le {n : Nat} {m r : Int} {t : Tbl} (sq : Sq n m t) (hm : m ≤ 10 ^ 60) (r0 : 0 ≤ r) (r1 : r ≤ 10 ^ 60) : ∀ f : Form, Rw7 n f → (val f t r).natAbs ≤ f.length * (10000000 * 10 ^ 60)
  | [], _ => Nat.zero_le _
  | (c, u) :: f, h => by
    have ih := val_le sq hm r0 r1 f fun q hq => h q (List.mem_cons_of_mem _ hq)
    obtain ⟨c0, c1, hu⟩ := h _ List.mem_cons_self
    simp only at c0 c1 hu
    have hv : 0 ≤ vU t r u ∧ vU t r u ≤ 10 ^ 60 := by
      rcases hu with rfl | ⟨i, j, rfl, ij, i0, i1, j0, j1⟩
      · exact ⟨r0, r1⟩
      · have := sq.cell (i := i.toNat) (j := j.toNat) (by omega) (by omega)
        exact ⟨this.1, Int.le_trans this.2 hm⟩
    have e : val ((c, u) :: f) t r = c * vU t r u + val f t r := by
      unfold val
      rw [List.map_cons, List.sum_cons]
    have a1 : (c * vU t r u).natAbs ≤ 10000000 * 10 ^ 60 := by
      rw [Int.natAbs_mul]
      exact Nat.mul_le_mul (by omega) (by omega)
    rw [e, List.length_cons, Nat.succ_mul]
    have := Int.natAbs_add_le (c * vU t r u) (val f t r)
    omega
theorem fb_form {n : Int} {f : Form} (hn : n < 100) (hl : f.length ≤ 60) (hf : Rw7 n f) : FB 3 54300 (eF f) ∧ pnV (eF f) = true := by
  have z : FBL 2 ((f.map eRow).length * (904 + 1)) (f.map eRow) := FBL.of fun x hx => by
    obtain ⟨q, hq, rfl⟩ := List.mem_map.mp hx
    obtain ⟨h0, h1, u⟩ := hf q hq
    exact (fb_row hn (by omega) (by omega) u).1
  refine ⟨.tup (z.mono (Nat.le_refl _) (by rw [List.length_map]; omega)), pnL_iff.mpr fun x hx => ?_⟩
  obtain ⟨q, hq, rfl⟩ := List.mem_map.mp hx
  obtain ⟨h0, h1, u⟩ := hf q hq
  exact (fb_row hn (by omega) (by omega) u).2
theorem is_rows {n : Int} {f : Form} (hf : ∀ p ∈ f, Unk7 n p.2) : isFm n (eF f) = true := by
  refine List.all_eq_true.mpr fun x hx => ?_
  obtain ⟨q, hq, rfl⟩ := List.mem_map.mp hx
  have hu := hf q hq
  have e : isU n q.2 = true := by
    rcases hu with e | ⟨i, j, e, ij, i0, i1, j0, j1⟩
    · rw [e]; simp [isU]
    · rw [e]
      simp only [isU, Bool.and_eq_true, decide_eq_true_eq, bne_iff_ne]
      exact ⟨⟨ij, i0, i1⟩, j0, j1⟩
  simp [isRow, eRow, isI, e]
theorem pn_form {n : Int} {f : Form} (hf : ∀ p ∈ f, Unk7 n p.2) : pnV (eF f) = true := by
  refine pnL_iff.mpr fun x hx => ?_
  obtain ⟨q, hq, rfl⟩ := List.mem_map.mp hx
  have pu : pnV q.2 = true := by
    rcases hf q hq with e | ⟨i, j, e, _⟩
    · rw [e]; rfl
    · rw [e]; rfl
  simp [eRow, pnV, pnL, pu]
def rowT (r : List Int) : PV := .tup (r.map .int)
theorem fb_rows {n : Nat} {t : Tbl} (hn : n < 10) (sq : Sq n (10 ^ 60) t) : FB 2 54300 (.lst (t.map rowT)) := by
  have z : FBL 1 ((t.map rowT).length * (2709 + 1)) (t.map rowT) := FBL.of fun x hx => by
    obtain ⟨r, hr, rfl⟩ := List.mem_map.mp hx
    obtain ⟨rl, rx⟩ := sq.2 r hr
    have y : FBL 0 ((r.map PV.int).length * (300 + 1)) (r.map .int) := FBL.of fun y hy => by
      obtain ⟨j, hj, rfl⟩ := List.mem_map.mp hy
      have := rx j hj
      exact .int (by omega) (by omega)
    exact .tup (y.mono (Nat.le_refl _) (by rw [List.length_map]; omega))
  have := sq.1
  exact .lst (z.mono (Nat.le_refl _) (by rw [List.length_map]; omega))
theorem t_law (hk : 4 < k + 1) (hs : spLaw.run as h Q R) : wpSs (Γ k) gl ex s_law (startE d_law.N as) h (retE Q) := by
  obtain ⟨ns, rfl, hl, hq⟩ := hs
  show wpSs (Γ k) gl ex s_law [some (.scr (ns.map .int)), none, none, none, none, none, none, none, none, none, none, none, none, none, none, none, none, none, none, none, none, none, none] h (retE Q)
  unfold s_law
  refine x_cut (fun ρ h' => ∃ p, Dr h' p ∧ ρ = [some (.scr (ns.map .int)), some (.ref p), none, none, none, none, none, none, none, none, none, none, none, none, none, none, none, none, none, none, none, none, none]) ?_ ?_
  · simp
    exact ⟨by omega, ns, rfl, hl⟩
  rintro _ h1 ⟨p, hd, rfl⟩
  refine x_cut (fun ρ h' => True) ?_ fun ρ h2 _ => by simp [retE]; exact .now (hq _)
  refine x_forR 0 8 (fun i ρ h' => Dr h' p ∧ ∃ x2 x3 x4 x5 x6 x7 x8 x9 y0 y1 y2 y3 y4 y5 y6 y7 y8 y9 z0 z1 z2, ρ = [some (.scr (ns.map .int)), some (.ref p), x2, x3, x4, x5, x6, x7, x8, x9, y0, y1, y2, y3, y4, y5, y6, y7, y8, y9, z0, z1, z2]) (fun Q q => by simp; exact q) ⟨hd, _, _, _, _, _, _, _, _, _, _, _, _, _, _, _, _, _, _, _, _, _, rfl⟩ ?_ fun _ _ _ => trivial
  rintro i ρ h2 hi ⟨hd, x2, x3, x4, x5, x6, x7, x8, x9, y0, y1, y2, y3, y4, y5, y6, y7, y8, y9, z0, z1, z2, rfl⟩
  refine ⟨_, rfl, ?_⟩
  refine x_cut (fun ρ h' => Dr h' p ∧ ∃ n : Nat, ρ = [some (.scr (ns.map .int)), some (.ref p), some (.int (0 + (i : Int))), some (.int n), x4, x5, x6, x7, x8, x9, y0, y1, y2, y3, y4, y5, y6, y7, y8, y9, z0, z1, z2] ∧ 2 ≤ n ∧ n ≤ 5) ?_ ?_
  · simp
    exact ⟨by omega, hd, fun d a h1 h2 h3 => ⟨h1, (2 + d).toNat, by omega, by omega, by omega⟩⟩
  rintro _ h2 ⟨hd, n, rfl, n2, n5⟩
  -- the form
  refine x_cut (fun ρ h' => Dr h' p ∧ ∃ f : Form, ρ = [some (.scr (ns.map .int)), some (.ref p), some (.int (0 + (i : Int))), some (.int n), some (eF f), some (.lst [.int 1, .int 1, .int 10000, .int (-50000)]), x6, x7, x8, x9, y0, y1, y2, y3, y4, y5, y6, y7, y8, y9, z0, z1, z2] ∧ 1 ≤ f.length ∧ f.length ≤ 5 ∧ ∀ q ∈ f, -100 < q.1 ∧ q.1 < 100 ∧ Unk7 n q.2) ?_ ?_
  · simp
    refine ⟨by omega, r_draw.mpr ⟨hd, ⟨n, rfl, by omega, by omega⟩, ?_⟩⟩
    rintro v a b c ⟨n', f, en, rfl, f1, f5, hf⟩ w1
    cases en
    simp
    exact ⟨by unfold CPow; omega, cmL (by omega), w1, f, rfl, f1, f5, fun a b hm => hf (a, b) hm⟩
  rintro _ h3 ⟨hd, f0, rfl, f1, f5, hf0⟩
  refine x_cut (fun ρ h' => Dr h' p ∧ ∃ f : Form, ρ = [some (.scr (ns.map .int)), some (.ref p), some (.int (0 + (i : Int))), some (.int n), some (eF f), some (.lst [.int 1, .int 1, .int 10000, .int (-50000)]), x6, x7, x8, x9, y0, y1, y2, y3, y4, y5, y6, y7, y8, y9, z0, z1, z2] ∧ 1 ≤ f.length ∧ f.length ≤ 5 ∧ Rw7 n f) ?_ ?_
  · simp
    refine x_compI ⟨f0.map eRow, fun _ => True⟩ (fun j acc h' => Dr h' p ∧ ∃ g : Form, acc = g.map eRow ∧ g.length = j ∧ Rw7 n g) (fun Q q => by simp [eF]; exact q) (by simp; omega) ⟨hd, [], rfl, rfl, fun _ z => nomatch z⟩ ?_ ?_
    · rintro j v acc h4 hj ⟨hd, g, rfl, gl1, hg⟩
      have hj : (f0.map eRow)[j]? = some v := hj
      rw [List.getElem?_map] at hj
      obtain ⟨⟨c, u⟩, hc, rfl⟩ := Option.map_eq_some_iff.mp hj
      obtain ⟨c0, c1, hu⟩ := hf0 _ (List.mem_of_getElem? hc)
      simp only at c0 c1 hu
      refine ⟨trivial, ?_⟩
      simp [wipeE, eRow]
      refine ⟨by omega, hd, fun w a b cc w1 w2 => ?_⟩
      obtain ⟨d, rfl, d0, d1⟩ : ∃ d : Int, w = .int d ∧ -50000 ≤ d ∧ d ≤ 10000 := by
        rcases w2 with rfl | rfl | rfl <;> exact ⟨_, rfl, by omega, by omega⟩
      have b1 : (c * d).natAbs ≤ 99 * 50000 := by
        rw [Int.natAbs_mul]
        exact Nat.mul_le_mul (by omega) (by omega)
      simp
      refine ⟨cmL (by omega), w1, g ++ [(c * d, u)], by simp [eRow], by simp [gl1], fun q hq => ?_⟩
      rcases List.mem_append.mp hq with hq | hq
      · exact hg q hq
      · cases List.mem_singleton.mp hq
        exact ⟨by show -10000000 < c * d; omega, by show c * d < 10000000; omega, hu⟩
    · rintro acc h4 ⟨hd, g, rfl, gl1, hg⟩
      have gl1 : g.length = (f0.map eRow).length := gl1
      rw [List.length_map] at gl1
      refine ⟨trivial, ?_⟩
      simp
      exact ⟨hd, g, rfl, by omega, by omega, hg⟩
  rintro _ h4 ⟨hd, g, rfl, g1, g5, hg⟩
  refine x_cut (fun ρ h' => Dr h' p ∧ ∃ f : Form, ρ = [some (.scr (ns.map .int)), some (.ref p), some (.int (0 + (i : Int))), some (.int n), some (eF f), some (.lst [.int 1, .int 1, .int 10000, .int (-50000)]), x6, x7, x8, x9, y0, y1, y2, y3, y4, y5, y6, y7, y8, y9, z0, z1, z2] ∧ f.length ≤ 60 ∧ Rw7 n f) ?_ ?_
  · simp [eF, o_mulT]
    refine ⟨fun e => by rw [e] at g1; exact absurd g1 (by decide), by omega, by omega, r_draw.mpr ⟨hd, ⟨n, rfl, by omega, by omega⟩, ?_⟩⟩
    rintro v a b c ⟨n', f2, en, rfl, s1, s5, hf2⟩ w1
    cases en
    simp [eF]
    have el := rep_len (xs := g) 14
    have el2 := rep_len (xs := g.map eRow) 14
    rw [List.length_map] at el2
    refine ⟨by omega, by omega, w1, fun d a w2 w3 w4 => ⟨by omega, w2, fun v a w5 w6 => ?_⟩⟩
    obtain ⟨m, rfl, m60⟩ : ∃ m : Nat, v = .int m ∧ m ≤ 60 := by
      rcases w6 with rfl | rfl | rfl | rfl
      · exact ⟨0, rfl, by omega⟩
      · exact ⟨8, rfl, by omega⟩
      · exact ⟨60, rfl, by omega⟩
      · exact ⟨d.toNat, by rw [Int.toNat_of_nonneg w3], by omega⟩
    refine ⟨_, rfl, w5, ((repF 14 g) ++ f2).take m, by rw [cut_to, rep_map, ← List.map_append, ← List.map_take], by rw [List.length_take]; omega, fun q hq => ?_⟩
    rcases List.mem_append.mp (List.mem_of_mem_take hq) with hq | hq
    · exact hg q (rep_mem 14 hq)
    · have := hf2 q hq
      exact ⟨by omega, by omega, this.2.2⟩
  rintro _ h4 ⟨hd, f, rfl, fl, hf⟩
  -- the rows
  refine x_cut (fun ρ h' => ∃ q, Dr h' p ∧ p ≠ q ∧ h' q = some (.lst []) ∧ ∃ w : Int, ρ = [some (.scr (ns.map .int)), some (.ref p), some (.int (0 + (i : Int))), some (.int n), some (eF f), some (.lst [.int 1, .int 1, .int 10000, .int (-50000)]), x6, x7, some (.int w), some (.ref q), y0, y1, y2, y3, y4, y5, y6, y7, y8, y9, z0, z1, z2] ∧ 0 < w ∧ w ≤ 10 ^ 60) ?_ ?_
  · simp
    refine ⟨by unfold CPow; omega, by omega, hd, fun v a b c w1 w2 q hqn => ?_⟩
    obtain ⟨w, rfl, w3, w4⟩ : ∃ w : Int, v = .int w ∧ 0 < w ∧ w ≤ 10 ^ 60 := by
      rcases w2 with rfl | rfl | rfl <;> exact ⟨_, rfl, by omega, by omega⟩
    have dd : Dr (mupd h4 p (dr a b c)) p := dr_at.mpr w1
    have pq := dd.neq hqn
    exact ⟨dd.ne pq, q, pq, mupd_same, w, ⟨rfl, rfl⟩, w3, w4⟩
  rintro _ h5 ⟨q, hd, pq, hq1, w, rfl, w0, w1⟩
  refine x_cut (fun ρ h' => Dr h' p ∧ ∃ (t : Tbl) (x10 x11 : Option PV), h' q = some (.lst (t.map rowT)) ∧ Sq n (10 ^ 60) t ∧ ρ = [some (.scr (ns.map .int)), some (.ref p), some (.int (0 + (i : Int))), some (.int n), some (eF f), some (.lst [.int 1, .int 1, .int 10000, .int (-50000)]), x6, x7, some (.int w), some (.ref q), x10, x11, y2, y3, y4, y5, y6, y7, y8, y9, z0, z1, z2]) ?_ ?_
  · refine x_forR 0 n (fun j ρ h' => Dr h' p ∧ ∃ (t : Tbl) (x10 x11 : Option PV), h' q = some (.lst (t.map rowT)) ∧ (t.length = j ∧ ∀ r ∈ t, r.length = n ∧ ∀ x ∈ r, 0 ≤ x ∧ x ≤ 10 ^ 60) ∧ ρ = [some (.scr (ns.map .int)), some (.ref p), some (.int (0 + (i : Int))), some (.int n), some (eF f), some (.lst [.int 1, .int 1, .int 10000, .int (-50000)]), x6, x7, some (.int w), some (.ref q), x10, x11, y2, y3, y4, y5, y6, y7, y8, y9, z0, z1, z2]) ?_ ⟨hd, [], _, _, hq1, ⟨rfl, fun _ z => nomatch z⟩, rfl⟩ ?_ fun _ _ z => z
    · intro Q hq
      simp
      exact ⟨by omega, hq⟩
    · rintro j _ h6 hj ⟨hd, t, x10, x11, ht, ⟨tl, tx⟩, rfl⟩
      simp
      refine ⟨⟨_, ht⟩, ?_⟩
      refine x_compR 0 n (fun c acc h7 => Dr h7 p ∧ h7 q = some (.lst (t.map rowT)) ∧ ∃ r : List Int, acc = r.map .int ∧ r.length = c ∧ ∀ x ∈ r, 0 ≤ x ∧ x ≤ 10 ^ 60) ?_ (by simp; omega) ⟨hd, ht, [], rfl, rfl, fun _ z => nomatch z⟩ ?_ ?_
      · intro Q hq
        simp
        exact ⟨by omega, hq⟩
      · rintro c acc h7 hc ⟨hd, ht, r, rfl, rl, hr⟩
        simp [wipeE]
        have snoc : ∀ d : Int, 0 ≤ d → d ≤ 10 ^ 60 → ∀ x ∈ r ++ [d], 0 ≤ x ∧ x ≤ 10 ^ 60 := fun d d0 d1 x hx => by
          rcases List.mem_append.mp hx with hx | hx
          · exact hr x hx
          · cases List.mem_singleton.mp hx; exact ⟨d0, d1⟩
        by_cases e : (j : Int) = c
        · exact .inr ⟨e, hd, ht, r ++ [0], by simp, by simp [rl], snoc 0 (by omega) (by omega)⟩
        · refine .inl ⟨e, by omega, hd, w0, by omega, fun d a b cc u1 u2 u3 => ⟨u1, by rw [mupd_ne (Ne.symm pq)]; exact ht, r ++ [d], by simp, by simp [rl], snoc d u2 (by omega)⟩⟩
      · rintro acc h7 ⟨hd, ht, r, rfl, rl, hr⟩
        simp
        refine ⟨_, ht, by simp; omega, hd.ne pq, t ++ [r], by simp [rowT], by simp [tl], fun r' hr' => ?_⟩
        rcases List.mem_append.mp hr' with z | z
        · exact tx r' z
        · cases List.mem_singleton.mp z; exact ⟨rl, hr⟩
  rintro _ h6 ⟨hd, t, x10, x11, ht, sq, rfl⟩
  refine x_cut (fun ρ h' => Dr h' p ∧ h' q = some (.lst (t.map rowT)) ∧ ∃ r : Int, ρ = [some (.scr (ns.map .int)), some (.ref p), some (.int (0 + (i : Int))), some (.int n), some (eF f), some (.lst [.int 1, .int 1, .int 10000, .int (-50000)]), x6, x7, some (.int w), some (.ref q), x10, x11, some (.int r), y3, y4, y5, y6, y7, y8, y9, z0, z1, z2] ∧ 0 ≤ r ∧ r ≤ 10 ^ 60) ?_ ?_
  · simp
    exact ⟨by omega, hd, w0, by omega, fun d a b c u1 u2 u3 => ⟨u1, by rw [mupd_ne (Ne.symm pq)]; exact ht, u2, by omega⟩⟩
  rintro _ h7 ⟨hd, ht, r, rfl, r0, r1⟩
  have ff := fb_form (n := n) (by omega) fl hf
  have fr := fb_rows (by omega) sq
  have qh : ∀ {m h Q}, h q = some (.lst (t.map rowT)) → biOp m .repr [.lst [eF f, .ref q]] h Q = Q (.str (reprP (.lst [eF f, .lst (t.map rowT)]))) h := fun {m h Q} e => o_reprB2 ff.1 (fr.mono (by omega) (Nat.le_refl _)) e (by decide) (by decide)
  have vb := val_le (m := 10 ^ 60) sq (Int.le_refl _) r0 r1 f hf
  have fv : FB 0 300 (.int (val f t r)) := FB.int (by omega) (by omega)
  refine x_cut (fun ρ h' => h7 = h' ∧ ρ = [some (.scr (ns.map .int)), some (.ref p), some (.int (0 + (i : Int))), some (.int n), some (eF f), some (.lst [.int 1, .int 1, .int 10000, .int (-50000)]), x6, x7, some (.int w), some (.ref q), x10, x11, some (.int r), some (.str (reprP (.lst [eF f, .lst (t.map rowT)]))), y4, y5, y6, y7, y8, y9, z0, z1, z2]) ?_ ?_
  · simp [qh ht]
  rintro _ _ ⟨rfl, rfl⟩
  refine x_cut (fun ρ h' => h7 = h' ∧ ρ = [some (.scr (ns.map .int)), some (.ref p), some (.int (0 + (i : Int))), some (.int n), some (eF f), some (.lst [.int 1, .int 1, .int 10000, .int (-50000)]), x6, x7, some (.int w), some (.ref q), x10, x11, some (.int r), some (.str (reprP (.lst [eF f, .lst (t.map rowT)]))), some (.lst [.int (val f t r), .int (val f t r)]), y5, y6, y7, y8, y9, z0, z1, z2]) ?_ ?_
  · simp
    refine x_compR 0 2 (fun c acc h' => h7 = h' ∧ acc = List.replicate c (.int (val f t r))) ?_ (by decide) ⟨rfl, rfl⟩ ?_ ?_
    · intro Q hq
      simp
      exact hq
    · rintro c acc _ hc ⟨rfl, rfl⟩
      simp [wipeE, ht]
      refine ⟨by omega, _, ⟨f, t, r, 10 ^ 60, n, rfl, hf, sq, by omega, rfl⟩, rfl, ?_⟩
      rw [← List.replicate_succ']
    · rintro acc _ ⟨rfl, rfl⟩
      simp
  rintro _ _ ⟨rfl, rfl⟩
  have f2 : FB 1 602 (.lst [.int (val f t r), .int (val f t r)]) := .lst (.cons fv (.cons fv .nil))
  have q2 : ∀ {m h Q}, biOp m .repr [.lst [.int (val f t r), .int (val f t r)]] h Q = Q (.str (reprP (.lst [.int (val f t r), .int (val f t r)]))) h := fun {m h Q} => o_reprB f2 (by decide) (by decide)
  refine x_cut (fun ρ h' => h7 = h' ∧ ∃ y5, ρ = [some (.scr (ns.map .int)), some (.ref p), some (.int (0 + (i : Int))), some (.int n), some (eF f), some (.lst [.int 1, .int 1, .int 10000, .int (-50000)]), x6, x7, some (.int w), some (.ref q), x10, x11, some (.int r), some (.str (reprP (.lst [eF f, .lst (t.map rowT)]))), some (.lst [.int (val f t r), .int (val f t r)]), y5, y6, y7, y8, y9, z0, z1, z2]) ?_ ?_
  · simp [q2]
    refine ⟨by omega, f, t, r, 10 ^ 60, n, q, rfl, by omega, ht, hf, sq, by omega, ?_⟩
    show binOp false .mul (.lst [.int (val f t r)]) (.int 2) h7 _
    rw [o_mul2]
    simp [q2]
  rintro _ _ ⟨rfl, y5, rfl⟩
  -- values that are bent
  refine x_cut (fun ρ h' => Dr h' p ∧ h' q = some (.lst (t.map rowT)) ∧ ∃ y4 y5 y6 y7 y8 y9 z0, ρ = [some (.scr (ns.map .int)), some (.ref p), some (.int (0 + (i : Int))), some (.int n), some (eF f), some (.lst [.int 1, .int 1, .int 10000, .int (-50000)]), x6, x7, some (.int w), some (.ref q), x10, x11, some (.int r), some (.str (reprP (.lst [eF f, .lst (t.map rowT)]))), y4, y5, y6, y7, y8, y9, z0, z1, z2]) ?_ ?_
  · refine x_forR 0 4 (fun _ ρ h' => Dr h' p ∧ h' q = some (.lst (t.map rowT)) ∧ ∃ y4 y5 y6 y7 y8 y9 z0, ρ = [some (.scr (ns.map .int)), some (.ref p), some (.int (0 + (i : Int))), some (.int n), some (eF f), some (.lst [.int 1, .int 1, .int 10000, .int (-50000)]), x6, x7, some (.int w), some (.ref q), x10, x11, some (.int r), some (.str (reprP (.lst [eF f, .lst (t.map rowT)]))), y4, y5, y6, y7, y8, y9, z0, z1, z2]) (fun Q q => by simp; exact q) ⟨hd, ht, _, _, _, _, _, _, _, rfl⟩ ?_ fun _ _ z => z
    rintro l _ h8 hl2 ⟨hd, ht, y4, y5, y6, y7, y8, y9, z0, rfl⟩
    refine ⟨_, rfl, ?_⟩
    refine x_cut (fun ρ h' => Dr h' p ∧ h' q = some (.lst (t.map rowT)) ∧ ∃ (v : PV) (m : Int), ρ = [some (.scr (ns.map .int)), some (.ref p), some (.int (0 + (i : Int))), some (.int n), some (eF f), some (.lst [.int 1, .int 1, .int 10000, .int (-50000)]), x6, x7, some (.int w), some (.ref q), x10, x11, some (.int r), some (.str (reprP (.lst [eF f, .lst (t.map rowT)]))), y4, y5, some (.int (0 + (l : Int))), some v, some (.int m), y9, z0, z1, z2] ∧ pnV v = true ∧ FB 6 100000 v) ?_ ?_
    · simp
      refine ⟨by omega, r_draw.mpr ⟨hd, ⟨f, n, rfl, fl, hf, by omega⟩, ?_⟩⟩
      rintro v a b c ⟨pv, fv⟩ u1
      refine ⟨by omega, dr_at.mpr u1, fun m a b c u2 u3 => ?_⟩
      obtain ⟨m, rfl⟩ : ∃ j : Int, m = .int j := by
        rcases u3 with rfl | rfl | rfl | rfl <;> exact ⟨_, rfl⟩
      simp [u2, mupd_ne (Ne.symm pq), ht]
      exact ⟨pv, fv⟩
    rintro _ h9 ⟨hd, ht, v, m, rfl, pv, fv⟩
    have qv : ∀ {m h Q}, biOp m .repr [v] h Q = Q (.str (reprP v)) h := fun {m h Q} => o_reprB fv (by decide) (by decide)
    have qb : ∀ {m h Q} {b : Bool}, biOp m .repr [.lst [.bl b, .bl b]] h Q = Q (.str (reprP (.lst [.bl b, .bl b]))) h := fun {m h Q b} => o_reprP (FP.lst (.cons .bl (.cons .bl .nil))) (by decide) (by decide)
    refine x_cut (fun ρ h' => h9 = h' ∧ ρ = [some (.scr (ns.map .int)), some (.ref p), some (.int (0 + (i : Int))), some (.int n), some (eF f), some (.lst [.int 1, .int 1, .int 10000, .int (-50000)]), x6, x7, some (.int w), some (.ref q), x10, x11, some (.int r), some (.str (reprP (.lst [eF f, .lst (t.map rowT)]))), y4, y5, some (.int (0 + (l : Int))), some v, some (.int m), some (.str (reprP v)), some (.bl (isFm m v)), z1, z2]) ?_ ?_
    · simp [qv]
      exact ⟨by omega, _, ⟨v, m, rfl, pv, rfl⟩, by simp⟩
    rintro _ _ ⟨rfl, rfl⟩
    refine x_cut (fun ρ h' => h9 = h' ∧ ρ = [some (.scr (ns.map .int)), some (.ref p), some (.int (0 + (i : Int))), some (.int n), some (eF f), some (.lst [.int 1, .int 1, .int 10000, .int (-50000)]), x6, x7, some (.int w), some (.ref q), x10, x11, some (.int r), some (.str (reprP (.lst [eF f, .lst (t.map rowT)]))), some (.lst [.bl (isFm m v), .bl (isFm m v)]), y5, some (.int (0 + (l : Int))), some v, some (.int m), some (.str (reprP v)), some (.bl (isFm m v)), z1, z2]) ?_ ?_
    · simp
      refine x_compR 0 2 (fun c acc h' => h9 = h' ∧ acc = List.replicate c (.bl (isFm m v))) ?_ (by decide) ⟨rfl, rfl⟩ ?_ ?_
      · intro Q hq
        simp
        exact hq
      · rintro c acc _ hc ⟨rfl, rfl⟩
        simp [wipeE]
        refine ⟨by omega, _, ⟨v, m, rfl, pv, rfl⟩, rfl, ?_⟩
        rw [← List.replicate_succ']
      · rintro acc _ ⟨rfl, rfl⟩
        simp
    rintro _ _ ⟨rfl, rfl⟩
    simp [qb, qv]
    exact ⟨hd, ht⟩
  rintro _ h8 ⟨hd, ht, y4, y5, y6, y7, y8, y9, z0, rfl⟩
  -- great forms
  have pf : pnV (eF f) = true := ff.2
  have uf : ∀ q ∈ f, Unk7 n q.2 := fun q hq => (hf q hq).2.2
  let g2 : Form := f ++ [(10000000, .str "r"), (-1000000000000000000000000000001, .tup [.int 0, .int 1])]
  have ug : ∀ q ∈ repF 31 g2, Unk7 n q.2 := fun q hq => by
    rcases List.mem_append.mp (rep_mem 31 hq) with hq | hq
    · exact uf q hq
    · rcases List.mem_cons.mp hq with rfl | hq
      · exact .inl rfl
      · cases List.mem_singleton.mp hq
        exact .inr ⟨0, 1, rfl, by omega, by omega, by omega, by omega, by omega⟩
  refine x_cut (fun ρ h' => h8 = h' ∧ ρ = [some (.scr (ns.map .int)), some (.ref p), some (.int (0 + (i : Int))), some (.int n), some (eF f), some (.lst [.int 1, .int 1, .int 10000, .int (-50000)]), x6, x7, some (.int w), some (.ref q), x10, x11, some (.int r), some (.str (reprP (.lst [eF f, .lst (t.map rowT)]))), y4, y5, y6, y7, y8, y9, z0, some (eF (repF 31 g2)), z2]) ?_ ?_
  · simp [eF, o_mulT]
    refine ⟨by unfold CPow; omega, by unfold CPow; omega, by omega, by omega, ?_⟩
    rw [← rep_map]
    simp [g2, eRow]
  rintro _ _ ⟨rfl, rfl⟩
  have t1 := is_rows uf
  have t2 := is_rows ug
  have t0 : isFm 2 (.tup []) = true := rfl
  refine x_cut (fun ρ h' => h8 = h' ∧ ρ = [some (.scr (ns.map .int)), some (.ref p), some (.int (0 + (i : Int))), some (.int n), some (eF f), some (.lst [.int 1, .int 1, .int 10000, .int (-50000)]), x6, x7, some (.int w), some (.ref q), x10, x11, some (.int r), some (.str (reprP (.lst [eF f, .lst (t.map rowT)]))), y4, y5, y6, y7, y8, y9, z0, some (eF (repF 31 g2)), some (.lst [.bl true, .bl true, .bl true])]) ?_ ?_
  · simp
    exact ⟨by omega, _, ⟨eF f, n, rfl, pf, rfl⟩, by omega, _, ⟨.tup [], 2, rfl, rfl, rfl⟩, by omega, _, ⟨eF (repF 31 g2), n, rfl, pn_form ug, rfl⟩, by simp [t0, t1, t2]⟩
  rintro _ _ ⟨rfl, rfl⟩
  have q3 : ∀ {m h Q}, biOp m .repr [.lst [.bl true, .bl true, .bl true]] h Q = Q (.str (reprP (.lst [.bl true, .bl true, .bl true]))) h := fun {m h Q} => o_reprP (FP.lst (.cons .bl (.cons .bl (.cons .bl .nil)))) (by decide) (by decide)
  simp [q3, qh ht]
  exact hd
end
end Ev.Lw

set_option Elab.async false
set_option linter.all false
set_option maxRecDepth 100000
set_option maxHeartbeats 4000000
namespace Ev.Lw
open PySem PySem.Spec PyProof.Rows L2
section
variable {G : Ctx} {gl : Str → PV} {ρ : Env} {h : MH} {D : PEnds} {Q : PK} {R : XV} {ex : Env → XV} {k : Nat} {as : List PV}
theorem hsp (k : Nat) : ∀ e ∈ ds, ∀ as h Q R, as.length = e.ps.length → (Γ (k + 1)).fn e.d.name as h Q R → wpSs (Γ k) (fun _ => .non) (fun _ => R) e.ss (startE e.N as) h (retE Q) := by
  intro e he as h Q R _ hs
  simp only [ds, List.mem_cons, List.not_mem_nil, or_false] at he
  rcases he with rfl | rfl | rfl | rfl | rfl | rfl | rfl | rfl | rfl | rfl | rfl | rfl | rfl | rfl
  · exact t_value_of (c_value_of ▸ hs).1 (c_value_of ▸ hs).2
  · exact t_is_integer (c_is_integer ▸ hs).1 (c_is_integer ▸ hs).2
  · exact t_is_unknown (c_is_unknown ▸ hs).1 (c_is_unknown ▸ hs).2
  · exact t_is_form (c_is_form ▸ hs).1 (c_is_form ▸ hs).2
  · exact t__law_draws (c__law_draws ▸ hs).1 (c__law_draws ▸ hs).2
  · exact t__law_next (c__law_next ▸ hs).1 (c__law_next ▸ hs).2
  · exact t__law_one (c__law_one ▸ hs).1 (c__law_one ▸ hs).2
  · exact t__law_unknown (c__law_unknown ▸ hs).1 (c__law_unknown ▸ hs).2
  · exact t__law_form (c__law_form ▸ hs).1 (c__law_form ▸ hs).2
  · exact t__law_value (c__law_value ▸ hs).1 (c__law_value ▸ hs).2
  · exact t__law_is_int (c__law_is_int ▸ hs).1 (c__law_is_int ▸ hs).2
  · exact t__law_is_form (c__law_is_form ▸ hs).1 (c__law_is_form ▸ hs).2
  · exact t__law_bent (c__law_bent ▸ hs).1 (c__law_bent ▸ hs).2
  · exact t_law (c_law ▸ hs).1 (c_law ▸ hs).2
theorem law_start (ns : List Int) (Q : PK) (R : XV) (hl : ns.length ≤ 63) (hb : ∀ z ∈ ns, Builtin.Int.intBits z ≤ 1048576) (hq : ∀ h, Q (.bl true) h) : (Γ 5).fn d_law.d.name [.scr (ns.map .int)] (fun _ => none) Q R := by
  show (Γ 5).fn "law" _ _ _ _
  rw [c_law]
  exact ⟨by decide, ns, rfl, hl, hq⟩
end
end Ev.Lw

set_option Elab.async false
set_option linter.all false
set_option maxRecDepth 100000
set_option maxHeartbeats 0
namespace Ev.Lw
open PySem PySem.Spec PyProof.Rows L2
def fa : List He.Fa := ds.map (fun e => .glo e.d.name) ++ free.map .free
abbrev R : PySem.W.OpenRow := PySem.W.OpenLaw.row PySem.Challenge.rw_anydistance_k07_forms_and_their_values
abbrev hk : PySem.W.Hook := He.hookD 4 fa (ds.map (·.d))
def ob (s : PySem.W.SharedT) : He.AlD := He.obsDG 4 fa (ds.map (·.d)) (HandSHeadRun.getT s)
theorem ob_eq (s : PySem.W.SharedT) : ob s = hk.obs s.abs := He.obsDG_eq (HandSHeadRun.getT_eq s)
theorem run (w : World) : HandSHeadRun.RunEq R (PySem.W.view R.prog [15]) hk ob 2000 ["value_of", "is_integer", "is_unknown", "is_form", "_law_draws", "_law_next", "_law_one", "_law_unknown", "_law_form", "_law_value", "_law_is_int", "_law_is_form", "_law_bent"] w := by
  intro os
  kernel_rfl
theorem bs : ∀ e ∈ ds, e.Bs := by
  intro e he
  simp only [ds, List.mem_cons, List.not_mem_nil, or_false] at he
  rcases he with rfl | rfl | rfl | rfl | rfl | rfl | rfl | rfl | rfl | rfl | rfl | rfl | rfl | rfl
  · exact b_value_of
  · exact b_is_integer
  · exact b_is_unknown
  · exact b_is_form
  · exact b__law_draws
  · exact b__law_next
  · exact b__law_one
  · exact b__law_unknown
  · exact b__law_form
  · exact b__law_value
  · exact b__law_is_int
  · exact b__law_is_form
  · exact b__law_bent
  · exact b_law
end Ev.Lw
open PySem PySem.W PySem.Calls PyProof.Rows
theorem PySem.Challenge.cw_anydistance_k07_forms_and_their_values_holds : PySem.Challenge.rw_anydistance_k07_forms_and_their_values.Holds := by
  w_on; o_law
  refine HandSHeadRun.head_any (r := OpenLaw.row PySem.Challenge.rw_anydistance_k07_forms_and_their_values) (q := view (OpenLaw.row PySem.Challenge.rw_anydistance_k07_forms_and_their_values).prog [15]) (H := Ev.Lw.hk) (ob := Ev.Lw.ob) (M := 2000) (loose := ["value_of", "is_integer", "is_unknown", "is_form", "_law_draws", "_law_next", "_law_one", "_law_unknown", "_law_form", "_law_value", "_law_is_int", "_law_is_form", "_law_bent"])
    (d := HandSHeadRun.topDef (OpenLaw.row PySem.Challenge.rw_anydistance_k07_forms_and_their_values).prog 15) (kwd := []) Ev.Lw.ob_eq
    (by kernel_rfl) (fun s => by kernel_rfl) Ev.Lw.run (by kernel_rfl) (by kernel_rfl)
    (by kernel_rfl) (by rfl) (by first | assumption | decide +kernel) (by decide +kernel)
    ⟨rfl, rfl, rfl, rfl, rfl, by decide +kernel⟩ ?hw ?hc
  case hw => w_witness2
  case hc =>
    exact Ev.ev_walk (l := PySem.Challenge.rw_anydistance_k07_forms_and_their_values) (n := 63) (k := 5) (x := "_law_script") (Γ := Ev.Lw.Γ) (gl := fun _ => .non) Ev.Lw.d_law (by simp [Ev.Lw.ds]) rfl rfl (by decide) (by kernel_rfl) ⟨rfl, by decide, by decide⟩ (by kernel_rfl)
      Ev.Lw.ds_ok Ev.Lw.bs Ev.Lw.hkw (fun e he => List.mem_append_left _ (List.mem_map.mpr ⟨e, he, rfl⟩)) (fun x hx => List.mem_append_right _ (List.mem_map.mpr ⟨x, hx, rfl⟩)) (fun _ _ _ _ _ => Ev.ctxR_zero) Ev.Lw.hsp Ev.Lw.law_start

