import PyProof.Rows.All
import Wide.All
import OpenK.AllK
import Wide.FinOn
import HandS.ForMost
import HandS.ForExc
import HandS.ExcInit
import KE.SortData
import KE.KExcIs
import KE.KExcInit
import KE.KExcMake
import HandS.Deep
import HandS.Wide
import HandS.TupAny
import HandS.TupMul
import HandS.Flow
import HandS.Style
import HandS.TupLe
import HandS.Defaults
import HandS.Star
import HandS.IsInst
import HandS.Zip
import HandS.Comp
import PyProof.ReprRoads
import HandS.HeadHook2
import HandS.Head0
import HandS.Head1
import HandS.Head2
import PySem.Challenge.RW_oldpages_k06_errors_alone
set_option Elab.async false
set_option linter.all false
set_option maxRecDepth 100000
set_option maxHeartbeats 0
namespace R
open PySem L2

/-- a value: tuples are data, so are the script (scr) and a list that nobody writes any more (flst); ref n is the n-th object of the small heap; fn, cl: a def, a class of the text by its number -/
inductive D where
  | none | bool (b : Bool) | int (i : Int) | str (s : Str) | tup (ds : List D) | scr (ds : List D) | flst (ds : List D) | ref (n : Nat) | fn (i : Nat) | cl (i : Nat) | ty (t : String)
  /-- a dict, an instance of the c-th class, that nobody writes any more -/
  | fdk (ks : List Key) (ds : List D) | obj (c : Nat) (ns : List Str) (ds : List D)
  /-- an error of the c-th class as a value: its fields' names, their values -/
  | exv (c : Nat) (ns : List Str) (ds : List D)
  deriving Inhabited

/-- an object -/
inductive MO where
  | lst (xs : List D)
  | dk (kvs : List (Key × D))
  | ins (c : Nat) (fs : List (Str × D))
  deriving Inhabited

structure MH where
  next : Nat
  objs : List (Nat × MO)
  deriving Inhabited

def getO : List (Nat × MO) → Nat → Option MO
  | [], _ => Option.none
  | (m, o) :: r, n => if m = n then some o else getO r n
def setO : List (Nat × MO) → Nat → MO → List (Nat × MO)
  | [], _, _ => []
  | (m, o) :: r, n, o' => if m = n then (m, o') :: r else (m, o) :: setO r n o'
def MH.get (h : MH) (n : Nat) : Option MO := getO h.objs n
def MH.set (h : MH) (n : Nat) (o : MO) : MH := { h with objs := setO h.objs n o }
def MH.push (h : MH) (o : MO) : MH := ⟨h.next + 1, (h.next, o) :: h.objs⟩

theorem getO_setO : ∀ (l : List (Nat × MO)) (n m : Nat) (o : MO), getO (setO l n o) m = if m = n then (getO l n).map (fun _ => o) else getO l m
  | [], n, m, o => by simp [setO, getO]
  | (k, x) :: r, n, m, o => by
    have ih := getO_setO r n m o
    unfold setO
    by_cases hk : k = n
    · subst hk
      simp only [if_true]
      unfold getO
      by_cases hm : m = k
      · subst hm; simp
      · have hm' : ¬ k = m := fun e => hm e.symm
        simp only [if_neg hm, if_neg hm']
    · simp only [hk, if_false]
      unfold getO
      by_cases hm : k = m
      · subst hm; simp [hk]
      · simp only [hm, if_false, hk]
        exact ih
theorem MH.get_set (h : MH) (n m : Nat) (o : MO) : (h.set n o).get m = if m = n then (h.get n).map (fun _ => o) else h.get m := getO_setO _ _ _ _
theorem MH.get_push (h : MH) (m : Nat) (o : MO) : (h.push o).get m = if m = h.next then some o else h.get m := by
  show getO ((h.next, o) :: h.objs) m = if m = h.next then some o else getO h.objs m
  rw [getO]
  by_cases e : m = h.next
  · subst e; simp
  · have e' : ¬ h.next = m := fun q => e q.symm
    rw [if_neg e, if_neg e']

/-- what comes of a computation -/
inductive Res (α : Type) where
  | ok (a : α) (h : MH)
  /-- an error of the c-th class, its fields -/
  | exc (c : Nat) (fs : List (Str × D)) (h : MH)
  | bad
def Res.bind {α β : Type} : Res α → (α → MH → Res β) → Res β
  | .ok a h, f => f a h
  | .exc c fs h, _ => .exc c fs h
  | .bad, _ => .bad

/-- what is told of the text's written part: where its defs and classes stand -/
structure G where
  K : PySem.W.Frag
  fa : Nat → Addr
  ca : Nat → Addr

/-- a view: where the objects of the small heap stand (k of them), the abstract heap -/
structure Vw where
  ρ : Nat → Addr
  k : Nat
  H : Hp
  /-- marks: 1: nobody writes it any more; 2: under way, nobody else knows it -/
  M : Addr → Nat

/-- a list that nobody writes -/
def Fz (K : PySem.W.Frag) (H : Hp) (a : Addr) (xs : List V) : Prop :=
  (∃ o, H a = some (.frz o (.lst xs))) ∨
    ∃ (o : Obj) (its : Array Value) (n : Nat), K.lookup a = some o ∧ o.cls = .type "list" ∧ o.dict = none ∧ o.data = .seq its n ∧ its.size ≤ sizeLine ∧ Vals xs its.toList
theorem Fz.sq {K : PySem.W.Frag} {H : Hp} {a : Addr} {xs : List V} (h : Fz K H a xs) : SqL K H a xs := by
  rcases h with h | h
  · exact .inl (.inr h)
  · exact .inr h

/-- an error of the class at C as a value, at a -/
def XvAt (H : Hp) (a C : Addr) (fs : List (Str × V)) : Prop := (fs = [] ∧ H a = some (exo a C none)) ∨ ∃ dx, H a = some (exo a C (some dx)) ∧ H dx = some (exd dx fs)

mutual
def Rep (Γ : G) (w : Vw) : D → V → Prop
  | .none, v => v = .non
  | .bool b, v => v = .bl b
  | .int i, v => v = .int i
  | .str s, v => v = .str s
  | .tup ds, v => ∃ a xs, v = .ref a ∧ SqT Γ.K w.H a xs ∧ Reps Γ w ds xs
  | .scr ds, v => ∃ a xs, v = .ref a ∧ Fz Γ.K w.H a xs ∧ Reps Γ w ds xs
  | .flst ds, v => ∃ a xs, v = .ref a ∧ w.M a = 1 ∧ w.H a = some (.lst xs) ∧ Reps Γ w ds xs
  | .fdk ks ds, v => ∃ a xs, v = .ref a ∧ w.M a = 1 ∧ w.H a = some (.dK (ks.zip xs)) ∧ xs.length = ks.length ∧ Reps Γ w ds xs
  | .obj c ns ds, v => ∃ a dx xs, v = .ref a ∧ w.M a = 1 ∧ w.H a = some (.ins (Γ.ca c) dx (ns.zip xs)) ∧ xs.length = ns.length ∧ Reps Γ w ds xs
  | .ref n, v => n < w.k ∧ v = .ref (w.ρ n)
  | .fn i, v => v = .ref (Γ.fa i)
  | .cl i, v => v = .ref (Γ.ca i)
  | .ty t, v => v = .ty t
  | .exv c ns ds, v => ∃ a xs, v = .ref a ∧ XvAt w.H a (Γ.ca c) (ns.zip xs) ∧ xs.length = ns.length ∧ Reps Γ w ds xs
def Reps (Γ : G) (w : Vw) : List D → List V → Prop
  | [], vs => vs = []
  | d :: ds, vs => ∃ x xs, vs = x :: xs ∧ Rep Γ w d x ∧ Reps Γ w ds xs
end

/-- what was known stays known; what is under way may have changed -/
structure Ext0 (Γ : G) (w w' : Vw) : Prop where
  k : w.k ≤ w'.k
  ρ : ∀ n, n < w.k → w'.ρ n = w.ρ n
  t : ∀ a xs, SqT Γ.K w.H a xs → SqT Γ.K w'.H a xs
  z : ∀ a xs, Fz Γ.K w.H a xs → Fz Γ.K w'.H a xs
  x : ∀ a C fs, XvAt w.H a C fs → XvAt w'.H a C fs
  p : ∀ a o, w.M a = 1 → w.H a = some o → w'.M a = 1 ∧ w'.H a = some o
structure Ext (Γ : G) (w w' : Vw) : Prop where
  k : w.k ≤ w'.k
  ρ : ∀ n, n < w.k → w'.ρ n = w.ρ n
  t : ∀ a xs, SqT Γ.K w.H a xs → SqT Γ.K w'.H a xs
  z : ∀ a xs, Fz Γ.K w.H a xs → Fz Γ.K w'.H a xs
  x : ∀ a C fs, XvAt w.H a C fs → XvAt w'.H a C fs
  q : ∀ a o, w.M a ≠ 0 → w.H a = some o → w'.M a = w.M a ∧ w'.H a = some o
theorem Ext.e0 {Γ : G} {w w' : Vw} (e : Ext Γ w w') : Ext0 Γ w w' := ⟨e.k, e.ρ, e.t, e.z, e.x, fun a o h q => by
  obtain ⟨h1, h2⟩ := e.q a o (by rw [h]; decide) q
  exact ⟨h1.trans h, h2⟩⟩
theorem Ext.refl {Γ : G} (w : Vw) : Ext Γ w w := ⟨Nat.le_refl _, fun _ _ => rfl, fun _ _ h => h, fun _ _ h => h, fun _ _ _ h => h, fun _ _ _ h => ⟨rfl, h⟩⟩
theorem Ext.trans {Γ : G} {a b c : Vw} (x : Ext Γ a b) (y : Ext Γ b c) : Ext Γ a c :=
  ⟨Nat.le_trans x.k y.k, fun n h => (y.ρ n (Nat.lt_of_lt_of_le h x.k)).trans (x.ρ n h), fun a xs h => y.t a xs (x.t a xs h), fun a xs h => y.z a xs (x.z a xs h), fun a C fs h => y.x a C fs (x.x a C fs h), fun a o h q => by
    obtain ⟨h1, h2⟩ := x.q a o h q
    obtain ⟨h3, h4⟩ := y.q a o (by rw [h1]; exact h) h2
    exact ⟨h3.trans h1, h4⟩⟩
theorem Ext0.refl {Γ : G} (w : Vw) : Ext0 Γ w w := (Ext.refl w).e0
theorem Ext0.trans {Γ : G} {a b c : Vw} (x : Ext0 Γ a b) (y : Ext0 Γ b c) : Ext0 Γ a c :=
  ⟨Nat.le_trans x.k y.k, fun n h => (y.ρ n (Nat.lt_of_lt_of_le h x.k)).trans (x.ρ n h), fun a xs h => y.t a xs (x.t a xs h), fun a xs h => y.z a xs (x.z a xs h), fun a C fs h => y.x a C fs (x.x a C fs h), fun a o h q => by
    obtain ⟨h1, h2⟩ := x.p a o h q
    exact y.p a o h1 h2⟩
mutual
theorem Rep.mono0 {Γ : G} {w w' : Vw} (e : Ext0 Γ w w') : ∀ {d : D} {v : V}, Rep Γ w d v → Rep Γ w' d v
  | .none, _, h => h
  | .bool _, _, h => h
  | .int _, _, h => h
  | .str _, _, h => h
  | .tup ds, v, h => by
    obtain ⟨a, xs, e1, e2, e3⟩ := h
    exact ⟨a, xs, e1, e.t a xs e2, Reps.mono0 e e3⟩
  | .scr ds, v, h => by
    obtain ⟨a, xs, e1, e2, e3⟩ := h
    exact ⟨a, xs, e1, e.z a xs e2, Reps.mono0 e e3⟩
  | .flst ds, v, h => by
    obtain ⟨a, xs, e1, e2, e3, e4⟩ := h
    obtain ⟨q1, q2⟩ := e.p a _ e2 e3
    exact ⟨a, xs, e1, q1, q2, Reps.mono0 e e4⟩
  | .fdk ks ds, v, h => by
    obtain ⟨a, xs, e1, e2, e3, e4, e5⟩ := h
    obtain ⟨q1, q2⟩ := e.p a _ e2 e3
    exact ⟨a, xs, e1, q1, q2, e4, Reps.mono0 e e5⟩
  | .obj c ns ds, v, h => by
    obtain ⟨a, dx, xs, e1, e2, e3, e4, e5⟩ := h
    obtain ⟨q1, q2⟩ := e.p a _ e2 e3
    exact ⟨a, dx, xs, e1, q1, q2, e4, Reps.mono0 e e5⟩
  | .ref n, v, h => by
    obtain ⟨e1, e2⟩ := h
    exact ⟨Nat.lt_of_lt_of_le e1 e.k, by rw [e.ρ n e1]; exact e2⟩
  | .fn _, _, h => h
  | .cl _, _, h => h
  | .ty _, _, h => h
  | .exv c ns ds, v, h => by
    obtain ⟨a, xs, e1, e2, e3, e4⟩ := h
    exact ⟨a, xs, e1, e.x _ _ _ e2, e3, Reps.mono0 e e4⟩
theorem Reps.mono0 {Γ : G} {w w' : Vw} (e : Ext0 Γ w w') : ∀ {ds : List D} {vs : List V}, Reps Γ w ds vs → Reps Γ w' ds vs
  | [], _, h => h
  | d :: ds, vs, h => by
    obtain ⟨x, xs, e1, e2, e3⟩ := h
    exact ⟨x, xs, e1, Rep.mono0 e e2, Reps.mono0 e e3⟩
end
theorem Rep.mono {Γ : G} {w w' : Vw} (e : Ext Γ w w') {d : D} {v : V} (h : Rep Γ w d v) : Rep Γ w' d v := h.mono0 e.e0
theorem Reps.mono {Γ : G} {w w' : Vw} (e : Ext Γ w w') {ds : List D} {vs : List V} (h : Reps Γ w ds vs) : Reps Γ w' ds vs := h.mono0 e.e0

theorem Reps.length {Γ : G} {w : Vw} : ∀ {ds : List D} {vs : List V}, Reps Γ w ds vs → vs.length = ds.length
  | [], _, h => by cases h; rfl
  | d :: ds, vs, h => by
    obtain ⟨x, xs, rfl, _, e3⟩ := h
    simp [Reps.length e3]
theorem Reps.nil {Γ : G} {w : Vw} : Reps Γ w [] [] := rfl
theorem Reps.cons {Γ : G} {w : Vw} {d : D} {ds : List D} {x : V} {xs : List V} (h : Rep Γ w d x) (t : Reps Γ w ds xs) : Reps Γ w (d :: ds) (x :: xs) := ⟨x, xs, rfl, h, t⟩
theorem Reps.append {Γ : G} {w : Vw} : ∀ {ds es : List D} {xs ys : List V}, Reps Γ w ds xs → Reps Γ w es ys → Reps Γ w (ds ++ es) (xs ++ ys)
  | [], _, _, _, h, t => by cases h; exact t
  | d :: ds, _, _, _, h, t => by
    obtain ⟨x, xs, rfl, e2, e3⟩ := h
    exact ⟨x, _, rfl, e2, Reps.append e3 t⟩
theorem Reps.get {Γ : G} {w : Vw} : ∀ {ds : List D} {xs : List V} {i : Nat} {d : D}, Reps Γ w ds xs → ds[i]? = some d → ∃ x, xs[i]? = some x ∧ Rep Γ w d x
  | [], _, _, _, _, h => by simp at h
  | d :: ds, _, 0, _, h, e => by
    obtain ⟨x, xs, rfl, e2, e3⟩ := h
    simp at e; subst e
    exact ⟨x, rfl, e2⟩
  | d :: ds, _, i + 1, _, h, e => by
    obtain ⟨x, xs, rfl, e2, e3⟩ := h
    simp at e
    obtain ⟨y, h1, h2⟩ := Reps.get e3 e
    exact ⟨y, by simpa using h1, h2⟩
theorem Reps.set {Γ : G} {w : Vw} {d : D} {x : V} (r : Rep Γ w d x) : ∀ {ds : List D} {xs : List V} (i : Nat), Reps Γ w ds xs → Reps Γ w (ds.set i d) (xs.set i x)
  | [], _, _, h => by cases h; rfl
  | _ :: _, _, 0, h => by
    obtain ⟨y, ys, rfl, e2, e3⟩ := h
    exact ⟨x, ys, rfl, r, e3⟩
  | _ :: ds, _, i + 1, h => by
    obtain ⟨y, ys, rfl, e2, e3⟩ := h
    exact ⟨y, _, rfl, e2, Reps.set r i e3⟩
theorem Reps.take {Γ : G} {w : Vw} : ∀ {ds : List D} {xs : List V} (n : Nat), Reps Γ w ds xs → Reps Γ w (ds.take n) (xs.take n)
  | _, _, 0, _ => by simp [Reps]
  | [], _, _ + 1, h => by cases h; rfl
  | d :: ds, _, n + 1, h => by
    obtain ⟨y, ys, rfl, e2, e3⟩ := h
    exact ⟨y, _, rfl, e2, Reps.take n e3⟩
theorem Reps.drop {Γ : G} {w : Vw} : ∀ {ds : List D} {xs : List V} (n : Nat), Reps Γ w ds xs → Reps Γ w (ds.drop n) (xs.drop n)
  | _, _, 0, h => h
  | [], _, _ + 1, h => by cases h; rfl
  | d :: ds, _, n + 1, h => by
    obtain ⟨y, ys, rfl, e2, e3⟩ := h
    exact Reps.drop n e3

/-- pairs of a dict, fields of an instance -/
def RepP {κ : Type} (Γ : G) (w : Vw) : List (κ × D) → List (κ × V) → Prop
  | [], vs => vs = []
  | (k, d) :: ds, vs => ∃ x xs, vs = (k, x) :: xs ∧ Rep Γ w d x ∧ RepP Γ w ds xs
theorem RepP.mono0 {κ : Type} {Γ : G} {w w' : Vw} (e : Ext0 Γ w w') : ∀ {ds : List (κ × D)} {vs : List (κ × V)}, RepP Γ w ds vs → RepP Γ w' ds vs
  | [], _, h => h
  | (k, d) :: ds, vs, h => by
    obtain ⟨x, xs, e1, e2, e3⟩ := h
    exact ⟨x, xs, e1, Rep.mono0 e e2, RepP.mono0 e e3⟩
theorem RepP.mono {κ : Type} {Γ : G} {w w' : Vw} (e : Ext Γ w w') {ds : List (κ × D)} {vs : List (κ × V)} (h : RepP Γ w ds vs) : RepP Γ w' ds vs := h.mono0 e.e0
theorem RepP.length {κ : Type} {Γ : G} {w : Vw} : ∀ {ds : List (κ × D)} {vs : List (κ × V)}, RepP Γ w ds vs → vs.length = ds.length
  | [], _, h => by cases h; rfl
  | (k, d) :: ds, vs, h => by
    obtain ⟨x, xs, rfl, _, e3⟩ := h
    simp [RepP.length e3]
theorem RepP.lookup {Γ : G} {w : Vw} {f : Str} {d : D} : ∀ {ds : List (Str × D)} {vs : List (Str × V)}, RepP Γ w ds vs → ds.lookup f = some d → ∃ x, vs.lookup f = some x ∧ Rep Γ w d x
  | [], _, _, e => by simp at e
  | (k, d') :: ds, vs, h, e => by
    obtain ⟨x, xs, rfl, e2, e3⟩ := h
    rw [List.lookup_cons] at e ⊢
    cases hb : f == k with
    | true => rw [hb] at e; cases e; exact ⟨x, rfl, e2⟩
    | false => rw [hb] at e; exact RepP.lookup e3 e
theorem RepP.lookup_none {Γ : G} {w : Vw} {f : Str} : ∀ {ds : List (Str × D)} {vs : List (Str × V)}, RepP Γ w ds vs → ds.lookup f = none → vs.lookup f = none
  | [], _, h, _ => by cases h; rfl
  | (k, d') :: ds, vs, h, e => by
    obtain ⟨x, xs, rfl, e2, e3⟩ := h
    rw [List.lookup_cons] at e ⊢
    cases hb : f == k with
    | true => rw [hb] at e; cases e
    | false => rw [hb] at e; exact RepP.lookup_none e3 e
/-- as putF -/
def putD (f : Str) (v : D) : List (Str × D) → List (Str × D)
  | [] => [(f, v)]
  | (g, u) :: fs => if g = f then (g, v) :: fs else (g, u) :: putD f v fs

/-- what an object of the small heap is in the abstract heap, at a -/
def ObjR (Γ : G) (w : Vw) (a : Addr) : MO → Prop
  | .lst ds => ∃ xs, w.H a = some (.lst xs) ∧ Reps Γ w ds xs
  | .dk kvs => ∃ xs, w.H a = some (.dK xs) ∧ RepP Γ w kvs xs
  | .ins c fs => ∃ dx xs, w.H a = some (.ins (Γ.ca c) dx xs) ∧ RepP Γ w fs xs

structure Sim (Γ : G) (w : Vw) (h : MH) : Prop where
  k : h.next = w.k
  fr : ∀ a, w.H a = none → w.M a = 0
  np : ∀ n o, h.get n = some o → w.M (w.ρ n) = 0
  obj : ∀ n o, h.get n = some o → n < w.k ∧ ObjR Γ w (w.ρ n) o
  inj : ∀ n m o o', h.get n = some o → h.get m = some o' → w.ρ n = w.ρ m → n = m
end R
namespace R
open PySem L2

/-- neither a tuple nor locked -/
def NoT (o : Option HO) : Prop := (∀ xs, o ≠ some (.tup xs)) ∧ (∀ u x, o ≠ some (.frz u x)) ∧ ∀ φ, o ≠ some (.ext φ)
theorem NoT.none : NoT Option.none := ⟨(fun _ h => by cases h), (fun _ _ h => by cases h), (fun _ h => by cases h)⟩
theorem NoT.lst {xs : List V} : NoT (some (.lst xs)) := ⟨(fun _ h => by cases h), (fun _ _ h => by cases h), (fun _ h => by cases h)⟩
theorem NoT.dK {xs : List (Key × V)} : NoT (some (.dK xs)) := ⟨(fun _ h => by cases h), (fun _ _ h => by cases h), (fun _ h => by cases h)⟩
theorem NoT.ins {C dx : Addr} {xs : List (Str × V)} : NoT (some (.ins C dx xs)) := ⟨(fun _ h => by cases h), (fun _ _ h => by cases h), (fun _ h => by cases h)⟩

/-- may be changed: neither a tuple nor locked nor marked -/
def NoM (w : Vw) (b : Addr) : Prop := w.H b = Option.none ∨ (NoT (w.H b) ∧ w.M b = 0)
theorem NoM.not {w : Vw} {b : Addr} (h : NoM w b) : NoT (w.H b) := by
  rcases h with h | h
  · rw [h]; exact .none
  · exact h.1
theorem ext_H {Γ : G} {w : Vw} {H' : Hp} (h : ∀ b, w.H b ≠ H' b → NoM w b) : Ext Γ w { w with H := H' } := by
  refine ⟨Nat.le_refl _, fun _ _ => rfl, fun b xs q => ?_, fun b xs q => ?_, fun b C fs q => ?_, fun b o hm q => ?_⟩
  · rcases q with (q | ⟨u, q⟩) | q
    · by_cases e : w.H b = H' b
      · exact .inl (.inl (by show H' b = _; rw [← e]; exact q))
      · exact absurd q ((h b e).not.1 _)
    · by_cases e : w.H b = H' b
      · exact .inl (.inr ⟨u, by show H' b = _; rw [← e]; exact q⟩)
      · exact absurd q ((h b e).not.2.1 _ _)
    · exact .inr q
  · rcases q with ⟨u, q⟩ | q
    · by_cases e : w.H b = H' b
      · exact .inl ⟨u, by show H' b = _; rw [← e]; exact q⟩
      · exact absurd q ((h b e).not.2.1 _ _)
    · exact .inr q
  · have same : ∀ {b : Addr} {φ : Heap → Prop}, w.H b = some (.ext φ) → H' b = some (.ext φ) := fun {b φ} q => by
      by_cases e : w.H b = H' b
      · rw [← e]; exact q
      · exact absurd q ((h b e).not.2.2 _)
    rcases q with ⟨q1, q⟩ | ⟨dx, q, q2⟩
    · exact .inl ⟨q1, same q⟩
    · exact .inr ⟨dx, same q, same q2⟩
  · refine ⟨rfl, ?_⟩
    by_cases e : w.H b = H' b
    · show H' b = _; rw [← e]; exact q
    · rcases h b e with n | n
      · rw [q] at n; cases n
      · exact absurd n.2 hm
theorem ext_upd {Γ : G} {w : Vw} {a : Addr} {o : HO} (h : NoM w a) : Ext Γ w { w with H := upd w.H a o } := ext_H fun b ne => by
  by_cases e : b = a
  · subst e; exact h
  · exact absurd (upd_ne e).symm ne

theorem ObjR.mono0 {Γ : G} {w w' : Vw} {a : Addr} {o : MO} (e : Ext0 Γ w w') (q : w'.H a = w.H a) (h : ObjR Γ w a o) : ObjR Γ w' a o := by
  cases o with
  | lst ds => obtain ⟨xs, h1, h2⟩ := h; exact ⟨xs, q.trans h1, h2.mono0 e⟩
  | dk kvs => obtain ⟨xs, h1, h2⟩ := h; exact ⟨xs, q.trans h1, h2.mono0 e⟩
  | ins c fs => obtain ⟨dx, xs, h1, h2⟩ := h; exact ⟨dx, xs, q.trans h1, h2.mono0 e⟩
theorem ObjR.mono {Γ : G} {w w' : Vw} {a : Addr} {o : MO} (e : Ext Γ w w') (q : w'.H a = w.H a) (h : ObjR Γ w a o) : ObjR Γ w' a o := h.mono0 e.e0 q
theorem ObjR.some {Γ : G} {w : Vw} {a : Addr} {o : MO} (h : ObjR Γ w a o) : ∃ u, w.H a = some u ∧ NoT (some u) := by
  cases o with
  | lst ds => obtain ⟨xs, h1, h2⟩ := h; exact ⟨_, h1, .lst⟩
  | dk kvs => obtain ⟨xs, h1, h2⟩ := h; exact ⟨_, h1, .dK⟩
  | ins c fs => obtain ⟨dx, xs, h1, h2⟩ := h; exact ⟨_, h1, .ins⟩
theorem Sim.noM {Γ : G} {w : Vw} {h : MH} {n : Nat} {o : MO} (s : Sim Γ w h) (hn : h.get n = some o) : NoM w (w.ρ n) := by
  obtain ⟨u, hu, nt⟩ := (s.obj n o hn).2.some
  exact .inr ⟨by rw [hu]; exact nt, s.np n o hn⟩

/-- the view with one object more, at p -/
def Vw.new (w : Vw) (p : Addr) (H' : Hp) : Vw := ⟨fun m => if m = w.k then p else w.ρ m, w.k + 1, H', w.M⟩
theorem ext_new {Γ : G} {w : Vw} {p : Addr} {H' : Hp} (h : ∀ b, w.H b ≠ H' b → NoM w b) : Ext Γ w (w.new p H') := by
  have e := ext_H (Γ := Γ) h
  exact ⟨Nat.le_succ _, fun n hn => if_neg (Nat.ne_of_lt hn), e.t, e.z, e.x, e.q⟩
theorem Vw.new_k {w : Vw} {p : Addr} {H' : Hp} : (w.new p H').ρ w.k = p := if_pos rfl
theorem Rep.new {Γ : G} {w : Vw} {p : Addr} {H' : Hp} : Rep Γ (w.new p H') (.ref w.k) (.ref p) := ⟨Nat.lt_succ_self _, by rw [Vw.new_k]⟩

theorem Sim.new {Γ : G} {w : Vw} {h : MH} {p : Addr} {H' : Hp} {o : MO} (s : Sim Γ w h) (hp : w.H p = none) (hH : ∀ b, w.H b ≠ none → H' b = w.H b) (ho : ObjR Γ (w.new p H') p o) : Sim Γ (w.new p H') (h.push o) := by
  have ext : Ext Γ w (w.new p H') := ext_new fun b ne => by
    cases q : w.H b with
    | none => exact .inl q
    | some u => exact absurd (hH b (by rw [q]; exact (fun z => by cases z))).symm ne
  have old : ∀ n u, h.get n = some u → w.ρ n ≠ p ∧ ObjR Γ (w.new p H') (w.ρ n) u := fun n u e => by
    obtain ⟨h1, h2⟩ := s.obj n u e
    obtain ⟨x, h3, _⟩ := h2.some
    refine ⟨(fun z => by rw [z, hp] at h3; cases h3), h2.mono ext (hH _ (by rw [h3]; exact (fun z => by cases z)))⟩
  have nk : ∀ n u, h.get n = some u → n ≠ w.k := fun n u e => Nat.ne_of_lt (s.obj n u e).1
  refine ⟨by show h.next + 1 = w.k + 1; rw [s.k], fun a ha => ?_, fun n u e => ?_, fun n u e => ?_, fun n m u u' e e' q => ?_⟩
  · refine s.fr a ?_
    cases q : w.H a with
    | none => rfl
    | some u =>
      have := hH a (by rw [q]; exact (fun z => by cases z))
      have ha : H' a = none := ha
      rw [ha, q] at this; cases this
  · rw [MH.get_push, s.k] at e
    by_cases hn : n = w.k
    · subst hn
      rw [Vw.new_k]
      exact s.fr p hp
    · rw [if_neg hn] at e
      rw [ext.ρ n (s.obj n u e).1]
      exact s.np n u e
  · rw [MH.get_push, s.k] at e
    by_cases hn : n = w.k
    · subst hn
      rw [if_pos rfl] at e; cases e
      exact ⟨Nat.lt_succ_self _, by rw [Vw.new_k]; exact ho⟩
    · rw [if_neg hn] at e
      refine ⟨Nat.lt_succ_of_lt (s.obj n u e).1, ?_⟩
      rw [ext.ρ n (s.obj n u e).1]
      exact (old n u e).2
  · rw [MH.get_push, s.k] at e e'
    by_cases hn : n = w.k
    · by_cases hm : m = w.k
      · rw [hn, hm]
      · rw [if_neg hm] at e'
        subst hn
        rw [Vw.new_k, ext.ρ m (s.obj m u' e').1] at q
        exact absurd q.symm (old m u' e').1
    · rw [if_neg hn] at e
      by_cases hm : m = w.k
      · subst hm
        rw [Vw.new_k, ext.ρ n (s.obj n u e).1] at q
        exact absurd q (old n u e).1
      · rw [if_neg hm] at e'
        rw [ext.ρ n (s.obj n u e).1, ext.ρ m (s.obj m u' e').1] at q
        exact s.inj n m u u' e e' q
/-- one object new, by one store of the abstract heap -/
theorem Sim.new1 {Γ : G} {w : Vw} {h : MH} {p : Addr} {x : HO} {o : MO} (s : Sim Γ w h) (hp : w.H p = none) (ho : ObjR Γ (w.new p (upd w.H p x)) p o) :
    Sim Γ (w.new p (upd w.H p x)) (h.push o) ∧ Ext Γ w (w.new p (upd w.H p x)) := by
  have hH : ∀ b, w.H b ≠ none → upd w.H p x b = w.H b := fun b nb => upd_ne fun e => nb (e ▸ hp)
  refine ⟨s.new hp hH ho, ext_new fun b ne => ?_⟩
  by_cases q : w.H b = none
  · exact .inl q
  · exact absurd (hH b q).symm ne
/-- a temporary of the abstract heap that the small heap does not see -/
theorem Sim.more {Γ : G} {w : Vw} {h : MH} {H' : Hp} (s : Sim Γ w h) (hH : ∀ b, w.H b ≠ none → H' b = w.H b) : Sim Γ { w with H := H' } h ∧ Ext Γ w { w with H := H' } := by
  have ext : Ext Γ w { w with H := H' } := ext_H fun b ne => by
    cases q : w.H b with
    | none => exact .inl q
    | some u => exact absurd (hH b (by rw [q]; exact (fun z => by cases z))).symm ne
  refine ⟨⟨s.k, fun a ha => ?_, s.np, fun n u e => ?_, s.inj⟩, ext⟩
  · refine s.fr a ?_
    cases q : w.H a with
    | none => rfl
    | some u =>
      have := hH a (by rw [q]; exact (fun z => by cases z))
      have ha : H' a = none := ha
      rw [ha, q] at this; cases this
  · obtain ⟨h1, h2⟩ := s.obj n u e
    obtain ⟨x, h3, _⟩ := h2.some
    exact ⟨h1, h2.mono ext (hH _ (by rw [h3]; exact (fun z => by cases z)))⟩
/-- a new tuple -/
theorem Sim.tup {Γ : G} {w : Vw} {h : MH} {p : Addr} {xs : List V} {ds : List D} (s : Sim Γ w h) (hp : w.H p = none) (r : Reps Γ w ds xs) :
    Sim Γ { w with H := upd w.H p (.tup xs) } h ∧ Ext Γ w { w with H := upd w.H p (.tup xs) } ∧ Rep Γ { w with H := upd w.H p (.tup xs) } (.tup ds) (.ref p) := by
  obtain ⟨a, b⟩ := s.more (H' := upd w.H p (.tup xs)) fun c nc => upd_ne fun e => nc (e ▸ hp)
  exact ⟨a, b, p, xs, rfl, .of upd_same, r.mono b⟩
/-- an object is changed -/
theorem Sim.set {Γ : G} {w : Vw} {h : MH} {n : Nat} {x : HO} {o o' : MO} (s : Sim Γ w h) (hn : h.get n = some o) (ho : ObjR Γ { w with H := upd w.H (w.ρ n) x } (w.ρ n) o') :
    Sim Γ { w with H := upd w.H (w.ρ n) x } (h.set n o') ∧ Ext Γ w { w with H := upd w.H (w.ρ n) x } := by
  obtain ⟨hk, hr⟩ := s.obj n o hn
  have ext : Ext Γ w { w with H := upd w.H (w.ρ n) x } := ext_upd (s.noM hn)
  have old : ∀ m u, (h.set n o').get m = some u → ∃ u', h.get m = some u' := fun m u e => by
    rw [MH.get_set] at e
    by_cases q : m = n
    · subst q; exact ⟨o, hn⟩
    · rw [if_neg q] at e; exact ⟨u, e⟩
  refine ⟨⟨s.k, fun a ha => ?_, fun m u e => ?_, fun m u e => ?_, fun m m' u u' e e' q => ?_⟩, ext⟩
  · have ha : upd w.H (w.ρ n) x a = none := ha
    by_cases q : a = w.ρ n
    · subst q; rw [upd_same] at ha; cases ha
    · rw [upd_ne q] at ha; exact s.fr a ha
  · obtain ⟨v, hv⟩ := old m u e
    exact s.np m v hv
  · rw [MH.get_set] at e
    by_cases q : m = n
    · subst q
      rw [if_pos rfl, hn] at e; cases e
      exact ⟨hk, ho⟩
    · rw [if_neg q] at e
      obtain ⟨h1, h2⟩ := s.obj m u e
      refine ⟨h1, h2.mono ext (upd_ne fun z => q (s.inj m n u o e hn z))⟩
  · obtain ⟨v, hv⟩ := old m u e
    obtain ⟨v', hv'⟩ := old m' u' e'
    exact s.inj m m' v v' hv hv' q
/-- an object new with a mark: the small heap does not see it -/
def Vw.lay (w : Vw) (p : Addr) (m : Nat) (x : HO) : Vw := { w with H := upd w.H p x, M := fun a => if a = p then m else w.M a }
theorem Vw.lay_M {w : Vw} {p : Addr} {m : Nat} {x : HO} : (w.lay p m x).M p = m := if_pos rfl
theorem Vw.lay_H {w : Vw} {p : Addr} {m : Nat} {x : HO} : (w.lay p m x).H p = some x := upd_same
theorem Vw.lay_ne {w : Vw} {p b : Addr} {m : Nat} {x : HO} (h : b ≠ p) : (w.lay p m x).H b = w.H b ∧ (w.lay p m x).M b = w.M b := ⟨upd_ne h, if_neg h⟩
/-- p is changed, which was not known ahead -/
theorem Ext.relay {Γ : G} {w0 w : Vw} {p : Addr} {m : Nat} {x : HO} (e : Ext Γ w0 w) (hp : w0.H p = none) (nt : NoT (w.H p)) : Ext Γ w0 (w.lay p m x) := by
  have ne : ∀ {b : Addr} {o : HO}, w0.H b = some o → b ≠ p := fun {b o} q z => by rw [z, hp] at q; cases q
  refine ⟨e.k, e.ρ, fun b xs q => ?_, fun b xs q => ?_, fun b C fs q => ?_, fun b o hm q => ?_⟩
  · rcases e.t b xs q with (q | ⟨u, q⟩) | q
    · by_cases hb : b = p
      · subst hb; exact absurd q (nt.1 _)
      · exact .inl (.inl ((Vw.lay_ne hb).1.trans q))
    · by_cases hb : b = p
      · subst hb; exact absurd q (nt.2.1 _ _)
      · exact .inl (.inr ⟨u, (Vw.lay_ne hb).1.trans q⟩)
    · exact .inr q
  · rcases e.z b xs q with ⟨u, q⟩ | q
    · by_cases hb : b = p
      · subst hb; exact absurd q (nt.2.1 _ _)
      · exact .inl ⟨u, (Vw.lay_ne hb).1.trans q⟩
    · exact .inr q
  · have same : ∀ {b : Addr} {φ : Heap → Prop}, w.H b = some (.ext φ) → (w.lay p m x).H b = some (.ext φ) := fun {b φ} q => by
      by_cases hb : b = p
      · subst hb; exact absurd q (nt.2.2 _)
      · exact (Vw.lay_ne hb).1.trans q
    rcases e.x b C fs q with ⟨q1, q⟩ | ⟨dx, q, q2⟩
    · exact .inl ⟨q1, same q⟩
    · exact .inr ⟨dx, same q, same q2⟩
  · obtain ⟨h1, h2⟩ := e.q b o hm q
    obtain ⟨h3, h4⟩ := Vw.lay_ne (w := w) (m := m) (x := x) (ne q)
    exact ⟨h4.trans h1, h3.trans h2⟩
/-- what was under way at p goes on -/
theorem ext0_lay {Γ : G} {w : Vw} {p : Addr} {m : Nat} {x : HO} (nt : NoT (w.H p)) (hm : w.M p ≠ 1) : Ext0 Γ w (w.lay p m x) := by
  refine ⟨Nat.le_refl _, fun _ _ => rfl, fun b xs q => ?_, fun b xs q => ?_, fun b C fs q => ?_, fun b o h1 q => ?_⟩
  · rcases q with (q | ⟨u, q⟩) | q
    · by_cases hb : b = p
      · subst hb; exact absurd q (nt.1 _)
      · exact .inl (.inl ((Vw.lay_ne hb).1.trans q))
    · by_cases hb : b = p
      · subst hb; exact absurd q (nt.2.1 _ _)
      · exact .inl (.inr ⟨u, (Vw.lay_ne hb).1.trans q⟩)
    · exact .inr q
  · rcases q with ⟨u, q⟩ | q
    · by_cases hb : b = p
      · subst hb; exact absurd q (nt.2.1 _ _)
      · exact .inl ⟨u, (Vw.lay_ne hb).1.trans q⟩
    · exact .inr q
  · have same : ∀ {b : Addr} {φ : Heap → Prop}, w.H b = some (.ext φ) → (w.lay p m x).H b = some (.ext φ) := fun {b φ} q => by
      by_cases hb : b = p
      · subst hb; exact absurd q (nt.2.2 _)
      · exact (Vw.lay_ne hb).1.trans q
    rcases q with ⟨q1, q⟩ | ⟨dx, q, q2⟩
    · exact .inl ⟨q1, same q⟩
    · exact .inr ⟨dx, same q, same q2⟩
  · have hb : b ≠ p := fun z => hm (z ▸ h1)
    exact ⟨(Vw.lay_ne hb).2.trans h1, (Vw.lay_ne hb).1.trans q⟩
/-- laid where nothing stood, or where something is under way -/
theorem Sim.lay {Γ : G} {w : Vw} {h : MH} {p : Addr} {m : Nat} {x : HO} (s : Sim Γ w h) (hp : w.H p = none ∨ (NoT (w.H p) ∧ w.M p = 2)) : Sim Γ (w.lay p m x) h := by
  have m1 : w.M p ≠ 1 := by
    rcases hp with hp | hp
    · rw [s.fr p hp]; decide
    · rw [hp.2]; decide
  have nt : NoT (w.H p) := by
    rcases hp with hp | hp
    · rw [hp]; exact .none
    · exact hp.1
  have ne : ∀ n o, h.get n = some o → w.ρ n ≠ p := fun n o e z => by
    rcases hp with hp | hp
    · obtain ⟨u, hu, _⟩ := (s.obj n o e).2.some
      rw [z, hp] at hu; cases hu
    · have := s.np n o e
      rw [z, hp.2] at this; cases this
  have e0 := ext0_lay (Γ := Γ) (m := m) (x := x) nt m1
  refine ⟨s.k, fun a ha => ?_, fun n o e => ?_, fun n o e => ?_, s.inj⟩
  · by_cases hb : a = p
    · subst hb; rw [Vw.lay_H] at ha; cases ha
    · rw [(Vw.lay_ne hb).2]
      rw [(Vw.lay_ne hb).1] at ha
      exact s.fr a ha
  · exact (Vw.lay_ne (ne n o e)).2.trans (s.np n o e)
  · exact ⟨(s.obj n o e).1, (s.obj n o e).2.mono0 e0 (Vw.lay_ne (ne n o e)).1⟩
/-- a new list that nobody will write -/
theorem Sim.flst {Γ : G} {w : Vw} {h : MH} {p : Addr} {xs : List V} {ds : List D} (s : Sim Γ w h) (hp : w.H p = none) (r : Reps Γ w ds xs) :
    Sim Γ (w.lay p 1 (.lst xs)) h ∧ Ext Γ w (w.lay p 1 (.lst xs)) ∧ Rep Γ (w.lay p 1 (.lst xs)) (.flst ds) (.ref p) := by
  have e : Ext Γ w (w.lay p 1 (.lst xs)) := (Ext.refl w).relay hp (by rw [hp]; exact .none)
  exact ⟨s.lay (.inl hp), e, p, xs, rfl, Vw.lay_M, Vw.lay_H, r.mono e⟩

/-- what an error of the text is behind a raise -/
def ExcR (Γ : G) (w : Vw) (c : Nat) (fs : List (Str × D)) (cls : Value) (d : Option Addr) : Prop :=
  cls = .ref (Γ.ca c) ∧ ((fs = [] ∧ d = none) ∨ ∃ a xs, d = some a ∧ w.H a = some (.xd xs) ∧ RepP Γ w fs xs)

/-- what is wanted behind a computation -/
def Aft {α : Type} (Γ : G) (w : Vw) (r : Res α) (Q : α → Vw → MH → Prop) (W : Nat → List (Str × D) → Vw → MH → Prop) : Prop :=
  match r with
  | .ok a h => ∀ w', Ext Γ w w' → Sim Γ w' h → Q a w' h
  | .exc c fs h => ∀ w', Ext Γ w w' → Sim Γ w' h → W c fs w' h
  | .bad => False
theorem Aft.bind {α β : Type} {Γ : G} {w : Vw} {r : Res α} {f : α → MH → Res β} {Q : β → Vw → MH → Prop} {W : Nat → List (Str × D) → Vw → MH → Prop} (h : Aft Γ w (r.bind f) Q W) :
    Aft Γ w r (fun a w1 h1 => Aft Γ w1 (f a h1) Q W) W := by
  cases r with
  | ok a h1 =>
    intro w1 e1 s1
    show Aft Γ w1 (f a h1) Q W
    have h : Aft Γ w (f a h1) Q W := h
    cases q : f a h1 with
    | ok b h2 => rw [q] at h; intro w2 e2 s2; exact h w2 (e1.trans e2) s2
    | exc c fs h2 => rw [q] at h; intro w2 e2 s2; exact h w2 (e1.trans e2) s2
    | bad => rw [q] at h; exact h.elim
  | exc c fs h1 => exact h
  | bad => exact h.elim
theorem Aft.imp {α : Type} {Γ : G} {w : Vw} {r : Res α} {Q Q' : α → Vw → MH → Prop} {W W' : Nat → List (Str × D) → Vw → MH → Prop} (h : Aft Γ w r Q W)
    (hq : ∀ a w' h', Ext Γ w w' → Sim Γ w' h' → Q a w' h' → Q' a w' h') (hw : ∀ c fs w' h', Ext Γ w w' → Sim Γ w' h' → W c fs w' h' → W' c fs w' h') : Aft Γ w r Q' W' := by
  cases r with
  | ok a h1 => exact fun w' e s => hq _ _ _ e s (h w' e s)
  | exc c fs h1 => exact fun w' e s => hw _ _ _ _ e s (h w' e s)
  | bad => exact h.elim

/-- the slots of a def -/
abbrev MSt := List (Option D)
structure Slt (Γ : G) (w : Vw) (ms : MSt) (σ : St) : Prop where
  len : σ.length = ms.length
  at_ : ∀ (i : Nat) d, ms[i]? = some (some d) → ∃ v, σ[i]? = some (some v) ∧ Rep Γ w d v
theorem Slt.mono {Γ : G} {w w' : Vw} {ms : MSt} {σ : St} (e : Ext Γ w w') (s : Slt Γ w ms σ) : Slt Γ w' ms σ :=
  ⟨s.len, fun i d h => let ⟨v, h1, h2⟩ := s.at_ i d h; ⟨v, h1, h2.mono e⟩⟩
theorem Slt.set {Γ : G} {w : Vw} {ms : MSt} {σ : St} {d : D} {v : V} (s : Slt Γ w ms σ) (i : Nat) (r : Rep Γ w d v) : Slt Γ w (ms.set i (some d)) (σ.set i (some v)) := by
  refine ⟨by simpa using s.len, fun j e h => ?_⟩
  by_cases q : i = j
  · subst q
    by_cases hl : i < ms.length
    · rw [List.getElem?_set_self hl] at h
      cases h
      exact ⟨v, by rw [List.getElem?_set_self (by rw [s.len]; exact hl)], r⟩
    · rw [List.getElem?_eq_none (by simpa using hl)] at h; cases h
  · rw [List.getElem?_set_ne q] at h ⊢
    exact s.at_ j e h
end R
namespace PySem
namespace RX
open PySem.W PySem.Calls PyProof.Rows PySem.HandSPX
section
variable {M : Model} {A : Around} {E : Value → Shared → Prop} {hh : Heap} {gg : Array GenState} {dr : Drawn} {tt : Nat} {oo : OsState}
variable {nm qn : Str} {C N : Addr} {bs bm bmB : List Value} {hdct : Bool} {sn : List Str} {sub : List Value} {ab : Bool} {col : Option Bool} {dd : Option Addr} {k0 k1 k2 k3 k5 : Option Value} {B newId initId : String}
theorem xnew_check (F : ExcBaseFacts B newId initId bmB) (inB : (Value.ref C :: bm).contains (.type B) = true) {more : List Value} {Q : Unit → Shared → Prop}
    (kC : hh.get? C = some (excClassObj nm qn C N bs bm hdct sn sub ab col dd k0 k1 k2 k3 k5 newId)) (want : Q () ⟨hh, gg, dr, tt, oo⟩) : wpAny M A (checkBuiltinCall newId ⟨.ref C :: more, []⟩) Q E ⟨hh, gg, dr, tt, oo⟩ := by
  have star' := F.noStar
  simp only [checkBuiltinCall, F.newKind, F.newSplit, F.newRow]
  repeat (first | refine wpAny_loadPart_at kC ?_ | (refine wpAny_isSubtype_exc kC ?_; rw [inB]) | refine wpAny_staticBase_exc kC ?_ | refine wpAny_madeBy_exc kC ?_ | simp only [bne_self_eq_false, Bool.false_eq_true, if_false] | wp_step)
  exact want
end
section
variable {prog : Program} {w : World} {A : Around} {E : Value → Shared → Prop} {R : Result → Shared → Prop} {hh : Heap} {gg : Array GenState} {dr : Drawn} {tt : Nat} {oo : OsState}
variable {nm qn : Str} {C N : Addr} {bs bm bmB : List Value} {hdct : Bool} {sn : List Str} {sub : List Value} {ab : Bool} {col : Option Bool} {dd : Option Addr} {k0 k1 k2 k3 k5 : Option Value} {B newId initId : String}
theorem xnew (F : ExcBaseFacts B newId initId bmB) (inB : (Value.ref C :: bm).contains (.type B) = true) (inA : (Value.ref C :: bm).contains (.type "AttributeError") = false) (inN : (Value.ref C :: bm).contains (.type "NameError") = false) {more : List Value}
    (kC : hh.get? C = some (excClassObj nm qn C N bs bm hdct sn sub ab col dd k0 k1 k2 k3 k5 newId))
    (want : R (.ok (.ret (.ref (hh.objs.size + 1)))) ⟨(hh.push (W.kdv_tup more)).push (excO C hh.objs.size), gg, dr, tt, oo⟩) (few : more.length ≤ sizeLine) :
    codeAny (model prog w) A (.builtin newId ⟨.ref C :: more, []⟩) R ⟨hh, gg, dr, tt, oo⟩ := by
  have ends' := F.ends
  refine codeAny_builtinAt F.entry ?_
  unfold Builtin.«BaseException.__new__»
  refine wpAt_bind ?_
  show wpAt _ _ _ (stack >>= _) _ _ _
  refine wpAt_bind (wpAt_stack fun pp under => wpAt_of_wpAny ?_)
  wp_walk
  refine wpAt_of_wpAny ?_
  rw [F.owner]
  repeat (first | with_reducible refine wpAny_madeHere_exc F.canon kC ?_ | with_reducible refine wpAny_loadPart_at kC ?_ | (with_reducible refine wpAny_isSubtype_exc kC ?_; first | rw [inB] | rw [inA] | rw [inN]) | wp_step)
  show R _ _
  rw [Heap.size_push]
  exact want
theorem xtype_call (F : ExcBaseFacts B newId initId bmB) (inB : (Value.ref C :: bm).contains (.type B) = true) (inA : (Value.ref C :: bm).contains (.type "AttributeError") = false) (inN : (Value.ref C :: bm).contains (.type "NameError") = false) {more : List Value} {fI : Addr} {Q : Fin → Shared → Prop}
    (kC : hh.get? C = some (excClassObj nm qn C N bs bm hdct sn sub ab col dd k0 k1 k2 k3 k5 newId))
    (li : W.Looks (model prog w) hh (typeLookup (.ref C) "__init__") (some (.ref fI))) (lb : ∀ self, W.Looks (model prog w) hh (bindSpecial (.ref fI) self) (.ref fI, [self])) (few : more.length ≤ sizeLine)
    (want : codeAny (model prog w) A (.call (.ref fI) ⟨.ref (hh.objs.size + 1) :: more, []⟩)
      (fun r s' => match r with | .ok (.ret v) => v = .none ∧ Q (.done (.ret (.ref (hh.objs.size + 1)))) s' | .ok _ => False | .error e => E e s')
      ⟨(hh.push (W.kdv_tup more)).push (excO C hh.objs.size), gg, dr, tt, oo⟩) :
    wpAny (model prog w) A (Builtin.«type.__call__» ⟨.ref C :: more, []⟩) Q E ⟨hh, gg, dr, tt, oo⟩ := by
  repeat (first | with_reducible refine wpAny_loadPart_at kC ?_ | with_reducible refine wpAny_madeBy_exc kC ?_ | wp_step)
  refine codeAny_call_builtin_code (Code.quiet_builtin _ F.quiet) (xnew_check F inB kC ?_)
  refine xnew F inB inA inN kC ?_ few
  show wpAny _ _ _ _ _ _
  have kp : ∀ b o, hh.get? b = some o → ((hh.push (W.kdv_tup more)).push (excO C hh.objs.size)).get? b = some o := fun b o e => Heap.get?_push_of_some _ (Heap.get?_push_of_some _ e)
  have kC₁ := kp _ _ kC
  have got : ((hh.push (W.kdv_tup more)).push (excO C hh.objs.size)).get? (hh.objs.size + 1) = some (excO C hh.objs.size) := by heap_get
  have inC : (Value.ref C :: bm).contains (.ref C) = true := by simp
  have li1 := li.keeps kp
  have lb1 := (lb (.ref (hh.objs.size + 1))).keeps kp
  unfold isInstance
  repeat (first | with_reducible refine wpAny_loadPart_at got ?_ | (with_reducible refine wpAny_isSubtype_exc kC₁ ?_; rw [inC]) | wp_step)
  show wpAny _ _ (typeLookup (.ref C) _) _ _ _
  refine li1.at ?_
  refine wpAny_holding (wpAny_bind (lb1.at ?_))
  refine wpAny_bind (wpAny_call (codeAny_mono want fun r s' z => ?_))
  rcases r with e | (v | _ | _ | _) <;> first | exact z | exact z.elim | skip
  obtain ⟨rfl, z⟩ := z
  first
    | exact wpAny_pure (wpAny_pure z)
    | (wp_walk; exact z)
theorem xcall (F : ExcBaseFacts B newId initId bmB) (inB : (Value.ref C :: bm).contains (.type B) = true) (inA : (Value.ref C :: bm).contains (.type "AttributeError") = false) (inN : (Value.ref C :: bm).contains (.type "NameError") = false) {more : List Value} {fI : Addr}
    (kC : hh.get? C = some (excClassObj nm qn C N bs bm hdct sn sub ab col dd k0 k1 k2 k3 k5 newId))
    (li : W.Looks (model prog w) hh (typeLookup (.ref C) "__init__") (some (.ref fI))) (lb : ∀ self, W.Looks (model prog w) hh (bindSpecial (.ref fI) self) (.ref fI, [self])) (few : more.length ≤ sizeLine)
    (want : codeAny (model prog w) (A.under (.builtin "type.__call__" ⟨.ref C :: more, []⟩)) (.call (.ref fI) ⟨.ref (hh.objs.size + 1) :: more, []⟩) (W.InitBack (hh.objs.size + 1) R)
      ⟨(hh.push (W.kdv_tup more)).push (excO C hh.objs.size), gg, dr, tt, oo⟩) :
    codeAny (model prog w) A (.call (.ref C) ⟨more, []⟩) R ⟨hh, gg, dr, tt, oo⟩ := by
  have t1 := tc_lookup
  have t2 := tc_bind (.ref C)
  have ty : (⟨hh, gg, dr, tt, oo⟩ : Shared).TypeIs (.ref C) "type" := ⟨_, kC, rfl⟩
  refine codeAny_of_tree ?_
  show wpAny _ _ (callAny (.ref C) _) _ _ _
  repeat (any_goals (first | assumption | with_reducible refine wpAny_loadPart_at kC ?_ | wp_step))
  refine ⟨rfl, ?_⟩
  refine codeAny_call_builtin_at (Code.quiet_builtin _ (by decide +kernel)) entry_typeCall (wpAny_check_type_call_sub kC (xtype_call F inB inA inN kC li lb few ?_))
  refine codeAny_mono want fun r s' z => ?_
  rcases r with e | (v | _ | _ | _) <;> exact z
end
end RX
end PySem
namespace PySem
namespace RX
open Builtin Builtin.ObjectAttr PySem.HandSPX
section
variable {prog : Program} {w : World} {A : Around} {E : Value → Shared → Prop} {R : Result → Shared → Prop} {hp : Heap} {g : Array GenState} {d : Drawn} {t : Nat} {os : OsState}
theorem xfield {K : W.Frag} {f : Str} {tk : Tok} {v : Value} {x C : Addr} {fv : Array Value} {cd : ClassData}
    (KX : K.In hp) (at_ : hp.get? x = some { cls := .ref C, data := .fields fv }) (kcd : W.clsIn K C = some cd) (some' : cd.mro.isEmpty = false) (ob : cd.mro.contains (.type "object") = true) (pass : refuseLoop (.ref x) "__setattr__" cd.mro = pure ()) (hasD : cd.hasDict = true) (no : W.findIn K (.ref C) f = some none)
    (want : ∀ h' tk' dx, (∀ b o, b ≠ x → hp.get? b = some o → h'.get? b = some o) → hp.objs.size ≤ dx → dx ≠ x → h'.get? x = some { cls := .ref C, dict := some dx, data := .fields fv } →
      h'.Ns1 dx (fun y => if y = f then some v else none) → R (.ok (.ret .none)) ⟨h', g, d, tk', os⟩) :
    codeAny (model prog w) A (.call (.builtin "object.__setattr__") ⟨[.ref x, .str f tk, v], []⟩) R ⟨hp, g, d, t, os⟩ := by
  have J : W.InstAt hp x { cls := .ref C, data := .fields fv } C none := ⟨at_, rfl, rfl, trivial⟩
  have SF := F.store_object
  have apart : x ≠ hp.objs.size := Nat.ne_of_lt (Heap.lt_size at_)
  have isO : W.Looks (model prog w) hp (isInstance (.ref x) (.type "object")) true := J.type.andThen (W.looks_mroIn KX (by unfold W.mroIn; rw [kcd, Option.bind_some, if_neg (by rw [some']; decide), ob]))
  refine codeAny_call_builtin SF.slot.plain SF.entry (@W.check_slot (model prog w) _ _ ⟨hp, g, d, t, os⟩ "object.__setattr__" "object" "__setattr__" (.ref x) [.str f tk, v] [] _ SF.kind SF.split isO (SF.args (.ref x) (.str f tk) v) ?_)
  have lm : W.Looks (model prog w) hp (mroOf (.ref C)) cd.mro := (W.looks_clsIn KX kcd).andThen .now
  have lt : W.Looks (model prog w) hp (storeTaker? none) none := .now
  have lc : W.Looks (model prog w) hp (classData C) cd := W.looks_clsIn KX kcd
  rw [W.osa_eq, refuse_eq]
  refine wpAny_bind (wpAny_bind (J.type.at (wpAny_bind (lm.at ?_))))
  rw [pass]
  refine wpAny_pure (wpAny_bind (J.type.at (wpAny_bind ((W.looks_findIn KX no).at (wpAny_bind (lt.at ?_))))))
  show wpAny _ _ (storeInOwnDict (.ref x) (.ref C) (.str f tk) f v false) _ _ _
  obtain ⟨nm, bs, mro, ns, qn, hd, sn, sb, ab, col, del⟩ := cd
  dsimp only at hasD
  subst hasD
  unfold storeInOwnDict ownDictForStores
  repeat (first | with_reducible refine store_in_new ?_ ?_ | with_reducible refine wpAny_loadPart_at at_ ?_ | with_reducible refine lc.at ?_ | wp_step)
  · exact ⟨_, #[], _, (Heap.get?_update_ne _ _ _ _ apart.symm).trans (Heap.get?_push_at rfl rfl), rfl, fun e he => absurd he (by simp), fun _ => rfl⟩
  · intro h' tk' hn' hs
    have at₁ : (hp.push { cls := .type "dict", data := .dict #[] }).get? x = some { cls := .ref C, data := .fields fv } := Heap.get?_push_of_some _ at_
    refine want h' tk' hp.objs.size (fun b o hb ho => ?_) (Nat.le_refl _) apart.symm ?_ hn'
    · exact (hs.2 b (Nat.ne_of_lt (Heap.lt_size ho))).trans ((Heap.get?_update_ne _ _ _ _ hb).trans (Heap.get?_push_of_some _ ho))
    · exact (hs.2 x apart).trans (Heap.get?_update_self _ at₁ rfl)
end
/-- a base of own errors: whose __new__ makes them, its name, the classes behind the own ones -/
structure XBase where
  B : String
  newId : String
  tail : List Value
  ini : String
  same : Bool
structure XBase.Ok (b : XBase) : Prop where
  fac : ∃ initId bmB, ExcBaseFacts b.B b.newId initId bmB
  inB : b.tail.contains (.type b.B) = true
  inA : b.tail.contains (.type "AttributeError") = false
  inN : b.tail.contains (.type "NameError") = false
  inE : b.tail.contains (.type "BaseException") = true
  ob : b.tail.contains (.type "object") = true
  pass : ∀ self, refuseLoop self "__setattr__" b.tail = pure ()
  fac0 : b.same = true → ExcBaseFacts b.B b.newId b.ini b.tail
def xbase : String → XBase
  | "KeyError" => ⟨"LookupError", "LookupError.__new__", [.type "KeyError", .type "LookupError", .type "Exception", .type "BaseException", .type "object"], "KeyError.__init__", false⟩
  | "IndexError" => ⟨"IndexError", "IndexError.__new__", [.type "IndexError", .type "LookupError", .type "Exception", .type "BaseException", .type "object"], "IndexError.__init__", true⟩
  | "LookupError" => ⟨"LookupError", "LookupError.__new__", [.type "LookupError", .type "Exception", .type "BaseException", .type "object"], "LookupError.__init__", true⟩
  | "OverflowError" => ⟨"OverflowError", "OverflowError.__new__", [.type "OverflowError", .type "ArithmeticError", .type "Exception", .type "BaseException", .type "object"], "OverflowError.__init__", true⟩
  | "RuntimeError" => ⟨"RuntimeError", "RuntimeError.__new__", [.type "RuntimeError", .type "Exception", .type "BaseException", .type "object"], "RuntimeError.__init__", true⟩
  | "TypeError" => ⟨"TypeError", "TypeError.__new__", [.type "TypeError", .type "Exception", .type "BaseException", .type "object"], "TypeError.__init__", true⟩
  | _ => ⟨"ValueError", "ValueError.__new__", [.type "ValueError", .type "Exception", .type "BaseException", .type "object"], "ValueError.__init__", true⟩
theorem xb_Value : (xbase "ValueError").Ok := ⟨⟨_, _, F.excBase_ValueError⟩, by decide +kernel, by decide +kernel, by decide +kernel, by decide +kernel, by decide +kernel, fun _ => by kernel_rfl, fun _ => F.excBase_ValueError⟩
theorem xb_Key : (xbase "KeyError").Ok := ⟨⟨_, _, F.excBase_LookupError⟩, by decide +kernel, by decide +kernel, by decide +kernel, by decide +kernel, by decide +kernel, fun _ => by kernel_rfl, fun h => by cases h⟩
theorem xb_Index : (xbase "IndexError").Ok := ⟨⟨_, _, F.excBase_IndexError⟩, by decide +kernel, by decide +kernel, by decide +kernel, by decide +kernel, by decide +kernel, fun _ => by kernel_rfl, fun _ => F.excBase_IndexError⟩
theorem xb_Lookup : (xbase "LookupError").Ok := ⟨⟨_, _, F.excBase_LookupError⟩, by decide +kernel, by decide +kernel, by decide +kernel, by decide +kernel, by decide +kernel, fun _ => by kernel_rfl, fun _ => F.excBase_LookupError⟩
theorem xb_Overflow : (xbase "OverflowError").Ok := ⟨⟨_, _, F.excBase_OverflowError⟩, by decide +kernel, by decide +kernel, by decide +kernel, by decide +kernel, by decide +kernel, fun _ => by kernel_rfl, fun _ => F.excBase_OverflowError⟩
theorem xb_Runtime : (xbase "RuntimeError").Ok := ⟨⟨_, _, F.excBase_RuntimeError⟩, by decide +kernel, by decide +kernel, by decide +kernel, by decide +kernel, by decide +kernel, fun _ => by kernel_rfl, fun _ => F.excBase_RuntimeError⟩
theorem xb_Type : (xbase "TypeError").Ok := ⟨⟨_, _, F.excBase_TypeError⟩, by decide +kernel, by decide +kernel, by decide +kernel, by decide +kernel, by decide +kernel, fun _ => by kernel_rfl, fun _ => F.excBase_TypeError⟩
theorem xbase_ok (s : String) : (xbase s).Ok := by
  unfold xbase
  split
  · exact xb_Key
  · exact xb_Index
  · exact xb_Lookup
  · exact xb_Overflow
  · exact xb_Runtime
  · exact xb_Type
  · exact xb_Value
end RX
end PySem
namespace R
open PySem PySem.Spec PyProof.Rows L2
/-- what the written part says of an own class of errors: it has a dict, its stores are plain -/
structure XSt (K : PySem.W.Frag) (C : Addr) : Prop where
  cls : ∃ cd, PySem.W.clsIn K C = some cd ∧ cd.mro.isEmpty = false ∧ cd.mro.contains (.type "object") = true ∧ (∀ self, PySem.refuseLoop self "__setattr__" cd.mro = pure ()) ∧ cd.hasDict = true
  sa : PySem.W.findIn K (.ref C) "__setattr__" = some (some (.builtin "object.__setattr__"))
section
variable {X : Cx} {pins : List (Addr × Obj)} {σ : L2.St} {H : Hp} {s : Shared} {a C dx : Addr} {f : Str} {y : V} {u : Value} {E : Value → Shared → Prop} {A : Around}
/-- self.f = y, the first field -/
theorem xst_new {Q : Unit → Shared → Prop} (T : XSt X.K C) (I : Inv X pins σ H s) (ea : H a = some (exo a C none)) (no : PySem.W.findIn X.K (.ref C) f = some none) (ry : RelV y u)
    (want : ∀ dx s', H dx = none → dx ≠ a → Inv X pins σ (upd (upd H dx (exd dx [(f, y)])) a (exo a C (some dx))) s' → Q () s') : wpAny (model X.prog X.w) A (setAttr (.ref a) f u) Q E s := by
  obtain ⟨cd, kcd, ne, ob, pass, hasD⟩ := T.cls
  obtain ⟨t1, at_⟩ := exo_at I.hok ea
  obtain ⟨hp, g, d, t, os⟩ := s
  refine PySem.W.set_plain I.kIn (ox := { cls := .ref C, dict := none, data := .fields #[.ref t1, .none, .none, .none, .bool false, .none] }) (od := none) ⟨at_, rfl, rfl, trivial⟩ T.sa ?_
  refine PySem.RX.xfield I.kIn at_ kcd ne ob (pass _) hasD no (fun h' tk' dx keep big apart hx ns => ?_)
  have free : H dx = none := I.hok.fresh big
  have below : ∀ {b : Addr} {o : Obj}, hp.get? b = some o → b ≠ dx := fun {b o} q => Nat.ne_of_lt (Nat.lt_of_lt_of_le (Heap.lt_size q) big)
  have notA : ∀ {b : Addr}, H b = none → b ≠ a := fun {b} q z => by rw [z, ea] at q; cases q
  have U : Un X.fs [] H (upd (upd H dx (exd dx [(f, y)])) a (exo a C (some dx))) hp h' := by
    refine ⟨fun b o q n _ _ => keep b o (notA n) q, fun b o q n _ _ => ⟨o.slots, keep b o (notA n) q⟩, fun b o q n _ => ?_, fun b o q _ => ?_, fun b xs q => ?_, fun b o v q => ?_, fun b ps q => ⟨#[], ?_⟩⟩
    · rw [upd_ne (notA n), upd_ne (below q)]; exact n
    · by_cases hb : b = a
      · subst hb; exact ⟨_, hx⟩
      · exact ⟨o, keep b o hb q⟩
    · rw [upd_ne (at_ne ea q exo_tup), upd_ne (ne_of_none q free)]; exact q
    · rw [upd_ne (at_ne ea q exo_frz), upd_ne (ne_of_none q free)]; exact q
    · rw [upd_ne (at_ne ea q exo_tbl), upd_ne (ne_of_none q free), q]; simp
  refine want dx _ free apart (I.un (t' := tk') U fun b o q => ?_)
  by_cases hb : b = a
  · subst hb
    rw [upd_same] at q; cases q
    exact exo_ok hx
  · rw [upd_ne hb] at q
    by_cases hd : b = dx
    · subst hd
      rw [upd_same] at q; cases q
      exact exd_ok ns (relO_put (fs := []) ry fun _ => True.intro)
    · rw [upd_ne hd] at q
      refine (I.hok b o q).stay (fun c v hc z => keep c v ?_ z) (fun c hc => ?_) (fun c xs hc => ?_)
      · rcases hc with hc | hc
        · rw [hc]; exact hb
        · exact at_ne ea hc exo_own
      · rw [upd_ne (at_ne ea hc exo_own), upd_ne (ne_of_none hc free)]; exact hc
      · rw [upd_ne (at_ne ea hc exo_tup), upd_ne (ne_of_none hc free)]; exact hc
end
/-- the promise of an error's __init__ that stores its one argument -/
def spX (C : Addr) (f : Str) : Sp := fun vs H Q _ => ∃ a v, vs = [.ref a, v] ∧ H a = some (exo a C none) ∧ ∀ dx, H dx = none → dx ≠ a → Q .non (upd (upd H dx (exd dx [(f, v)])) a (exo a C (some dx)))
/-- self.f = p -/
def tX1 (K : PySem.W.Frag) (f : Str) (to te : TE) : TS := fun D σ H => te σ H fun y H1 => to σ H1 fun x H2 => ∃ a C : Addr, x = .ref a ∧ XSt K C ∧ PySem.W.findIn K (.ref C) f = some none ∧ H2 a = some (exo a C none) ∧ ∀ dx, H2 dx = none → dx ≠ a → D.nx σ (upd (upd H2 dx (exd dx [(f, y)])) a (exo a C (some dx)))
theorem ps_x1 {X : Cx} {o e : Expr} {to te : TE} {f : Str} {p pos : Pos} (ho : PE X o to) (he : PE X e te) (hs : swapsWith e (some (.Attribute o f p)) pos.line X.env = pure false) : PS X (.Assign [.Attribute o f p] e pos) (tX1 X.K f to te) := by
  refine ⟨fun pins s σ H D I h => ?_⟩
  refine plainObj_wpAny_Assign_Attribute (thn (he.run pins s σ H _ I h) fun v s1 hv => ?_) hs
  obtain ⟨y, H1, I1, r1, q1⟩ := hv
  refine thn (ho.run pins s1 σ H1 _ I1 q1) fun u s2 hu => ?_
  obtain ⟨x, H2, I2, r2, a, C, ex, T, no, ea, q⟩ := hu
  subst ex
  obtain rfl : u = Value.ref a := r2
  exact xst_new T I2 ea no r1 fun dx s' n ne J => ⟨σ, _, J, q dx n ne⟩
/-- an __init__ of this form -/
def initForm (body : List Stmt) (f self p : Str) : Prop := ∃ p1 p2 p3 pos, body = [.Assign [.Attribute (.Name self p1) f p2] (.Name p p3) pos]
theorem ok_init {P : Program} {w : World} {K : PySem.W.Frag} {mg : Str → Option Value} {base : Heap} {C fI : Addr} {name qual : Str} {params : Arguments} {body : List Stmt} {scope : Scope} {dV kV doc pm cdv ct oc : Value} {an od : Option Addr} {osl : Array (Option Value)} {f self p : Str}
    (lk : K.lookup fI = some ⟨oc, od, .func (PySem.W.fnOf name qual params body scope dV kV doc pm an cdv ct), osl⟩) (hcd : PySem.W.codeIn K cdv qual = true) (S : FnScope [self, p] [self, p] scope) (form : initForm body f self p)
    (v1 : Vis scope self) (v2 : Vis scope p) (d1 : (self == ("__debug__" : Str)) = false ∧ (self == ("__classdict__" : Str)) = false) (d2 : (p == ("__debug__" : Str)) = false ∧ (p == ("__classdict__" : Str)) = false)
    (T : XSt K C) (no : PySem.W.findIn K (.ref C) f = some none) : FnOk P w K mg base (L2.CX P w) 1 fI (PySem.W.fnOf name qual params body scope dV kV doc pm an cdv ct) [self, p] (spX C f) := by
  obtain ⟨p1, p2, p3, pos, rfl⟩ := form
  refine fn_of lk hcd S (fun vs H Q E h => ?_) (fun A outer s H vs Q E room h => ?_)
  · obtain ⟨a, v, rfl, _⟩ := h; rfl
  · obtain ⟨a, v, rfl, ea, q⟩ := h
    refine ⟨_, pss_one (ps_x1 (pe_var (i := 0) rfl v1 d1.1 d1.2) (pe_var (i := 1) rfl v2 d2.1 d2.2) rfl), ?_⟩
    exact ⟨v, rfl, .ref a, rfl, a, C, rfl, T, no, ea, q⟩
/-- what is asked to make C(v): the class object, its __init__ -/
structure XMk (X : Cx) (C : Addr) (f : Str) : Prop where
  cls : ∃ b : PySem.RX.XBase, b.Ok ∧ PySem.W.excInitIn X.K C b.tail b.newId = true
  ini : ∃ (fI : Addr) (fd : FuncData) (ps : List Str), PySem.W.findIn X.K (.ref C) "__init__" = some (some (.ref fI)) ∧ PySem.W.typeIn X.K (.ref fI) = some (.type "function") ∧ FnOk X.prog X.w X.K X.mg X.base (L2.CX X.prog X.w) 1 fI fd ps (spX C f) ∧ Binds X.K fd ps []
theorem xmake {X : Cx} {pins : List (Addr × Obj)} {σ : L2.St} {H : Hp} {s : Shared} {Q : VK} {C : Addr} {f : Str} {v : V} {u : Value} {W : WX} (M : XMk X C f) (room : Room 2 X.A) (tk : Takes X W) (I : Inv X pins σ H s) (rv : RelV v u)
    (want : ∀ a dx, H a = none → H dx = none → dx ≠ a → Q (.ref a) (upd (upd H dx (exd dx [(f, v)])) a (exo a C (some dx)))) : wpAny (model X.prog X.w) X.A (PySem.call (.ref C) [u]) (EP X pins σ Q) X.xe s := by
  obtain ⟨b, B, hx⟩ := M.cls
  obtain ⟨nm, N, qn, bs, bm, hdct, sn, sub, ab, col, dd, k0, k1, k2, k3, k5, kC, hT⟩ := PySem.W.excInit_of I.kIn hx
  obtain ⟨fI, fd, ps, hi, ti, F, hb⟩ := M.ini
  obtain ⟨initId, bmB, FB⟩ := B.fac
  have inX : ∀ T : String, (Value.ref C :: bm).contains (.type T) = b.tail.contains (.type T) := fun T => by rw [List.contains_cons, hT]; rfl
  obtain ⟨hp, g, dr, tok, os⟩ := s
  have sz : hp.objs.size ≤ hp.objs.size + 1 := Nat.le_succ _
  have hn : H (hp.objs.size + 1) = none := I.hok.fresh sz
  have kk : ∀ b o, hp.get? b = some o → ((hp.push (PySem.W.kdv_tup [u])).push (PySem.HandSPX.excO C hp.objs.size)).get? b = some o := fun b o e => Heap.get?_push_of_some _ (Heap.get?_push_of_some _ e)
  have got : ((hp.push (PySem.W.kdv_tup [u])).push (PySem.HandSPX.excO C hp.objs.size)).get? (hp.objs.size + 1) = some (PySem.HandSPX.excO C hp.objs.size) := by heap_get
  have I2 : Inv X pins σ (upd H (hp.objs.size + 1) (exo (hp.objs.size + 1) C none)) ⟨(hp.push (PySem.W.kdv_tup [u])).push (PySem.HandSPX.excO C hp.objs.size), g, dr, tok, os⟩ :=
    I.laid (t' := tok) (a := hp.objs.size + 1) (o := exo (hp.objs.size + 1) C none) (h' := (hp.push (PySem.W.kdv_tup [u])).push (PySem.HandSPX.excO C hp.objs.size)) kk sz (exo_ok got)
  have r2 : Vals [V.ref (hp.objs.size + 1), v] [Value.ref (hp.objs.size + 1), u] := .cons rfl (.cons rv .nil)
  have hq : spX C f [V.ref (hp.objs.size + 1), v] (upd H (hp.objs.size + 1) (exo (hp.objs.size + 1) C none)) (fun r H2 => r = .non ∧ Q (.ref (hp.objs.size + 1)) H2) (fun cls d H => W cls d σ H) := by
    refine ⟨_, v, rfl, upd_same, fun dx n ne => ⟨rfl, ?_⟩⟩
    have nd : H dx = none := by rw [upd_ne ne] at n; exact n
    have e : upd (upd (upd H (hp.objs.size + 1) (exo (hp.objs.size + 1) C none)) dx (exd dx [(f, v)])) (hp.objs.size + 1) (exo (hp.objs.size + 1) C (some dx)) = upd (upd H dx (exd dx [(f, v)])) (hp.objs.size + 1) (exo (hp.objs.size + 1) C (some dx)) := by
      funext c
      by_cases h1 : c = hp.objs.size + 1
      · subst h1; rw [upd_same, upd_same]
      · rw [upd_ne h1, upd_ne h1]
        by_cases h2 : c = dx
        · subst h2; rw [upd_same, upd_same]
        · rw [upd_ne h2, upd_ne h2, upd_ne h1]
    rw [e]
    exact want _ dx hn nd ne
  have hl : [Value.ref (hp.objs.size + 1), u].length = ps.length := by
    have e := F.len _ _ _ _ hq
    exact e
  have bb := hb ⟨(hp.push (PySem.W.kdv_tup [u])).push (PySem.HandSPX.excO C hp.objs.size), g, dr, tok, os⟩ [Value.ref (hp.objs.size + 1), u] I2.kIn (by rw [List.append_nil]; exact hl)
  rw [List.append_nil] at bb
  refine wpAny_call (PySem.RX.xcall FB ((inX _).trans B.inB) ((inX _).trans B.inA) ((inX _).trans B.inN) kC (PySem.W.looks_findIn I.kIn hi) (fun self => PySem.W.bind_fn I.kIn self ti) (by show 1 ≤ sizeLine; rw [sizeLine_eq]; omega)
    (codeAny_mono (F.run _ X.stack _ _ ⟨[Value.ref (hp.objs.size + 1), u], []⟩ _ _ _ _ (room.make C [u] []) (I2.env0.make C [u] []) bb r2 hq) fun r s' hr => ?_))
  cases r with
  | error e => exact passAt tk σ pins _ _ e s' I2 hr
  | ok fl =>
    cases fl with
    | ret z =>
      obtain ⟨v', H', I3, rv', ev, q3⟩ := I2.after hr
      subst ev
      exact ⟨rv', .ref (hp.objs.size + 1), H', (by
        obtain ⟨sh, sg, sd, st, so⟩ := s'
        exact I3), rfl, q3⟩
    | next => exact hr.elim
    | brk => exact hr.elim
    | cont => exact hr.elim
/-- what is asked to make C(), C without an own __init__ -/
structure XMk0 (K : PySem.W.Frag) (C : Addr) : Prop where
  cls : ∃ (B newId initId : String) (bmB : List Value), ExcBaseFacts B newId initId bmB ∧ PySem.W.findIn K (.ref C) "__init__" = some (some (.builtin initId)) ∧ PySem.W.excInitIn K C bmB newId = true
theorem xmake0 {X : Cx} {pins : List (Addr × Obj)} {σ : L2.St} {H : Hp} {s : Shared} {Q : VK} {C : Addr} (M : XMk0 X.K C) (I : Inv X pins σ H s)
    (want : ∀ a, H a = none → Q (.ref a) (upd H a (exo a C none))) : wpAny (model X.prog X.w) X.A (PySem.call (.ref C) []) (EP X pins σ Q) X.xe s := by
  obtain ⟨B, newId, initId, bmB, FB, hi, hx⟩ := M.cls
  obtain ⟨nm, N', qn, bs, bm, hdct, sn, sub, ab, col, dd, k0, k1, k2, k3, k5, hC, hT⟩ := PySem.W.excInit_of I.kIn hx
  obtain ⟨hp, g, dr, tok, os⟩ := s
  refine PySem.W.call_B FB hT hC (PySem.W.looks_findIn I.kIn hi) (by show 0 ≤ sizeLine; omega) fun h' keep he ht => ?_
  have big : hp.objs.size ≤ hp.objs.size + 1 := Nat.le_succ _
  exact ⟨.ref (hp.objs.size + 1), _, I.laid (t' := tok) (a := hp.objs.size + 1) (o := exo (hp.objs.size + 1) C none) keep big (exo_ok he), rfl, want _ (I.hok.fresh big)⟩
/-- what is asked to read a field of an error, and its class -/
structure XcF (K : PySem.W.Frag) (C : Addr) : Prop where
  cl : (PySem.W.clsIn K C).isSome = true
  ga : PySem.W.findIn K (.ref C) "__getattribute__" = some (some (.builtin "BaseException.__getattribute__"))
  gg : PySem.W.findIn K (.ref C) "__getattr__" = some none
  sb : PySem.W.subIn K (.ref C) (.type "BaseException") = some true
  hd : PySem.W.hasDictIn K C = true
  ca : PySem.W.findIn K (.ref C) "__class__" = some (some (.builtin "object.__class__"))
  sg : PySem.W.specialIn K (.builtin "object.__class__") "__get__" = some (some (.builtin "getset_descriptor.__get__"))
  tk : PySem.W.takesIn K (.builtin "object.__class__") = some true
  ob : PySem.W.mroIn K C (.type "object") = some true
end R
namespace R
open PySem L2

def mapO {α β : Type} (f : α → Option β) : List α → Option (List β)
  | [] => some []
  | x :: xs => match f x, mapO f xs with
    | some y, some ys => some (y :: ys)
    | _, _ => none
/-- what a value reads as, through the small heap -/
def deep (h : MH) : Nat → D → Option PyData
  | 0, _ => Option.none
  | n + 1, d => match d with
    | .none => some .none
    | .bool b => some (.bool b)
    | .int i => some (.int i)
    | .str s => some (.str s)
    | .tup ds => (mapO (deep h n) ds).map .tuple
    | .scr ds => (mapO (deep h n) ds).map .list
    | .flst ds => (mapO (deep h n) ds).map .list
    | .ref m => match h.get m with
      | some (.lst xs) => (mapO (deep h n) xs).map .list
      | _ => Option.none
    | _ => Option.none
/-- data that the model's == takes -/
def deepS (h : MH) (d : D) : Option PyData := match deep h 60 d with
  | some p => if SeqAt.shaped p then some p else Option.none
  | Option.none => Option.none

theorem mapO_dp {Γ : G} {w : Vw} {h : MH} {f : D → Option PyData} (hf : ∀ d v p, f d = some p → Rep Γ w d v → Dp Γ.K w.H v p) :
    ∀ {ds : List D} {vs : List V} {ps : List PyData}, mapO f ds = some ps → Reps Γ w ds vs → DpAll Γ.K w.H vs ps
  | [], _, _, e, r => by
    cases e
    cases r
    exact .nil
  | d :: ds, _, _, e, r => by
    obtain ⟨x, xs, rfl, r1, r2⟩ := r
    unfold mapO at e
    cases h1 : f d with
    | none => rw [h1] at e; cases e
    | some y =>
      cases h2 : mapO f ds with
      | none => rw [h1, h2] at e; cases e
      | some ys =>
        rw [h1, h2] at e
        cases e
        exact .cons (hf _ _ _ h1 r1) (mapO_dp (h := h) hf h2 r2)
theorem deep_dp {Γ : G} {w : Vw} {h : MH} (s : Sim Γ w h) : ∀ (n : Nat) (d : D) (v : V) (p : PyData), deep h n d = some p → Rep Γ w d v → Dp Γ.K w.H v p
  | 0, _, _, _, e, _ => by cases e
  | n + 1, d, v, p, e, r => by
    cases d with
    | none => cases e; cases r; exact .non
    | bool b => cases e; cases r; exact .bl b
    | int i => cases e; cases r; exact .int i
    | str i => cases e; cases r; exact .str i
    | tup ds =>
      obtain ⟨a, xs, rfl, h1, h2⟩ := r
      have e : (mapO (deep h n) ds).map .tuple = some p := e
      cases q : mapO (deep h n) ds with
      | none => rw [q] at e; cases e
      | some ps => rw [q] at e; cases e; exact .tup h1 (mapO_dp (h := h) (deep_dp s n) q h2)
    | scr ds =>
      obtain ⟨a, xs, rfl, h1, h2⟩ := r
      have e : (mapO (deep h n) ds).map .list = some p := e
      cases q : mapO (deep h n) ds with
      | none => rw [q] at e; cases e
      | some ps => rw [q] at e; cases e; exact .lst h1.sq (mapO_dp (h := h) (deep_dp s n) q h2)
    | flst ds =>
      obtain ⟨a, xs, rfl, _, h1, h2⟩ := r
      have e : (mapO (deep h n) ds).map .list = some p := e
      cases q : mapO (deep h n) ds with
      | none => rw [q] at e; cases e
      | some ps => rw [q] at e; cases e; exact .lst (.of h1) (mapO_dp (h := h) (deep_dp s n) q h2)
    | ref m =>
      obtain ⟨h1, rfl⟩ := r
      have e : (match h.get m with | some (.lst xs) => (mapO (deep h n) xs).map PyData.list | _ => Option.none) = some p := e
      cases q : h.get m with
      | none => rw [q] at e; cases e
      | some o =>
        rw [q] at e
        obtain ⟨_, ho⟩ := s.obj m o q
        cases o with
        | lst xs =>
          obtain ⟨ys, h2, h3⟩ := ho
          have e : (mapO (deep h n) xs).map PyData.list = some p := e
          cases q2 : mapO (deep h n) xs with
          | none => rw [q2] at e; cases e
          | some ps => rw [q2] at e; cases e; exact .lst (.of h2) (mapO_dp (h := h) (deep_dp s n) q2 h3)
        | _ => cases e
    | _ => cases e
theorem deepS_dp {Γ : G} {w : Vw} {h : MH} (s : Sim Γ w h) {d : D} {v : V} {p : PyData} (e : deepS h d = some p) (r : Rep Γ w d v) : Dp Γ.K w.H v p ∧ SeqAt.shaped p = true := by
  unfold deepS at e
  cases q : deep h 60 d with
  | none => rw [q] at e; cases e
  | some p' =>
    rw [q] at e
    have e : (if SeqAt.shaped p' then some p' else Option.none) = some p := e
    by_cases hs : SeqAt.shaped p' = true
    · rw [if_pos hs] at e; cases e; exact ⟨deep_dp s _ _ _ _ q r, hs⟩
    · rw [if_neg hs] at e; cases e

abbrev Val (Γ : G) (Q : VK) : D → Vw → MH → Prop := fun d w' _ => ∀ v, Rep Γ w' d v → Q v w'.H
abbrev NoX : Nat → List (Str × D) → Vw → MH → Prop := fun _ _ _ _ => False
section
variable {Γ : G} {w : Vw} {h : MH} {Q : VK} {W : Nat → List (Str × D) → Vw → MH → Prop}
theorem Aft.val {d : D} {v : V} (a : Aft Γ w (.ok d h) (Val Γ Q) W) (s : Sim Γ w h) (r : Rep Γ w d v) : Q v w.H := a w (.refl w) s v r
/-- a new object -/
theorem Aft.new {p : Addr} {x : HO} {o : MO} (a : Aft Γ w (.ok (.ref h.next) (h.push o)) (Val Γ Q) W) (s : Sim Γ w h) (hp : w.H p = none) (ho : ObjR Γ (w.new p (upd w.H p x)) p o) : Q (.ref p) (upd w.H p x) := by
  obtain ⟨s', e'⟩ := s.new1 hp ho
  exact a _ e' s' (.ref p) (by rw [s.k]; exact Rep.new)
theorem Aft.newL {p : Addr} {xs : List V} {ds : List D} (a : Aft Γ w (.ok (.ref h.next) (h.push (.lst ds))) (Val Γ Q) W) (s : Sim Γ w h) (hp : w.H p = none) (r : Reps Γ w ds xs) : Q (.ref p) (upd w.H p (.lst xs)) := by
  have e' : Ext Γ w (w.new p (upd w.H p (.lst xs))) := ext_new fun b ne => by
    by_cases q : b = p
    · subst q; exact .inl hp
    · exact absurd (upd_ne q).symm ne
  exact a.new s hp ⟨xs, upd_same, r.mono e'⟩
theorem Aft.newF {p : Addr} {xs : List V} {ds : List D} (a : Aft Γ w (.ok (.flst ds) h) (Val Γ Q) W) (s : Sim Γ w h) (hp : w.H p = none) (r : Reps Γ w ds xs) : Q (.ref p) (upd w.H p (.lst xs)) := by
  obtain ⟨s', e', r'⟩ := s.flst hp r
  exact a _ e' s' _ r'
theorem Aft.newT {p : Addr} {xs : List V} {ds : List D} (a : Aft Γ w (.ok (.tup ds) h) (Val Γ Q) W) (s : Sim Γ w h) (hp : w.H p = none) (r : Reps Γ w ds xs) : Q (.ref p) (upd w.H p (.tup xs)) := by
  obtain ⟨s', e', r'⟩ := s.tup hp r
  exact a _ e' s' _ r'
end

abbrev Op2 := D → D → MH → Res D
/-- the reading of an operation that the small evaluator tells -/
def r2 (Γ : G) (f : Op2) : R2 := fun x y H Q => ∃ w h a b Wx, w.H = H ∧ Sim Γ w h ∧ Rep Γ w a x ∧ Rep Γ w b y ∧ Aft Γ w (f a b h) (Val Γ Q) Wx

def newL (ds : List D) (h : MH) : Res D := if ds.length ≤ sizeLine then .ok (.ref h.next) (h.push (.lst ds)) else .bad
/-- a new list that nobody will write -/
def newF (ds : List D) (h : MH) : Res D := if ds.length ≤ sizeLine then .ok (.flst ds) h else .bad
/-- a list's items -/
def lstD (x : D) (h : MH) : Option (List D) := match x with
  | .flst ds => some ds
  | .ref n => match h.get n with
    | some (.lst ds) => some ds
    | _ => Option.none
  | _ => Option.none
theorem lstD_says {Γ : G} {w : Vw} {h : MH} {d : D} {v : V} {ds : List D} (S' : Sim Γ w h) (e : lstD d h = some ds) (r : Rep Γ w d v) : ∃ a xs, v = .ref a ∧ w.H a = some (.lst xs) ∧ Reps Γ w ds xs := by
  cases d with
  | flst l => obtain ⟨a, xs, rfl, _, h1, h2⟩ := r; cases e; exact ⟨a, xs, rfl, h1, h2⟩
  | ref n =>
    obtain ⟨_, rfl⟩ := r
    have e : (match h.get n with | some (.lst ds) => some ds | _ => Option.none) = some ds := e
    split at e
    · rename_i xs hg
      cases e
      obtain ⟨us, h1, h2⟩ := (S'.obj n _ hg).2
      exact ⟨_, us, rfl, h1, h2⟩
    · cases e
  | _ => cases e

def addD : Op2 := fun x y h => match x, y with
  | .int a, .int b => .ok (.int (a + b)) h
  | .str a, .str b => if a.length + b.length ≤ sizeLine then .ok (.str (a ++ b)) h else .bad
  | .tup a, .tup b => if a.length + b.length ≤ sizeLine then .ok (.tup (a ++ b)) h else .bad
  | x, y => match lstD x h, lstD y h with
    | some xs, some ys => newF (xs ++ ys) h
    | _, _ => .bad
def subD : Op2 := fun x y h => match x, y with
  | .int a, .int b => .ok (.int (a - b)) h
  | _, _ => .bad
/-- |a| < 2 ^ k (said so that the kernel does not count) -/
def ltB (k : Nat) (a : Int) : Bool := Nat.blt a.natAbs.log2 k
theorem ltB_iff {k : Nat} {a : Int} (hk : 0 < k) : ltB k a = true ↔ a.natAbs < 2 ^ k := by
  unfold ltB
  rw [Nat.blt_eq]
  by_cases h : a.natAbs = 0
  · rw [h]
    exact ⟨fun _ => Nat.two_pow_pos _, fun _ => by rw [Nat.log2_zero]; exact hk⟩
  · exact Nat.log2_lt h
def smallI (a : Int) : Bool := ltB 64 a
def mulD : Op2 := fun x y h => match x, y with
  | .int a, .int b => if smallI a || smallI b then .ok (.int (a * b)) h else .bad
  | x, .int k => match lstD x h with
    | some xs => if ltB 62 k && decide (xs.length * k.toNat ≤ sizeLine) then .ok (.flst (List.replicate k.toNat xs).flatten) h else .bad
    | _ => .bad
  | _, _ => .bad
def fdivD : Op2 := fun x y h => match x, y with
  | .int a, .int b => if decide (0 < b) && ltB 30 b then .ok (.int (a / b)) h else .bad
  | _, _ => .bad
def modD : Op2 := fun x y h => match x, y with
  | .int a, .int b => if 0 < b then .ok (.int (a % b)) h else .bad
  | _, _ => .bad
def powD : Op2 := fun x y h => match x, y with
  | .int a, .int b => if decide (0 ≤ b) && ltB 19 b && ltB 64 a then .ok (.int (a ^ b.toNat)) h else .bad
  | _, _ => .bad
def binD : Operator → Op2
  | .Add => addD
  | .Sub => subD
  | .Mult => mulD
  | .FloorDiv => fdivD
  | .Mod => modD
  | .Pow => powD
  | _ => fun _ _ _ => .bad

theorem Sim.lst {Γ : G} {w : Vw} {h : MH} {n : Nat} {ds : List D} (s : Sim Γ w h) (e : h.get n = some (.lst ds)) : ∃ xs, w.H (w.ρ n) = some (.lst xs) ∧ Reps Γ w ds xs := (s.obj n _ e).2
theorem Reps.flatRep {Γ : G} {w : Vw} {ds : List D} {xs : List V} (r : Reps Γ w ds xs) : ∀ k : Nat, Reps Γ w (List.replicate k ds).flatten (List.replicate k xs).flatten
  | 0 => by simp [Reps]
  | k + 1 => by
    rw [List.replicate_succ, List.replicate_succ, List.flatten_cons, List.flatten_cons]
    exact r.append (r.flatRep k)

section
variable {X : Cx} {Γ : G}
theorem bin_add (hK : X.K = Γ.K) : OpR X (binaryOp .Add) (r2 Γ addD) := by
  intro pins s σ H x y v u Q I rx ry h
  obtain ⟨w, h, a, b, Wx, rfl, S, ra, rb, A⟩ := h
  have lst : ∀ a : D, Rep Γ w a x → Aft Γ w (match lstD a h, lstD b h with | some xs, some ys => newF (xs ++ ys) h | _, _ => .bad) (Val Γ Q) Wx → wpAny (model X.prog X.w) X.A (binaryOp .Add v u) (EP X pins σ Q) X.xe s := fun a ra A => by
    split at A
    · rename_i xs ys e1 e2
      obtain ⟨p, us, rfl, h1, h2⟩ := lstD_says S e1 ra
      obtain ⟨q, zs, rfl, h3, h4⟩ := lstD_says S e2 rb
      unfold newF at A
      by_cases hz : (xs ++ ys).length ≤ sizeLine
      · rw [if_pos hz] at A
        exact op_cat pins s σ w.H _ _ v u Q I rx ry ⟨_, _, us, zs, rfl, rfl, h1, h3, by rw [h2.length, h4.length, ← List.length_append]; exact hz, fun p hp => A.newF S hp (h2.append h4)⟩
      · rw [if_neg hz] at A; exact A.elim
    · exact A.elim
  cases a with
  | int i =>
    cases b with
    | int j => cases ra; cases rb; exact op_add pins s σ w.H _ _ v u Q I rx ry ⟨i, j, rfl, rfl, A.val S rfl⟩
    | _ => exact A.elim
  | str i =>
    cases b with
    | str j =>
      cases ra; cases rb
      have A : Aft Γ w (if i.length + j.length ≤ sizeLine then .ok (.str (i ++ j)) h else .bad) (Val Γ Q) Wx := A
      by_cases hz : i.length + j.length ≤ sizeLine
      · rw [if_pos hz] at A
        exact op_add_str pins s σ w.H _ _ v u Q I rx ry ⟨i, j, rfl, rfl, hz, A.val S rfl⟩
      · rw [if_neg hz] at A; exact A.elim
    | _ => exact A.elim
  | tup i =>
    cases b with
    | tup j =>
      obtain ⟨p, xs, rfl, h1, h2⟩ := ra
      obtain ⟨q, ys, rfl, h3, h4⟩ := rb
      have A : Aft Γ w (if i.length + j.length ≤ sizeLine then .ok (.tup (i ++ j)) h else .bad) (Val Γ Q) Wx := A
      by_cases hz : i.length + j.length ≤ sizeLine
      · rw [if_pos hz] at A
        refine op_catA pins s σ w.H _ _ v u Q I rx ry ⟨p, q, xs, ys, rfl, rfl, hK ▸ h1, hK ▸ h3, by rw [h2.length, h4.length]; exact hz, fun e => ?_, fun _ e => ?_, fun _ _ z hz => ?_⟩
        · subst e
          have e : i = [] := List.eq_nil_of_length_eq_zero (by rw [← h2.length]; rfl)
          subst e
          exact A.val S ⟨q, ys, rfl, h3, h4⟩
        · subst e
          have e : j = [] := List.eq_nil_of_length_eq_zero (by rw [← h4.length]; rfl)
          subst e
          exact A.val S ⟨p, xs, rfl, h1, by rw [List.append_nil]; exact h2⟩
        · exact A.newT S hz (h2.append h4)
      · rw [if_neg hz] at A; exact A.elim
    | _ => exact A.elim
  | flst i => exact lst _ ra (by cases b <;> exact A)
  | ref i => exact lst _ ra (by cases b <;> exact A)
  | _ => cases b <;> exact A.elim
theorem bin_sub : OpR X (binaryOp .Sub) (r2 Γ subD) := by
  intro pins s σ H x y v u Q I rx ry h
  obtain ⟨w, h, a, b, Wx, rfl, S, ra, rb, A⟩ := h
  cases a with
  | int i =>
    cases b with
    | int j => cases ra; cases rb; exact op_sub pins s σ w.H _ _ v u Q I rx ry ⟨i, j, rfl, rfl, A.val S rfl⟩
    | _ => exact A.elim
  | _ => exact A.elim
theorem smallI_iff {a : Int} (h : smallI a = true) : -(2 ^ 64) < a ∧ a < 2 ^ 64 := by
  have h : a.natAbs < 2 ^ 64 := (ltB_iff (by decide)).mp h
  omega
theorem bin_mul : OpR X (binaryOp .Mult) (r2 Γ mulD) := by
  intro pins s σ H x y v u Q I rx ry h
  obtain ⟨w, h, a, b, Wx, rfl, S, ra, rb, A⟩ := h
  have lst : ∀ (a : D) (k : Int), Rep Γ w a x → Rep Γ w (.int k) y → Aft Γ w (match lstD a h with | some xs => if ltB 62 k && decide (xs.length * k.toNat ≤ sizeLine) then .ok (.flst (List.replicate k.toNat xs).flatten) h else .bad | _ => .bad) (Val Γ Q) Wx →
      wpAny (model X.prog X.w) X.A (binaryOp .Mult v u) (EP X pins σ Q) X.xe s := fun a k ra rb A => by
    cases rb
    split at A
    · rename_i xs e1
      obtain ⟨p, us, rfl, h1, h2⟩ := lstD_says S e1 ra
      by_cases hz : (ltB 62 k && decide (xs.length * k.toNat ≤ sizeLine)) = true
      · rw [if_pos hz] at A
        simp only [Bool.and_eq_true, decide_eq_true_eq] at hz
        have hk := (ltB_iff (by decide)).mp hz.1
        exact op_rep pins s σ w.H _ _ v u Q I rx ry ⟨_, k, us, rfl, rfl, h1, by omega, by omega, by rw [h2.length]; exact hz.2, fun p hp => A.newF S hp (h2.flatRep _)⟩
      · rw [if_neg hz] at A; exact A.elim
    · exact A.elim
  cases a with
  | int i =>
    cases b with
    | int j =>
      cases ra; cases rb
      have A : Aft Γ w (if smallI i || smallI j then .ok (.int (i * j)) h else .bad) (Val Γ Q) Wx := A
      by_cases hz : (smallI i || smallI j) = true
      · rw [if_pos hz] at A
        have hc : CMul i j := by
          rcases Bool.or_eq_true_iff.mp hz with e | e
          · exact .inl (smallI_iff e)
          · exact .inr (smallI_iff e)
        exact op_mul pins s σ w.H _ _ v u Q I rx ry ⟨i, j, rfl, rfl, hc, A.val S rfl⟩
      · rw [if_neg hz] at A; exact A.elim
    | _ => exact A.elim
  | flst i =>
    cases b with
    | int k => exact lst _ k ra rb A
    | _ => exact A.elim
  | ref i =>
    cases b with
    | int k => exact lst _ k ra rb A
    | _ => exact A.elim
  | _ => cases b <;> exact A.elim
theorem bin_fdiv : OpR X (binaryOp .FloorDiv) (r2 Γ fdivD) := by
  intro pins s σ H x y v u Q I rx ry h
  obtain ⟨w, h, a, b, Wx, rfl, S, ra, rb, A⟩ := h
  cases a with
  | int i =>
    cases b with
    | int j =>
      cases ra; cases rb
      have A : Aft Γ w (if decide (0 < j) && ltB 30 j then .ok (.int (i / j)) h else .bad) (Val Γ Q) Wx := A
      by_cases hz : (decide (0 < j) && ltB 30 j) = true
      · rw [if_pos hz] at A
        simp only [Bool.and_eq_true, decide_eq_true_eq, ltB_iff (k := 30) (by decide)] at hz
        have hz : 0 < j ∧ j < 1073741824 := ⟨hz.1, by omega⟩
        exact op_fdiv pins s σ w.H _ _ v u Q I rx ry ⟨i, j, rfl, rfl, hz, A.val S rfl⟩
      · rw [if_neg hz] at A; exact A.elim
    | _ => exact A.elim
  | _ => exact A.elim
theorem bin_mod : OpR X (binaryOp .Mod) (r2 Γ modD) := by
  intro pins s σ H x y v u Q I rx ry h
  obtain ⟨w, h, a, b, Wx, rfl, S, ra, rb, A⟩ := h
  cases a with
  | int i =>
    cases b with
    | int j =>
      cases ra; cases rb
      have A : Aft Γ w (if 0 < j then .ok (.int (i % j)) h else .bad) (Val Γ Q) Wx := A
      by_cases hz : 0 < j
      · rw [if_pos hz] at A
        exact op_mod pins s σ w.H _ _ v u Q I rx ry ⟨i, j, rfl, rfl, hz, A.val S rfl⟩
      · rw [if_neg hz] at A; exact A.elim
    | _ => exact A.elim
  | _ => exact A.elim
theorem bin_pow : OpR X (binaryOp .Pow) (r2 Γ powD) := by
  intro pins s σ H x y v u Q I rx ry h
  obtain ⟨w, h, a, b, Wx, rfl, S, ra, rb, A⟩ := h
  cases a with
  | int i =>
    cases b with
    | int j =>
      cases ra; cases rb
      have A : Aft Γ w (if decide (0 ≤ j) && ltB 19 j && ltB 64 i then .ok (.int (i ^ j.toNat)) h else .bad) (Val Γ Q) Wx := A
      by_cases hz : (decide (0 ≤ j) && ltB 19 j && ltB 64 i) = true
      · rw [if_pos hz] at A
        simp only [Bool.and_eq_true, decide_eq_true_eq, ltB_iff (k := 19) (by decide), ltB_iff (k := 64) (by decide)] at hz
        have hz : (0 ≤ j ∧ j ≤ 1000000) ∧ i.natAbs < 2 ^ 64 := ⟨⟨hz.1.1, by omega⟩, hz.2⟩
        exact op_pow pins s σ w.H _ _ v u Q I rx ry ⟨i, j, rfl, rfl, ⟨hz.1.1, hz.1.2, hz.2⟩, A.val S rfl⟩
      · rw [if_neg hz] at A; exact A.elim
    | _ => exact A.elim
  | _ => exact A.elim
theorem bin_any (hK : X.K = Γ.K) : ∀ op : Operator, OpR X (binaryOp op) (r2 Γ (binD op)) := by
  intro op
  have no : ∀ op, OpR X (binaryOp op) (r2 Γ fun _ _ _ => .bad) := fun op pins s σ H x y v u Q I rx ry h => by
    obtain ⟨w, h, a, b, Wx, rfl, S, ra, rb, A⟩ := h
    exact A.elim
  cases op with
  | Add => exact bin_add hK
  | Sub => exact bin_sub
  | Mult => exact bin_mul
  | FloorDiv => exact bin_fdiv
  | Mod => exact bin_mod
  | Pow => exact bin_pow
  | _ => exact no _
end
end R
namespace R
open PySem L2

def eqD (x y : D) (h : MH) : Option Bool := match x, y with
  | .int a, .int b => some (decide (a = b))
  | .str a, .str b => some (decide (a = b))
  | .none, .none => some true
  | .none, .int _ => some false
  | .int _, .none => some false
  | .none, .str _ => some false
  | .str _, .none => some false
  | x, y => match deepS h x, deepS h y with
    | some p, some q => some (PyData.eqv p q)
    | _, _ => Option.none
/-- the items of a sequence -/
def itemsD (y : D) (h : MH) : Option (List D) := match y with
  | .tup ds => some ds
  | .scr ds => some ds
  | .flst ds => some ds
  | .ref n => match h.get n with
    | some (.lst xs) => some xs
    | _ => Option.none
  | _ => Option.none
/-- a dict's pairs -/
def dkD (x : D) (h : MH) : Option (List (Key × D)) := match x with
  | .fdk ks ds => some (ks.zip ds)
  | .ref n => match h.get n with
    | some (.dk kvs) => some kvs
    | _ => Option.none
  | _ => Option.none
def keyD : D → Option Key
  | .int i => some (.inl i)
  | .str s => some (.inr s)
  | _ => Option.none
def findK (k : Key) : List (Key × D) → Option D
  | [] => Option.none
  | (j, d) :: r => if j = k then some d else findK k r
def inD (x y : D) (h : MH) : Option Bool := match y with
  | .str b => match x with
    | .str a => match a.cps.toList with
      | [c] => some (decide (c ∈ b.cps.toList))
      | _ => some (!(Builtin.Str.occurrences b a 0 b.length 1).isEmpty)
    | _ => Option.none
  | y => match dkD y h with
    | some kvs => match keyD x with
      | some k => some (findK k kvs).isSome
      | Option.none => Option.none
    | Option.none => match deepS h x, deepS h y with
      | some p, some (.tuple ps) => some (ps.any fun q => PyData.eqv q p)
      | some p, some (.list ps) => some (ps.any fun q => PyData.eqv q p)
      | _, _ => Option.none
def isND : D → Bool
  | .none => true
  | _ => false
def retB (b : Option Bool) (h : MH) : Res D := match b with
  | some b => .ok (.bool b) h
  | Option.none => .bad
def cmpD : CmpOp → Op2
  | .Lt => fun x y h => match x, y with
    | .int a, .int b => .ok (.bool (decide (a < b))) h
    | .str a, .str b => .ok (.bool (decide (a.cps.toList < b.cps.toList))) h
    | _, _ => .bad
  | .LtE => fun x y h => match x, y with
    | .int a, .int b => .ok (.bool (decide (a ≤ b))) h
    | _, _ => .bad
  | .Gt => fun x y h => match x, y with
    | .int a, .int b => .ok (.bool (decide (b < a))) h
    | _, _ => .bad
  | .GtE => fun x y h => match x, y with
    | .int a, .int b => .ok (.bool (decide (b ≤ a))) h
    | _, _ => .bad
  | .Eq => fun x y h => retB (eqD x y h) h
  | .NotEq => fun x y h => retB ((eqD x y h).map fun b => !b) h
  | .Is => fun x y h => match x, y with
    | x, .none => .ok (.bool (isND x)) h
    | .bool a, .bool b => .ok (.bool (decide (a = b))) h
    | _, _ => .bad
  | .IsNot => fun x y h => match x, y with
    | x, .none => .ok (.bool (!isND x)) h
    | .bool a, .bool b => .ok (.bool (!decide (a = b))) h
    | _, _ => .bad
  | .In => fun x y h => retB (inD x y h) h
  | .NotIn => fun x y h => retB ((inD x y h).map fun b => !b) h

theorem Rep.non_iff {Γ : G} {w : Vw} {d : D} {v : V} (r : Rep Γ w d v) : decide (v = .non) = isND d := by
  cases d with
  | none => cases r; rfl
  | bool b => cases r; rfl
  | int b => cases r; rfl
  | str b => cases r; rfl
  | tup ds => obtain ⟨a, xs, rfl, _⟩ := r; rfl
  | scr ds => obtain ⟨a, xs, rfl, _⟩ := r; rfl
  | flst ds => obtain ⟨a, xs, rfl, _⟩ := r; rfl
  | fdk ks ds => obtain ⟨a, xs, rfl, _⟩ := r; rfl
  | obj c ns ds => obtain ⟨a, dx, xs, rfl, _⟩ := r; rfl
  | ref n => obtain ⟨_, rfl⟩ := r; rfl
  | fn i => cases r; rfl
  | cl i => cases r; rfl
  | ty i => cases r; rfl
  | exv c ns ds => obtain ⟨a, xs, rfl, _⟩ := r; rfl

theorem Reps.zip {κ : Type} {Γ : G} {w : Vw} : ∀ {ks : List κ} {ds : List D} {xs : List V}, Reps Γ w ds xs → xs.length = ks.length → RepP Γ w (ks.zip ds) (ks.zip xs)
  | [], _, _, _, _ => by simp [RepP]
  | k :: ks, [], _, r, hl => by cases r; cases hl
  | k :: ks, d :: ds, _, r, hl => by
    obtain ⟨x, xs, rfl, r1, r2⟩ := r
    exact ⟨x, _, rfl, r1, r2.zip (by simpa using hl)⟩
theorem dkD_says {Γ : G} {w : Vw} {h : MH} {d : D} {v : V} {kvs : List (Key × D)} (S' : Sim Γ w h) (e : dkD d h = some kvs) (r : Rep Γ w d v) : ∃ a xs, v = .ref a ∧ w.H a = some (.dK xs) ∧ RepP Γ w kvs xs := by
  cases d with
  | fdk ks ds => obtain ⟨a, xs, rfl, _, h1, h2, h3⟩ := r; cases e; exact ⟨a, _, rfl, h1, h3.zip h2⟩
  | ref n =>
    obtain ⟨_, rfl⟩ := r
    have e : (match h.get n with | some (.dk kvs) => some kvs | _ => Option.none) = some kvs := e
    split at e
    · rename_i xs hg
      cases e
      obtain ⟨us, h1, h2⟩ := (S'.obj n _ hg).2
      exact ⟨_, us, rfl, h1, h2⟩
    · cases e
  | _ => cases e
theorem valV_find {Γ : G} {w : Vw} {k : Key} : ∀ {kvs : List (Key × D)} {xs : List (Key × V)}, RepP Γ w kvs xs →
    (∀ d, findK k kvs = some d → ∃ v, valV xs k = some v ∧ Rep Γ w d v) ∧ (findK k kvs = none → valV xs k = none)
  | [], _, r => by cases r; exact ⟨(fun d e => by cases e), fun _ => rfl⟩
  | (j, d) :: kvs, _, r => by
    obtain ⟨x, xs, rfl, r1, r2⟩ := r
    obtain ⟨i1, i2⟩ := valV_find r2
    by_cases e : j = k
    · refine ⟨fun d' q => ?_, fun q => ?_⟩
      · unfold findK at q
        rw [if_pos e] at q
        cases q
        exact ⟨x, valV_pos (p := (j, x)) e, r1⟩
      · unfold findK at q
        rw [if_pos e] at q
        cases q
    · refine ⟨fun d' q => ?_, fun q => ?_⟩
      · unfold findK at q
        rw [if_neg e] at q
        obtain ⟨v, h1, h2⟩ := i1 d' q
        exact ⟨v, by rw [valV_neg (p := (j, x)) e]; exact h1, h2⟩
      · unfold findK at q
        rw [if_neg e] at q
        rw [valV_neg (p := (j, x)) e]
        exact i2 q
theorem valV_isSome {Γ : G} {w : Vw} {k : Key} {kvs : List (Key × D)} {xs : List (Key × V)} (r : RepP Γ w kvs xs) : (valV xs k).isSome = (findK k kvs).isSome := by
  obtain ⟨i1, i2⟩ := valV_find (k := k) r
  cases q : findK k kvs with
  | none => rw [i2 q]; rfl
  | some d => obtain ⟨v, h, _⟩ := i1 d q; rw [h]; rfl
theorem keyD_rep {Γ : G} {w : Vw} {d : D} {v : V} {k : Key} (e : keyD d = some k) (r : Rep Γ w d v) : v = kV k := by
  cases d with
  | int i => cases e; cases r; rfl
  | str i => cases e; cases r; rfl
  | _ => cases e

section
variable {X : Cx} {Γ : G}
theorem retB_val {w : Vw} {h : MH} {b : Option Bool} {Q : VK} {Wx : Nat → List (Str × D) → Vw → MH → Prop} (A : Aft Γ w (retB b h) (Val Γ Q) Wx) (S : Sim Γ w h) : ∃ c, b = some c ∧ Q (.bl c) w.H := by
  cases b with
  | none => exact A.elim
  | some c => exact ⟨c, rfl, A.val S rfl⟩

theorem eqD_deep {x y : D} {h : MH} {c : Bool} (e : (match deepS h x, deepS h y with | some p, some q => some (PyData.eqv p q) | _, _ => Option.none) = some c) : ∃ p q, deepS h x = some p ∧ deepS h y = some q ∧ c = PyData.eqv p q := by
  cases h1 : deepS h x with
  | none => rw [h1] at e; cases e
  | some p =>
    cases h2 : deepS h y with
    | none => rw [h1, h2] at e; cases e
    | some q => rw [h1, h2] at e; cases e; exact ⟨p, q, rfl, rfl, rfl⟩
/-- what eqD tells, in HandS's words -/
theorem eqD_says {w : Vw} {h : MH} {a b : D} {x y : V} {c : Bool} (S : Sim Γ w h) (ra : Rep Γ w a x) (rb : Rep Γ w b y) (e : eqD a b h = some c) :
    (scal x y = true ∧ c = decide (x = y)) ∨ ∃ p q, Dp Γ.K w.H x p ∧ Dp Γ.K w.H y q ∧ SeqAt.shaped p = true ∧ SeqAt.shaped q = true ∧ c = PyData.eqv p q := by
  have dp : (match deepS h a, deepS h b with | some p, some q => some (PyData.eqv p q) | _, _ => Option.none) = some c → ∃ p q, Dp Γ.K w.H x p ∧ Dp Γ.K w.H y q ∧ SeqAt.shaped p = true ∧ SeqAt.shaped q = true ∧ c = PyData.eqv p q := fun e => by
    obtain ⟨p, q, h1, h2, h3⟩ := eqD_deep e
    obtain ⟨d1, s1⟩ := deepS_dp S h1 ra
    obtain ⟨d2, s2⟩ := deepS_dp S h2 rb
    exact ⟨p, q, d1, d2, s1, s2, h3⟩
  cases a with
  | int i =>
    cases b with
    | int j => cases e; cases ra; cases rb; exact .inl ⟨rfl, by simp⟩
    | none => cases e; cases ra; cases rb; exact .inl ⟨rfl, by simp⟩
    | _ => exact .inr (dp e)
  | str i =>
    cases b with
    | str j => cases e; cases ra; cases rb; exact .inl ⟨rfl, by simp⟩
    | none => cases e; cases ra; cases rb; exact .inl ⟨rfl, by simp⟩
    | _ => exact .inr (dp e)
  | none =>
    cases b with
    | int j => cases e; cases ra; cases rb; exact .inl ⟨rfl, by simp⟩
    | str j => cases e; cases ra; cases rb; exact .inl ⟨rfl, by simp⟩
    | none => cases e; cases ra; cases rb; exact .inl ⟨rfl, by simp⟩
    | _ => exact .inr (dp e)
  | _ => exact .inr (dp e)
theorem cmp_eq (hK : X.K = Γ.K) (hu : X.A.units + 65 < cLine) : OpR X (compareOp .Eq) (r2 Γ (cmpD .Eq)) := by
  intro pins s σ H x y v u Q I rx ry h
  obtain ⟨w, h, a, b, Wx, rfl, S, ra, rb, A⟩ := h
  obtain ⟨c, e, q⟩ := retB_val A S
  rcases eqD_says S ra rb e with ⟨h1, rfl⟩ | ⟨p, p', h1, h2, h3, h4, rfl⟩
  · exact op_eq pins s σ w.H _ _ v u Q I rx ry ⟨h1, q⟩
  · exact op_eqD (by omega) pins s σ w.H _ _ v u Q I rx ry ⟨p, p', hK ▸ h1, hK ▸ h2, h3, h4, q⟩
theorem cmp_ne (hK : X.K = Γ.K) (hu : X.A.units + 65 < cLine) : OpR X (compareOp .NotEq) (r2 Γ (cmpD .NotEq)) := by
  intro pins s σ H x y v u Q I rx ry h
  obtain ⟨w, h, a, b, Wx, rfl, S, ra, rb, A⟩ := h
  obtain ⟨c', e', q⟩ := retB_val A S
  obtain ⟨c, e, rfl⟩ := Option.map_eq_some_iff.mp e'
  rcases eqD_says S ra rb e with ⟨h1, rfl⟩ | ⟨p, p', h1, h2, h3, h4, rfl⟩
  · exact op_ne pins s σ w.H _ _ v u Q I rx ry ⟨h1, q⟩
  · exact op_neD (by omega) pins s σ w.H _ _ v u Q I rx ry ⟨p, p', hK ▸ h1, hK ▸ h2, h3, h4, q⟩

/-- x in y, both ways -/
theorem in_says {w : Vw} {h : MH} {a b : D} {x y : V} {c : Bool} {pins : List (Addr × Obj)} {s : Shared} {σ : St} {v u : Value} (hK : X.K = Γ.K) (hu : X.A.units + 65 < cLine) (I : Inv X pins σ w.H s) (S : Sim Γ w h) (ra : Rep Γ w a x) (rb : Rep Γ w b y)
    (rx : RelV x v) (ry : RelV y u) (e : inD a b h = some c) {E : Value → Shared → Prop} :
    (∀ Q : Value → Shared → Prop, (∀ s', Inv X pins σ w.H s' → Q (.bool c) s') → wpAny (model X.prog X.w) X.A (compareOp .In v u) Q E s) ∧
    (∀ Q : Value → Shared → Prop, (∀ s', Inv X pins σ w.H s' → Q (.bool (!c)) s') → wpAny (model X.prog X.w) X.A (compareOp .NotIn v u) Q E s) := by
  have dt : ∀ {p : PyData} {ps : List PyData}, deepS h a = some p → deepS h b = some (.tuple ps) → c = (ps.any fun q => PyData.eqv q p) → (∀ Q : Value → Shared → Prop, (∀ s', Inv X pins σ w.H s' → Q (.bool c) s') → wpAny (model X.prog X.w) X.A (compareOp .In v u) Q E s) ∧
      (∀ Q : Value → Shared → Prop, (∀ s', Inv X pins σ w.H s' → Q (.bool (!c)) s') → wpAny (model X.prog X.w) X.A (compareOp .NotIn v u) Q E s) := fun {p ps} h1 h2 h3 => by
    obtain ⟨d1, s1⟩ := deepS_dp S h1 ra
    obtain ⟨d2, s2⟩ := deepS_dp S h2 rb
    obtain ⟨as, r1⟩ := Dp.reads I p x v (hK ▸ d1) rx
    obtain ⟨bs, r2⟩ := Dp.reads I (.tuple ps) y u (hK ▸ d2) ry
    subst h3
    exact ⟨fun Q q => SeqAt.in_tuple_reads r2 r1 (SeqAt.canLay_of_shaped s2) (SeqAt.canLay_of_shaped s1) (PyProof.Rows.room_in_shaped s1 hu) (q s I),
      fun Q q => SeqAt.notIn_tuple_reads r2 r1 (SeqAt.canLay_of_shaped s2) (SeqAt.canLay_of_shaped s1) (PyProof.Rows.room_in_shaped s1 hu) (q s I)⟩
  have dl : ∀ {p : PyData} {ps : List PyData}, deepS h a = some p → deepS h b = some (.list ps) → c = (ps.any fun q => PyData.eqv q p) → (∀ Q : Value → Shared → Prop, (∀ s', Inv X pins σ w.H s' → Q (.bool c) s') → wpAny (model X.prog X.w) X.A (compareOp .In v u) Q E s) ∧
      (∀ Q : Value → Shared → Prop, (∀ s', Inv X pins σ w.H s' → Q (.bool (!c)) s') → wpAny (model X.prog X.w) X.A (compareOp .NotIn v u) Q E s) := fun {p ps} h1 h2 h3 => by
    obtain ⟨d1, s1⟩ := deepS_dp S h1 ra
    obtain ⟨d2, s2⟩ := deepS_dp S h2 rb
    obtain ⟨as, r1⟩ := Dp.reads I p x v (hK ▸ d1) rx
    obtain ⟨bs, r2⟩ := Dp.reads I (.list ps) y u (hK ▸ d2) ry
    subst h3
    exact ⟨fun Q q => SeqAt.in_list_reads r2 r1 (SeqAt.canLay_of_shaped s2) (SeqAt.canLay_of_shaped s1) (PyProof.Rows.room_in_shaped s1 hu) (q s I),
      fun Q q => SeqAt.notIn_list_reads r2 r1 (SeqAt.canLay_of_shaped s2) (SeqAt.canLay_of_shaped s1) (PyProof.Rows.room_in_shaped s1 hu) (q s I)⟩
  have both : (match dkD b h with
    | some kvs => (match keyD a with
      | some k => some (findK k kvs).isSome
      | Option.none => Option.none)
    | Option.none => (match deepS h a, deepS h b with
      | some p, some (.tuple ps) => some (ps.any fun q => PyData.eqv q p)
      | some p, some (.list ps) => some (ps.any fun q => PyData.eqv q p)
      | _, _ => Option.none)) = some c → (∀ Q : Value → Shared → Prop, (∀ s', Inv X pins σ w.H s' → Q (.bool c) s') → wpAny (model X.prog X.w) X.A (compareOp .In v u) Q E s) ∧
      (∀ Q : Value → Shared → Prop, (∀ s', Inv X pins σ w.H s' → Q (.bool (!c)) s') → wpAny (model X.prog X.w) X.A (compareOp .NotIn v u) Q E s) := fun e => by
    split at e
    · rename_i kvs hg
      split at e
      · rename_i k hk
        cases e
        obtain ⟨p, xs, rfl, h1, h2⟩ := dkD_says S hg rb
        cases ry
        have ek := keyD_rep hk ra
        subst ek
        have g : DGet w.H p (kV k) (valV xs k) := DGet.k h1
        have es := valV_isSome (k := k) h2
        refine ⟨fun Q q => d_in (by omega) I g rx fun s' I' => ?_, fun Q q => d_notIn (by omega) I g rx fun s' I' => ?_⟩
        · rw [es]; exact q s' I'
        · rw [es]; exact q s' I'
      · cases e
    · split at e
      · rename_i p ps h1 h2; cases e; exact dt h1 h2 rfl
      · rename_i p ps h1 h2; cases e; exact dl h1 h2 rfl
      · cases e
  cases b with
  | str j =>
    cases a with
    | str i =>
      cases ra; cases rb
      obtain ⟨t, rfl⟩ := rx
      obtain ⟨t', rfl⟩ := ry
      have e : (match i.cps.toList with | [k] => some (decide (k ∈ j.cps.toList)) | _ => some (!(Builtin.Str.occurrences j i 0 j.length 1).isEmpty)) = some c := e
      split at e
      · rename_i k hk
        cases e
        have hi : i = ⟨#[k]⟩ := by
          have q : i.cps = #[k] := Array.toList_inj.mp hk
          cases i
          simp only at q
          rw [q]
        subst hi
        have f1 := PySem.StrLaws.found_one j k
        exact ⟨fun Q q => PyProof.Rows.in_str (by rw [f1]; exact q s I), fun Q q => PyProof.Rows.notIn_str (by rw [f1]; exact q s I)⟩
      · cases e
        exact ⟨fun Q q => PyProof.Rows.in_str (q s I), fun Q q => PyProof.Rows.notIn_str (q s I)⟩
    | _ => cases e
  | _ => exact both e
theorem cmp_in (hK : X.K = Γ.K) (hu : X.A.units + 65 < cLine) : OpR X (compareOp .In) (r2 Γ (cmpD .In)) := by
  intro pins s σ H x y v u Q I rx ry h
  obtain ⟨w, h, a, b, Wx, rfl, S, ra, rb, A⟩ := h
  obtain ⟨c, e, q⟩ := retB_val A S
  exact (in_says hK hu I S ra rb rx ry e).1 _ fun s' I' => ⟨.bl c, w.H, I', rfl, q⟩
theorem cmp_notin (hK : X.K = Γ.K) (hu : X.A.units + 65 < cLine) : OpR X (compareOp .NotIn) (r2 Γ (cmpD .NotIn)) := by
  intro pins s σ H x y v u Q I rx ry h
  obtain ⟨w, h, a, b, Wx, rfl, S, ra, rb, A⟩ := h
  obtain ⟨c', e', q⟩ := retB_val A S
  obtain ⟨c, e, rfl⟩ := Option.map_eq_some_iff.mp e'
  exact (in_says hK hu I S ra rb rx ry e).2 _ fun s' I' => ⟨.bl (!c), w.H, I', rfl, q⟩
theorem cmp_any (hK : X.K = Γ.K) (hu : X.A.units + 65 < cLine) : ∀ op : CmpOp, OpR X (compareOp op) (r2 Γ (cmpD op)) := by
  intro op
  cases op with
  | Eq => exact cmp_eq hK hu
  | NotEq => exact cmp_ne hK hu
  | In => exact cmp_in hK hu
  | NotIn => exact cmp_notin hK hu
  | Lt =>
    intro pins s σ H x y v u Q I rx ry h
    obtain ⟨w, h, a, b, Wx, rfl, S, ra, rb, A⟩ := h
    cases a with
    | int i =>
      cases b with
      | int j => cases ra; cases rb; exact op_lt pins s σ w.H _ _ v u Q I rx ry ⟨i, j, rfl, rfl, A.val S rfl⟩
      | _ => exact A.elim
    | str i =>
      cases b with
      | str j => cases ra; cases rb; exact op_lt_str pins s σ w.H _ _ v u Q I rx ry ⟨i, j, rfl, rfl, A.val S rfl⟩
      | _ => exact A.elim
    | _ => exact A.elim
  | LtE =>
    intro pins s σ H x y v u Q I rx ry h
    obtain ⟨w, h, a, b, Wx, rfl, S, ra, rb, A⟩ := h
    cases a with
    | int i =>
      cases b with
      | int j => cases ra; cases rb; exact op_le pins s σ w.H _ _ v u Q I rx ry ⟨i, j, rfl, rfl, A.val S rfl⟩
      | _ => exact A.elim
    | _ => exact A.elim
  | Gt =>
    intro pins s σ H x y v u Q I rx ry h
    obtain ⟨w, h, a, b, Wx, rfl, S, ra, rb, A⟩ := h
    cases a with
    | int i =>
      cases b with
      | int j => cases ra; cases rb; exact op_gt pins s σ w.H _ _ v u Q I rx ry ⟨i, j, rfl, rfl, A.val S rfl⟩
      | _ => exact A.elim
    | _ => exact A.elim
  | GtE =>
    intro pins s σ H x y v u Q I rx ry h
    obtain ⟨w, h, a, b, Wx, rfl, S, ra, rb, A⟩ := h
    cases a with
    | int i =>
      cases b with
      | int j => cases ra; cases rb; exact op_ge pins s σ w.H _ _ v u Q I rx ry ⟨i, j, rfl, rfl, A.val S rfl⟩
      | _ => exact A.elim
    | _ => exact A.elim
  | Is =>
    intro pins s σ H x y v u Q I rx ry h
    obtain ⟨w, h, a, b, Wx, rfl, S, ra, rb, A⟩ := h
    cases b with
    | none =>
      cases rb
      have A : Aft Γ w (.ok (.bool (isND a)) h) (Val Γ Q) Wx := by cases a <;> exact A
      exact op_isN pins s σ w.H _ _ v u Q I rx ry ⟨rfl, by rw [ra.non_iff]; exact A.val S rfl⟩
    | bool j =>
      cases a with
      | bool i => cases ra; cases rb; exact op_isBl pins s σ w.H _ _ v u Q I rx ry ⟨i, j, rfl, rfl, A.val S rfl⟩
      | _ => exact A.elim
    | _ => cases a <;> exact A.elim
  | IsNot =>
    intro pins s σ H x y v u Q I rx ry h
    obtain ⟨w, h, a, b, Wx, rfl, S, ra, rb, A⟩ := h
    cases b with
    | none =>
      cases rb
      have A : Aft Γ w (.ok (.bool (!isND a)) h) (Val Γ Q) Wx := by cases a <;> exact A
      exact op_notN pins s σ w.H _ _ v u Q I rx ry ⟨rfl, by rw [ra.non_iff]; exact A.val S rfl⟩
    | bool j =>
      cases a with
      | bool i => cases ra; cases rb; exact op_notBl pins s σ w.H _ _ v u Q I rx ry ⟨i, j, rfl, rfl, A.val S rfl⟩
      | _ => exact A.elim
    | _ => cases a <;> exact A.elim

def truD (x : D) (h : MH) : Option Bool := match x with
  | .none => some false
  | .bool b => some b
  | .int i => some (i != 0)
  | .str s => if s.length ≤ sizeLine then some ((s.length : Int) != 0) else Option.none
  | .tup ds => some (!ds.isEmpty)
  | .scr ds => some (!ds.isEmpty)
  | .flst ds => some (!ds.isEmpty)
  | .ref n => match h.get n with
    | some (.lst xs) => some (!xs.isEmpty)
    | some (.dk kvs) => some (!kvs.isEmpty)
    | _ => Option.none
  | _ => Option.none
theorem Reps.isEmpty {Γ : G} {w : Vw} {ds : List D} {xs : List V} (r : Reps Γ w ds xs) : xs.isEmpty = ds.isEmpty := by
  cases ds with
  | nil => cases r; rfl
  | cons d ds => obtain ⟨_, _, rfl, _⟩ := r; rfl
theorem truD_says {w : Vw} {h : MH} {a : D} {x : V} {c : Bool} (S : Sim Γ w h) (ra : Rep Γ w a x) (e : truD a h = some c) : TruV Γ.K x w.H c := by
  cases a with
  | none => cases e; cases ra; rfl
  | bool b => cases e; cases ra; rfl
  | int b => cases e; cases ra; rfl
  | str b =>
    cases ra
    have e : (if b.length ≤ sizeLine then some ((b.length : Int) != 0) else Option.none) = some c := e
    by_cases hz : b.length ≤ sizeLine
    · rw [if_pos hz] at e; cases e; exact ⟨hz, rfl⟩
    · rw [if_neg hz] at e; cases e
  | tup ds => obtain ⟨p, xs, rfl, h1, h2⟩ := ra; cases e; exact .inr (.inl ⟨xs, h1, by rw [h2.isEmpty]⟩)
  | scr ds => obtain ⟨p, xs, rfl, h1, h2⟩ := ra; cases e; exact .inl ⟨xs, h1.sq, by rw [h2.isEmpty]⟩
  | flst ds => obtain ⟨p, xs, rfl, _, h1, h2⟩ := ra; cases e; exact .inl ⟨xs, .of h1, by rw [h2.isEmpty]⟩
  | ref n =>
    obtain ⟨_, rfl⟩ := ra
    have e : (match h.get n with
    | some (.lst xs) => some (!xs.isEmpty)
    | some (.dk kvs) => some (!kvs.isEmpty)
    | _ => Option.none) = some c := e
    split at e
    · rename_i xs hg; obtain ⟨us, h1, h2⟩ := S.lst hg; cases e; exact .inl ⟨us, .of h1, by rw [h2.isEmpty]⟩
    · rename_i kvs hg
      obtain ⟨us, h1, h2⟩ := (S.obj n _ hg).2
      cases e
      refine .inr (.inr ⟨us, h1, ?_⟩)
      have := h2.length
      cases kvs <;> cases us <;> simp_all
    · cases e
  | _ => cases e

def ixD : Op2 := fun x y h => match dkD x h with
  | some kvs => (match keyD y with
    | some k => (match findK k kvs with
      | some d => .ok d h
      | Option.none => .bad)
    | Option.none => .bad)
  | Option.none => (match y with
    | .int i => (match x with
      | .str z => if z.length ≤ sizeLine then (match atI z.cps.toList i with
        | some c => .ok (.str ⟨#[c]⟩) h
        | Option.none => .bad) else .bad
      | x => (match itemsD x h with
        | some ds => (match atI ds i with
          | some d => .ok d h
          | Option.none => .bad)
        | Option.none => .bad))
    | _ => .bad)
theorem atI_rep {w : Vw} {ds : List D} {xs : List V} {i : Int} {d : D} (r : Reps Γ w ds xs) (e : atI ds i = some d) : ∃ v, atI xs i = some v ∧ Rep Γ w d v := by
  unfold atI at e ⊢
  rw [r.length]
  cases q : ixN ds.length i with
  | none => rw [q] at e; cases e
  | some j =>
    rw [q] at e
    have e : ds[j]? = some d := e
    obtain ⟨v, h1, h2⟩ := r.get e
    exact ⟨v, h1, h2⟩

def cutD (xs : List D) (lo hi : Option Int) : List D := (xs.drop (HT.sIx xs.length 0 lo)).take (HT.sIx xs.length xs.length hi - HT.sIx xs.length 0 lo)
theorem cutD_rep {w : Vw} {ds : List D} {xs : List V} {lo hi : Option Int} (r : Reps Γ w ds xs) : Reps Γ w (cutD ds lo hi) (cutV xs lo hi) := by
  unfold cutD cutV
  rw [r.length]
  exact (r.drop _).take _
end
end R
namespace R
open PySem L2

/-- a def's parameters: positional, keyword-only, does it take *args, **kw -/
structure Sig where
  ps : List Str
  ks : List Str
  va : Option Str
  kw : Option Str
/-- the slots that the call writes -/
def slotsP {α : Type} (ps : List Str) (pos : List α) (kw : List (Str × α)) : List (Str × α) := ps.zip pos ++ kw
/-- each keyword names a parameter that is still free -/
def kwOk {α : Type} (names : List Str) : List (Str × α) → List (Str × α) → Bool
  | _, [] => true
  | slots, (k, v) :: r => names.contains k && (slots.lookup k).isNone && kwOk names (slots ++ [(k, v)]) r
/-- a parameter's value: written, or the default -/
def valOf {α : Type} (slots dfl : List (Str × α)) (n : Str) : Option α := match slots.lookup n with
  | some v => some v
  | none => dfl.lookup n
def valsOf {α : Type} (slots dfl : List (Str × α)) : List Str → Option (List α)
  | [] => some []
  | n :: ns => match valOf slots dfl n, valsOf slots dfl ns with
    | some v, some vs => some (v :: vs)
    | _, _ => none
/-- the positional defaults by name -/
def dflP {α : Type} (ps : List Str) (dvs : List α) : List (Str × α) := (ps.drop (ps.length - dvs.length)).zip dvs
def bindP {α : Type} (g : Sig) (dvs : List α) (kds : List (Str × α)) (pos : List α) (kw : List (Str × α)) : Option (List α) :=
  if decide (pos.length ≤ g.ps.length) && kwOk (g.ps ++ g.ks) (g.ps.zip pos) kw && (g.ps.take (g.ps.length - dvs.length)).all (fun n => ((g.ps.zip pos ++ kw).lookup n).isSome) then
    (match valsOf (g.ps.zip pos ++ kw) (dflP g.ps dvs) g.ps, valsOf (g.ps.zip pos ++ kw) (dflP g.ps dvs ++ kds) g.ks with
    | some a, some b => some (a ++ b)
    | _, _ => none) else none

section
variable {α : Type}
theorem lookup_append {x : Str} : ∀ {l m : List (Str × α)}, (l ++ m).lookup x = match l.lookup x with | some v => some v | none => m.lookup x
  | [], m => rfl
  | (k, u) :: l, m => by
    show List.lookup x ((k, u) :: (l ++ m)) = _
    rw [List.lookup_cons, List.lookup_cons]
    cases q : x == k with
    | true => rfl
    | false => exact lookup_append
theorem lookup_snoc_none {x k : Str} {v : α} {l : List (Str × α)} (h : l.lookup x = none) (hx : x ≠ k) : (l ++ [(k, v)]).lookup x = none := by
  rw [lookup_append, h]
  show List.lookup x [(k, v)] = none
  rw [List.lookup_cons]
  have : (x == k) = false := by simpa using hx
  rw [this]; rfl
end
/-- what the loop over the defaults does -/
def fillP (slots : List (Str × Value)) : List (Str × Value) → List (Str × Value)
  | [] => slots
  | (n, d) :: r => if (slots.lookup n).isNone then fillP (slots ++ [(n, d)]) r else fillP slots r
theorem fillP_lookup {x : Str} : ∀ {ds slots : List (Str × Value)}, (fillP slots ds).lookup x = match slots.lookup x with | some v => some v | none => ds.lookup x
  | [], slots => by
    unfold fillP
    cases slots.lookup x <;> rfl
  | (n, d) :: r, slots => by
    unfold fillP
    by_cases h : (slots.lookup n).isNone = true
    · rw [if_pos h, fillP_lookup, lookup_append]
      cases q : slots.lookup x with
      | some v => rfl
      | none =>
        show (match List.lookup x [(n, d)] with | some v => some v | none => List.lookup x r) = List.lookup x ((n, d) :: r)
        rw [List.lookup_cons, List.lookup_cons]
        cases x == n <;> rfl
    · rw [if_neg h, fillP_lookup]
      cases q : slots.lookup x with
      | some v => rfl
      | none =>
        rw [List.lookup_cons]
        have : (x == n) = false := by
          cases q2 : x == n with
          | false => rfl
          | true =>
            have := beq_iff_eq.mp q2
            subst this
            rw [q] at h; exact absurd rfl h
        rw [this]
theorem fm_zip {f : Str → Option Value} : ∀ {ns : List Str} {vs : List Value}, (∀ n ∈ ns, (f n).isSome = true) → (ns.map fun n => (f n).getD .none) = vs → ns.filterMap (fun n => (f n).map (n, ·)) = ns.zip vs
  | [], _, _, e => by cases e; rfl
  | n :: ns, _, h, e => by
    subst e
    obtain ⟨v, hv⟩ := Option.isSome_iff_exists.mp (h n (List.mem_cons_self ..))
    rw [List.filterMap_cons, hv]
    show (n, v) :: _ = _
    rw [fm_zip (fun m hm => h m (List.mem_cons_of_mem _ hm)) rfl, List.map_cons, hv]
    rfl
theorem valsOf_says {slots dfl : List (Str × Value)} : ∀ {ns : List Str} {vs : List Value}, valsOf slots dfl ns = some vs → (∀ n ∈ ns, (valOf slots dfl n).isSome = true) ∧ (ns.map fun n => (valOf slots dfl n).getD .none) = vs
  | [], vs, h => by cases h; exact ⟨(fun n hn => by cases hn), rfl⟩
  | n :: ns, vs, h => by
    unfold valsOf at h
    cases q : valOf slots dfl n with
    | none => rw [q] at h; cases h
    | some v =>
      cases q2 : valsOf slots dfl ns with
      | none => rw [q, q2] at h; cases h
      | some vs' =>
        rw [q, q2] at h; cases h
        obtain ⟨h1, h2⟩ := valsOf_says q2
        refine ⟨fun m hm => ?_, by rw [List.map_cons, q, h2]; rfl⟩
        rcases List.mem_cons.mp hm with rfl | hm
        · rw [q]; rfl
        · exact h1 m hm
/-- what the loop over the keyword-only names does -/
def fillK (kds : List (Str × Value)) (slots : List (Str × Value)) : List Str → List (Str × Value)
  | [] => slots
  | n :: r => match slots.lookup n with
    | some _ => fillK kds slots r
    | none => match kds.lookup n with
      | some v => fillK kds (slots ++ [(n, v)]) r
      | none => fillK kds slots r
theorem fillK_lookup {kds : List (Str × Value)} {x : Str} : ∀ {ns : List Str} {slots : List (Str × Value)}, (fillK kds slots ns).lookup x = match slots.lookup x with | some v => some v | none => if x ∈ ns then kds.lookup x else none
  | [], slots => by
    unfold fillK
    cases slots.lookup x <;> simp
  | n :: r, slots => by
    unfold fillK
    cases q : slots.lookup n with
    | some u =>
      show (fillK kds slots r).lookup x = _
      rw [fillK_lookup]
      cases q2 : slots.lookup x with
      | some v => rfl
      | none =>
        have ne : x ≠ n := fun e => by subst e; rw [q] at q2; cases q2
        simp [ne]
    | none =>
      cases q3 : kds.lookup n with
      | some v =>
        show (fillK kds (slots ++ [(n, v)]) r).lookup x = _
        rw [fillK_lookup, lookup_append]
        cases q2 : slots.lookup x with
        | some v => rfl
        | none =>
          by_cases e : x = n
          · subst e
            simp [List.lookup_cons, q3]
          · have : (x == n) = false := by simpa using e
            simp [List.lookup_cons, this, e]
      | none =>
        show (fillK kds slots r).lookup x = _
        rw [fillK_lookup]
        cases q2 : slots.lookup x with
        | some v => rfl
        | none =>
          by_cases e : x = n
          · subst e; simp [q3]
          · simp [e]
theorem fillP_nil {slots : List (Str × Value)} : fillP slots [] = slots := by simp [fillP]
theorem fillP_pos {slots r : List (Str × Value)} {n : Str} {d : Value} (h : (slots.lookup n).isNone = true) : fillP slots ((n, d) :: r) = fillP (slots ++ [(n, d)]) r := by rw [fillP, if_pos h]
theorem fillP_neg {slots r : List (Str × Value)} {n : Str} {d : Value} (h : ¬ (slots.lookup n).isNone = true) : fillP slots ((n, d) :: r) = fillP slots r := by rw [fillP, if_neg h]
theorem fillK_nil {kds slots : List (Str × Value)} : fillK kds slots [] = slots := by simp [fillK]
theorem fillK_some {kds slots : List (Str × Value)} {n : Str} {r : List Str} {v : Value} (h : slots.lookup n = some v) : fillK kds slots (n :: r) = fillK kds slots r := by rw [fillK, h]
theorem fillK_new {kds slots : List (Str × Value)} {n : Str} {r : List Str} {v : Value} (h : slots.lookup n = none) (h2 : kds.lookup n = some v) : fillK kds slots (n :: r) = fillK kds (slots ++ [(n, v)]) r := by rw [fillK, h, h2]
/-- a def without *args, **kw: what a call binds -/
theorem bind_gen {fd : FuncData} {s : Shared} {ps ks : List Str} {ds : List Value} {kds : List (Str × Value)} {pos : List Value} {kw : List (Str × Value)} {vs : List Value}
    (hpo : fd.params.posonlyargs = []) (hps : fd.params.args.map (·.arg) = ps) (hks : fd.params.kwonlyargs.map (·.arg) = ks) (hva : fd.params.vararg = none) (hkw : fd.params.kwarg = none)
    (hd : ∀ M, PySem.W.Looks M s.heap (seqItems? fd.defaults) (if ds = [] then none else some ds.toArray)) (hdl : ds.length ≤ ps.length)
    (hk : ∀ n v, kds.lookup n = some v → ∃ D, fd.kwdefaults = .ref D ∧ ∀ M, PySem.W.Looks M s.heap (nsGet D n) (some v))
    (h : bindP ⟨ps, ks, none, none⟩ ds kds pos kw = some vs) : BindsTo s fd ⟨pos, kw⟩ ((ps ++ ks).zip vs) := by
  intro M A E Q q
  unfold bindP at h
  dsimp only at h
  split at h
  · rename_i hc
    rw [Bool.and_eq_true, Bool.and_eq_true, decide_eq_true_eq] at hc
    obtain ⟨⟨hlen, hok⟩, hall⟩ := hc
    split at h
    case h_2 => cases h
    rename_i pa pb ea eb
    cases h
    obtain ⟨v1, v2⟩ := valsOf_says ea
    obtain ⟨v3, v4⟩ := valsOf_says eb
    unfold bindArgs
    dsimp only
    rw [hpo, hps, hks, hva, hkw]
    simp only [List.map_nil, List.nil_append]
    -- the keywords
    refine wpAny_bind (wpAny_forIn_list _ (fun rest (b : List (Str × Value) × List (Str × Value)) s' => s' = s ∧ ∃ done, kw = done ++ rest ∧ b = (ps.zip pos ++ done, []) ∧ kwOk (ps ++ ks) (ps.zip pos ++ done) rest = true) _ ?_ ?_ _ _ ⟨rfl, [], rfl, by simp, by simpa using hok⟩)
    · rintro ⟨k, v⟩ rest b s' ⟨rfl, done, e1, rfl, ok⟩
      unfold kwOk at ok
      simp only [Bool.and_eq_true] at ok
      obtain ⟨⟨o1, o2⟩, o3⟩ := ok
      have hm : (ps.contains k || ks.contains k) = true := by
        rw [List.contains_append] at o1; exact o1
      have o2' : (List.lookup k (ps.zip pos ++ done)).isSome = false := by
        cases q2 : List.lookup k (ps.zip pos ++ done) with
        | none => rfl
        | some u => rw [q2] at o2; cases o2
      dsimp only
      rw [if_pos hm, o2']
      simp only [Bool.false_eq_true, if_false]
      refine wpAny_bind (wpAny_pure (wpAny_pure ⟨rfl, done ++ [(k, v)], by simp [e1], by simp [List.append_assoc], by simpa [List.append_assoc] using o3⟩))
    · rintro b s' ⟨rfl, done, e1, rfl, ok⟩
      rw [List.append_nil] at e1
      subst e1
      dsimp only
      refine wpAny_bind (hd M A _ E s' (fun _ _ e => e) ?_)
      have ed : ((if ds = [] then none else some ds.toArray).getD #[]).toList = ds := by
        by_cases e : ds = []
        · rw [if_pos e, e]; rfl
        · rw [if_neg e]; rfl
      rw [ed]
      have hgt : (decide (pos.length > ps.length) && (none : Option Arg).isNone) = false := by
        rw [decide_eq_false (by omega)]; rfl
      rw [hgt]
      simp only [Bool.false_eq_true, if_false]
      have e0 : ds.drop (ds.length - ps.length) = ds := by rw [Nat.sub_eq_zero_of_le hdl]; rfl
      rw [e0]
      have hmiss : (List.filter (fun n => (List.lookup n (ps.zip pos ++ kw)).isNone) (List.take (ps.length - ds.length) ps)) = [] := by
        rw [List.filter_eq_nil_iff]
        intro n hn
        have := List.all_eq_true.mp hall n hn
        cases q2 : List.lookup n (ps.zip pos ++ kw) with
        | none => rw [q2] at this; cases this
        | some u => simp
      rw [hmiss]
      simp only [List.isEmpty_nil, Bool.not_true, Bool.false_eq_true, if_false]
      -- the defaults
      refine wpAny_bind (wpAny_forIn_list _ (fun rest (b : List (Str × Value)) t => t = s' ∧ fillP b rest = fillP (ps.zip pos ++ kw) (dflP ps ds)) _ ?_ ?_ _ _ ⟨rfl, rfl⟩)
      · rintro ⟨n, d⟩ rest b t ⟨rfl, e⟩
        dsimp only
        by_cases hn : (List.lookup n b).isNone = true
        · rw [fillP_pos hn] at e
          rw [if_pos hn]
          exact wpAny_pure ⟨rfl, e⟩
        · rw [fillP_neg hn] at e
          rw [if_neg hn]
          exact wpAny_pure ⟨rfl, e⟩
      · rintro b t ⟨rfl, e⟩
        rw [fillP_nil] at e
        subst e
        -- the keyword-only ones
        refine wpAny_bind (wpAny_forIn_list _ (fun rest (b : List (Str × Value) × List Str) u => u = t ∧ b.2 = [] ∧ (∀ n ∈ rest, ((match b.1.lookup n with | some v => some v | none => kds.lookup n)).isSome = true) ∧ fillK kds b.1 rest = fillK kds (fillP (ps.zip pos ++ kw) (dflP ps ds)) ks) _ ?_ ?_ _ _ ⟨rfl, rfl, ?_, rfl⟩)
        · rintro n rest ⟨b1, b2⟩ u ⟨rfl, e2, hn, e⟩
          dsimp only at e2 hn e ⊢
          subst e2
          have h0 := hn n (List.mem_cons_self ..)
          cases q2 : List.lookup n b1 with
          | some v =>
            simp only [Option.isNone_some, Bool.false_eq_true, if_false]
            refine wpAny_pure ⟨rfl, rfl, fun m hm => hn m (List.mem_cons_of_mem _ hm), ?_⟩
            rw [fillK_some q2] at e
            exact e
          | none =>
            rw [q2] at h0
            simp only [Option.isNone_none, if_true]
            obtain ⟨v, hv⟩ := Option.isSome_iff_exists.mp h0
            obtain ⟨D, eD, lk⟩ := hk n v hv
            rw [eD]
            dsimp only
            refine wpAny_bind (lk M A _ E u (fun _ _ e => e) ?_)
            refine wpAny_pure ⟨rfl, rfl, fun m hm => ?_, ?_⟩
            · have := hn m (List.mem_cons_of_mem _ hm)
              dsimp only
              rw [lookup_append]
              cases q3 : List.lookup m b1 with
              | some z => rfl
              | none =>
                rw [q3] at this
                by_cases em : m = n
                · subst em; simp [List.lookup_cons]
                · have e3 : (m == n) = false := by simpa using em
                  simp only [List.lookup_cons, e3]
                  exact this
            · rw [fillK_new q2 hv] at e
              exact e
        · rintro ⟨b1, b2⟩ u ⟨rfl, e2, _, e⟩
          dsimp only at e2 e ⊢
          subst e2
          rw [fillK_nil] at e
          subst e
          simp only [List.isEmpty_nil, Bool.not_true, Bool.false_eq_true, if_false]
          refine wpAny_pure ?_
          have L : ∀ n, List.lookup n (fillK kds (fillP (ps.zip pos ++ kw) (dflP ps ds)) ks) = (match valOf (ps.zip pos ++ kw) (dflP ps ds) n with | some v => some v | none => if n ∈ ks then kds.lookup n else none) := fun n => by
            rw [fillK_lookup, fillP_lookup]
            unfold valOf
            cases List.lookup n (ps.zip pos ++ kw) <;> rfl
          have L2 : ∀ n, n ∈ ks → List.lookup n (fillK kds (fillP (ps.zip pos ++ kw) (dflP ps ds)) ks) = valOf (ps.zip pos ++ kw) (dflP ps ds ++ kds) n := fun n hn => by
            rw [L, if_pos hn]
            unfold valOf
            rw [lookup_append (l := dflP ps ds) (m := kds)]
            cases List.lookup n (ps.zip pos ++ kw) with
            | some v => rfl
            | none => cases List.lookup n (dflP ps ds) <;> rfl
          have F1 : ps.filterMap (fun n => (List.lookup n (fillK kds (fillP (ps.zip pos ++ kw) (dflP ps ds)) ks)).map (n, ·)) = ps.zip pa := by
            have e1 : ∀ n ∈ ps, List.lookup n (fillK kds (fillP (ps.zip pos ++ kw) (dflP ps ds)) ks) = valOf (ps.zip pos ++ kw) (dflP ps ds) n := fun n hn => by
              rw [L]
              obtain ⟨v, hv⟩ := Option.isSome_iff_exists.mp (v1 n hn)
              rw [hv]
            exact fm_zip (f := fun n => List.lookup n (fillK kds (fillP (ps.zip pos ++ kw) (dflP ps ds)) ks)) (fun n hn => by rw [e1 n hn]; exact v1 n hn) (by rw [← v2]; exact List.map_congr_left fun n hn => by rw [e1 n hn])
          have F2 : ks.filterMap (fun n => (List.lookup n (fillK kds (fillP (ps.zip pos ++ kw) (dflP ps ds)) ks)).map (n, ·)) = ks.zip pb :=
            fm_zip (f := fun n => List.lookup n (fillK kds (fillP (ps.zip pos ++ kw) (dflP ps ds)) ks)) (fun n hn => by rw [L2 n hn]; exact v3 n hn) (by rw [← v4]; exact List.map_congr_left fun n hn => by rw [L2 n hn])
          rw [List.filterMap_append, F1, F2]
          have l1 : ps.length = pa.length := by rw [← v2, List.length_map]
          rw [← List.zip_append l1]
          exact q
        · intro n hn
          rw [fillP_lookup]
          have := v3 n hn
          unfold valOf at this
          rw [lookup_append (l := dflP ps ds) (m := kds)] at this
          cases q2 : List.lookup n (ps.zip pos ++ kw) with
          | some v => rfl
          | none =>
            rw [q2] at this
            cases q3 : List.lookup n (dflP ps ds) with
            | some v => rfl
            | none => rw [q3] at this; exact this
  · cases h
end R
namespace R
open PySem L2
section
variable {α β : Type} {ρ : α → β → Prop}
/-- named values, one by one -/
def PairedN (ρ : α → β → Prop) : List (Str × α) → List (Str × β) → Prop := Paired fun p q => p.1 = q.1 ∧ ρ p.2 q.2
def OptR (ρ : α → β → Prop) : Option α → Option β → Prop
  | some a, some b => ρ a b
  | none, none => True
  | _, _ => False
theorem PairedN.zip : ∀ {ns : List Str} {l : List α} {m : List β}, Paired ρ l m → PairedN ρ (ns.zip l) (ns.zip m)
  | [], _, _, _ => by simp [List.zip_nil_left]; exact .nil
  | n :: ns, _, _, .nil => by simp; exact .nil
  | n :: ns, _, _, .cons r t => .cons ⟨rfl, r⟩ (PairedN.zip (ns := ns) t)
theorem PairedN.append : ∀ {l l' : List (Str × α)} {m m' : List (Str × β)}, PairedN ρ l m → PairedN ρ l' m' → PairedN ρ (l ++ l') (m ++ m')
  | _, _, _, _, .nil, s => s
  | _, _, _, _, .cons r t, s => .cons r (PairedN.append t s)
theorem PairedN.lookup {n : Str} : ∀ {l : List (Str × α)} {m : List (Str × β)}, PairedN ρ l m → OptR ρ (l.lookup n) (m.lookup n)
  | _, _, .nil => trivial
  | (a, x) :: l, (b, y) :: m, .cons r t => by
    have e : a = b := r.1
    subst e
    rw [List.lookup_cons, List.lookup_cons]
    cases n == a with
    | true => exact r.2
    | false => exact PairedN.lookup t
theorem OptR.isSome {x : Option α} {y : Option β} (h : OptR ρ x y) : x.isSome = y.isSome := by
  cases x <;> cases y <;> first | rfl | cases h
theorem OptR.isNone {x : Option α} {y : Option β} (h : OptR ρ x y) : x.isNone = y.isNone := by
  cases x <;> cases y <;> first | rfl | cases h
theorem valOf_rel {s d : List (Str × α)} {s' d' : List (Str × β)} (hs : PairedN ρ s s') (hd : PairedN ρ d d') (n : Str) : OptR ρ (valOf s d n) (valOf s' d' n) := by
  unfold valOf
  have h1 := hs.lookup (n := n)
  have h2 := hd.lookup (n := n)
  cases q : s.lookup n <;> cases q' : s'.lookup n <;> rw [q, q'] at h1 <;> first | exact h1 | exact h2 | cases h1
theorem valsOf_rel {s d : List (Str × α)} {s' d' : List (Str × β)} (hs : PairedN ρ s s') (hd : PairedN ρ d d') : ∀ {ns : List Str} {a : List α}, valsOf s d ns = some a → ∃ b, valsOf s' d' ns = some b ∧ Paired ρ a b
  | [], a, h => by cases h; exact ⟨[], rfl, .nil⟩
  | n :: ns, a, h => by
    unfold valsOf at h ⊢
    have h1 := valOf_rel hs hd n
    cases q : valOf s d n with
    | none => rw [q] at h; cases h
    | some v =>
      cases q2 : valsOf s d ns with
      | none => rw [q, q2] at h; cases h
      | some vs =>
        rw [q, q2] at h; cases h
        obtain ⟨b, e, r⟩ := valsOf_rel hs hd q2
        rw [q] at h1
        cases q3 : valOf s' d' n with
        | none => rw [q3] at h1; cases h1
        | some u =>
          rw [q3] at h1
          rw [e]
          exact ⟨u :: b, rfl, .cons h1 r⟩
theorem kwOk_rel {names : List Str} : ∀ {kw : List (Str × α)} {kw' : List (Str × β)} {s : List (Str × α)} {s' : List (Str × β)}, PairedN ρ s s' → PairedN ρ kw kw' → kwOk names s kw = kwOk names s' kw'
  | _, _, _, _, _, .nil => rfl
  | (a, x) :: l, (b, y) :: m, s, s', hs, .cons r t => by
    have e : a = b := r.1
    subst e
    unfold kwOk
    rw [(hs.lookup (n := a)).isNone, kwOk_rel (hs.append (.cons ⟨rfl, r.2⟩ .nil)) t]
theorem Paired.len : ∀ {l : List α} {m : List β}, Paired ρ l m → l.length = m.length
  | _, _, .nil => rfl
  | _, _, .cons _ t => congrArg Nat.succ (Paired.len t)
theorem bindP_rel {g : Sig} {dv : List α} {dv' : List β} {kd : List (Str × α)} {kd' : List (Str × β)} {pos : List α} {pos' : List β} {kw : List (Str × α)} {kw' : List (Str × β)} {a : List α} (h1 : Paired ρ dv dv') (h2 : PairedN ρ kd kd') (h3 : Paired ρ pos pos') (h4 : PairedN ρ kw kw')
    (h : bindP g dv kd pos kw = some a) : ∃ b, bindP g dv' kd' pos' kw' = some b ∧ Paired ρ a b := by
  unfold bindP at h ⊢
  have hs : PairedN ρ (g.ps.zip pos ++ kw) (g.ps.zip pos' ++ kw') := (PairedN.zip h3).append h4
  have hd : PairedN ρ (dflP g.ps dv) (dflP g.ps dv') := by
    unfold dflP
    rw [← Paired.len h1]
    exact PairedN.zip h1
  have e1 : (g.ps.take (g.ps.length - dv.length)).all (fun n => ((g.ps.zip pos ++ kw).lookup n).isSome) = (g.ps.take (g.ps.length - dv'.length)).all (fun n => ((g.ps.zip pos' ++ kw').lookup n).isSome) := by
    rw [Paired.len h1]
    congr 1
    funext n
    exact (hs.lookup (n := n)).isSome
  rw [Paired.len h3, kwOk_rel (PairedN.zip h3) h4, e1] at h
  split at h
  · rename_i hc
    rw [if_pos hc]
    split at h
    · rename_i x y ex ey
      cases h
      obtain ⟨x', ex', rx⟩ := valsOf_rel hs hd ex
      obtain ⟨y', ey', ry⟩ := valsOf_rel hs (hd.append h2) ey
      rw [ex', ey']
      refine ⟨x' ++ y', rfl, ?_⟩
      clear ex ey ex' ey'
      induction rx with
      | nil => exact ry
      | cons r t ih => exact .cons r ih
    · cases h
  · cases h
end
/-- all given by place -/
theorem valsOf_all {α : Type} {d : List (Str × α)} : ∀ {ps : List Str} {us : List α}, us.length = ps.length → ps.Nodup → valsOf (ps.zip us) d ps = some us := by
  have key : ∀ (pre : List (Str × α)) {ps : List Str} {us : List α}, us.length = ps.length → ps.Nodup → (∀ n ∈ ps, pre.lookup n = none) → valsOf (pre ++ ps.zip us) d ps = some us := by
    intro pre ps
    induction ps generalizing pre with
    | nil => intro us hl _ _; cases us with | nil => rfl | cons _ _ => cases hl
    | cons p ps ih =>
      intro us hl nd hp
      cases us with
      | nil => cases hl
      | cons u us =>
        unfold valsOf
        have h1 : valOf (pre ++ (p :: ps).zip (u :: us)) d p = some u := by
          unfold valOf
          rw [lookup_append, hp p (List.mem_cons_self ..)]
          simp [List.lookup_cons]
        have h2 := ih (pre ++ [(p, u)]) (us := us) (by simpa using hl) (List.nodup_cons.mp nd).2 (fun n hn => lookup_snoc_none (hp n (List.mem_cons_of_mem _ hn)) (fun e => (List.nodup_cons.mp nd).1 (e ▸ hn)))
        have e : pre ++ [(p, u)] ++ ps.zip us = pre ++ (p :: ps).zip (u :: us) := by simp
        rw [e] at h2
        rw [h1, h2]
  intro ps us hl nd
  have := key [] hl nd (fun _ _ => rfl)
  simpa using this
theorem bindP_all {α : Type} {ps : List Str} {va kw : Option Str} {dv : List α} {kd : List (Str × α)} {us : List α} (hl : us.length = ps.length) (nd : ps.Nodup) : bindP ⟨ps, [], va, kw⟩ dv kd us [] = some us := by
  unfold bindP
  dsimp only
  have h1 : (ps.take (ps.length - dv.length)).all (fun n => ((ps.zip us ++ []).lookup n).isSome) = true := by
    rw [List.all_eq_true]
    intro n hn
    rw [List.append_nil]
    have hm := List.mem_of_mem_take hn
    clear hn
    induction ps generalizing us with
    | nil => cases hm
    | cons p ps ih =>
      cases us with
      | nil => cases hl
      | cons u us =>
        rw [List.zip_cons_cons, List.lookup_cons]
        cases q : n == p with
        | true => rfl
        | false =>
          rcases List.mem_cons.mp hm with e | hm
          · subst e; simp at q
          · exact ih (by simpa using hl) (List.nodup_cons.mp nd).2 hm
  rw [h1, decide_eq_true (by omega)]
  simp only [List.append_nil, valsOf_all hl nd, kwOk, valsOf, Bool.and_self, if_true]
/-- def f(a, .., *rest) -/
theorem bind_star {fd : FuncData} {s : Shared} {ps : List Str} {a : Arg} {u1 u2 : List Value} {M : Model} {A : Around} {E : Value → Shared → Prop} {Q : List (Str × Value) → Shared → Prop}
    (hpo : fd.params.posonlyargs = []) (hps : fd.params.args.map (·.arg) = ps) (hks : fd.params.kwonlyargs = []) (hva : fd.params.vararg = some a) (hkw : fd.params.kwarg = none) (hd : fd.defaults = .none) (nd : ps.Nodup) (hl : u1.length = ps.length)
    (h : wpAny M A (newTuple u2) (fun t s' => Q (ps.zip u1 ++ [(a.arg, t)]) s') E s) : wpAny M A (bindArgs fd ⟨u1 ++ u2, []⟩) Q E s := by
  have hz : ps.zip (u1 ++ u2) = ps.zip u1 := by
    clear h nd hps
    induction ps generalizing u1 with
    | nil => rfl
    | cons p ps ih =>
      cases u1 with
      | nil => cases hl
      | cons x u1 =>
        rw [List.cons_append, List.zip_cons_cons, List.zip_cons_cons, ih (by simpa using hl)]
  have va := valsOf_all (d := []) hl nd
  obtain ⟨v1, v2⟩ := valsOf_says va
  have L : ∀ n, valOf (ps.zip u1) ([] : List (Str × Value)) n = List.lookup n (ps.zip u1) := fun n => by
    unfold valOf
    cases List.lookup n (ps.zip u1) <;> rfl
  unfold bindArgs
  dsimp only
  rw [hpo, hps, hks, hva, hkw, hd]
  simp only [List.map_nil, List.nil_append, List.forIn_nil, pure_bind, Option.isNone_some, Bool.and_false, Bool.false_eq_true, if_false]
  have e0 : seqItems? Value.none = pure none := rfl
  rw [e0, pure_bind]
  have hmiss : (List.filter (fun n => (List.lookup n (ps.zip (u1 ++ u2))).isNone) (List.take ps.length ps)) = [] := by
    rw [List.filter_eq_nil_iff]
    intro n hn
    have := v1 n (List.mem_of_mem_take hn)
    rw [L] at this
    rw [hz]
    cases q2 : List.lookup n (ps.zip u1) with
    | none => rw [q2] at this; cases this
    | some u => simp
  simp only [Option.getD_none, List.toList_toArray, List.length_nil, Nat.zero_sub, List.drop_zero, Nat.sub_zero, hmiss, List.isEmpty_nil, Bool.not_true, Bool.false_eq_true, if_false, List.zip_nil_right, List.forIn_nil, pure_bind, List.append_nil]
  refine wpAny_bind ?_
  have F1 : ps.filterMap (fun n => (List.lookup n (ps.zip (u1 ++ u2))).map (n, ·)) = ps.zip u1 := by
    rw [hz]
    exact fm_zip (f := fun n => List.lookup n (ps.zip u1)) (fun n hn => by rw [← L]; exact v1 n hn) ((List.map_congr_left fun n _ => by rw [L]).trans v2)
  have ed : (u1 ++ u2).drop ps.length = u2 := by rw [← hl, List.drop_left]
  rw [ed, F1]
  exact wpAny_mono h (fun t s' q => wpAny_pure q) (fun _ _ e => e)
end R
namespace R
open PySem L2

/-- what a for walks -/
inductive IK where
  | seq | range1 | range2 | enum | zip | items | keys
  deriving DecidableEq, Inhabited
/-- targets -/
inductive MT where
  | name (i : Nat)
  | tup (ts : List MT)
  deriving Inhabited
/-- built-in functions, by values -/
inductive Prim where
  | len | abs | int | max2 | min2 | repr | tuple | list | listF | sorted | sortedSet | all | any | str | maxL
  deriving DecidableEq, Inhabited
/-- methods of built-in types -/
inductive BM where
  | append | extend | clear | reverse | index | get | items | split | join | setdefault
  deriving DecidableEq, Inhabited
inductive ME where
  | var (i : Nat)
  | lit (d : D)
  | bin (op : Operator) (a b : ME)
  | neg (a : ME)
  | cmp (op : CmpOp) (a b : ME)
  | cmp2 (op1 op2 : CmpOp) (a b c : ME)
  | and (a b : ME)
  | or (a b : ME)
  | not (a : ME)
  | ite (c a b : ME)
  | tup (es : List (Bool × ME))
  /-- a list; is it one that nobody will write -/
  | lst (fz : Bool) (es : List (Bool × ME))
  | ix (a i : ME)
  | sl (a : ME) (lo hi : Option ME)
  | call (f : Nat) (es : List ME)
  | prim (p : Prim) (es : List ME)
  | bm (m : BM) (o : ME) (es : List ME)
  | isi (a b : ME)
  | attr (o : ME) (f : Str)
  | meth (o : ME) (m : Str) (es : List ME)
  | mk (c : Nat) (es : List ME)
  | mkx (c : Nat) (f : Str) (e : ME)
  | mkx0 (c : Nat)
  | dict (kvs : List (ME × ME))
  | lc (fz : Bool) (elt : ME) (t : MT) (k : IK) (its : List ME) (cs : List ME) (own : List Nat)
  | bad
  deriving Inhabited

inductive Flow where
  | nx (ms : MSt) | rt (d : D) | bk (ms : MSt) | ct (ms : MSt)
  /-- an error of the c-th class, its fields, the slots where it was raised -/
  | xc (c : Nat) (fs : List (Str × D)) (ms : MSt)
/-- a statement goes on with a part's value; the part's error is the statement's -/
def Res.cat {α : Type} (ms : MSt) : Res α → (α → MH → Res Flow) → Res Flow
  | .ok a h, f => f a h
  | .exc c fs h, _ => .ok (.xc c fs ms) h
  | .bad, _ => .bad

/-- a def's parameters with its defaults -/
structure SigD where
  ps : List Str
  ks : List Str
  va : Bool
  kw : Bool
  dfl : List D
  kwd : List (Str × D)
  deriving Inhabited
/-- the parameters' values of a call -/
def bindD (g : SigD) (pos : List D) (kw : List (Str × D)) : Option (List D) :=
  if kw.isEmpty && g.ks.isEmpty && !g.va && !g.kw && decide (pos.length = g.ps.length) then some pos
  else match g.va, g.kw with
    | false, false => bindP ⟨g.ps, g.ks, none, none⟩ g.dfl g.kwd pos kw
    | true, false => if kw.isEmpty && g.ks.isEmpty && g.dfl.isEmpty && decide (g.ps.length ≤ pos.length) && decide (pos.length ≤ sizeLine) then some (pos.take g.ps.length ++ [.tup (pos.drop g.ps.length)]) else none
    | false, true => none
    | true, true => none
/-- the text: what is called by its number; methods and properties by the class; the fields' reader -/
structure Cal where
  fn : Nat → List D → MH → Res D
  sig : Nat → SigD
  /-- the def of a method -/
  meth : Nat → Str → Option Nat
  /-- the def of a property -/
  prop : Nat → Str → Option Nat
  init : Nat → Option Nat
  /-- is an instance of the one class an instance of the other -/
  kit : Sum String Nat → Sum String Nat → Option Bool
  /-- own classes of errors; their fields' names that are no names of the class -/
  xc : Nat → Bool
  xf : Nat → Str → Bool

/-- a call of the i-th def -/
def Cal.callf (C : Cal) (i : Nat) (pos : List D) (kw : List (Str × D)) (h : MH) : Res D := match bindD (C.sig i) pos kw with
  | some ds => C.fn i ds h
  | none => .bad
def evs (f : ME → MH → Res D) : List ME → MH → Res (List D)
  | [], h => .ok [] h
  | e :: es, h => (f e h).bind fun d h => (evs f es h).bind fun ds h => .ok (d :: ds) h
/-- a display's items, some with a star -/
def evStar (f : ME → MH → Res D) : List (Bool × ME) → MH → Res (List D)
  | [], h => .ok [] h
  | (b, e) :: es, h => (f e h).bind fun d h => if b then (match itemsD d h with
      | some xs => (evStar f es h).bind fun ds h => .ok (xs ++ ds) h
      | none => .bad) else (evStar f es h).bind fun ds h => .ok (d :: ds) h
def evO (f : ME → MH → Res D) : Option ME → MH → Res (Option Int)
  | none, h => .ok none h
  | some e, h => (f e h).bind fun d h => match d with
    | .int i => .ok (some i) h
    | _ => .bad
def slD (x : D) (lo hi : Option Int) (h : MH) : Res D := match x with
  | .tup ds => .ok (.tup (cutD ds lo hi)) h
  | .scr ds => .ok (.flst (cutD ds lo hi)) h
  | x => match lstD x h with
    | some ds => .ok (.flst (cutD ds lo hi)) h
    | none => .bad
def truR (d : D) (h : MH) : Res Bool := match truD d h with
  | some b => .ok b h
  | none => .bad

/-- a target's store -/
def asgT : Nat → MT → D → MH → MSt → Option MSt
  | 0, _, _, _, _ => none
  | n + 1, t, d, h, ms => match t with
    | .name i => some (ms.set i (some d))
    | .tup ts => match itemsD d h with
      | some ds => asgTs (asgT n) ts ds h ms
      | none => none
where asgTs (f : MT → D → MH → MSt → Option MSt) : List MT → List D → MH → MSt → Option MSt
  | [], [], _, ms => some ms
  | t :: ts, d :: ds, h, ms => match f t d h ms with
    | some ms' => asgTs f ts ds h ms'
    | none => none
  | _, _, _, _ => none

/-- what is walked -/
inductive MIt where
  | list (n : Nat) | vals (ds : List D) | rng (lo : Int) (n : Nat) | enumL (n : Nat) | enumV (ds : List D) | zipLL (n m : Nat)
def MIt.at (it : MIt) (i : Nat) (h : MH) : Option (Option D) := match it with
  | .list n => match h.get n with
    | some (.lst xs) => some xs[i]?
    | _ => none
  | .vals ds => some ds[i]?
  | .rng lo n => some (if i < n then some (.int (lo + i)) else none)
  | .enumL n => match h.get n with
    | some (.lst xs) => some (xs[i]?.map fun d => .tup [.int i, d])
    | _ => none
  | .enumV ds => some (ds[i]?.map fun d => .tup [.int i, d])
  | .zipLL n m => match h.get n, h.get m with
    | some (.lst xs), some (.lst ys) => match xs[i]?, ys[i]? with
      | some x, some y => some (some (.tup [x, y]))
      | none, _ => some none
      | some _, none => some none
    | _, _ => none
def MIt.len (it : MIt) (h : MH) : Nat := match it with
  | .list n => match h.get n with
    | some (.lst xs) => xs.length
    | _ => 0
  | .vals ds => ds.length
  | .rng _ n => n
  | .enumL n => match h.get n with
    | some (.lst xs) => xs.length
    | _ => 0
  | .enumV ds => ds.length
  | .zipLL n _ => match h.get n with
    | some (.lst xs) => xs.length
    | _ => 0
def iterOf (k : IK) (ds : List D) (h : MH) : Option MIt := match k, ds with
  | .seq, [.tup xs] => some (.vals xs)
  | .seq, [.scr xs] => some (.vals xs)
  | .seq, [.flst xs] => some (.vals xs)
  | .seq, [.ref n] => match h.get n with
    | some (.lst _) => some (.list n)
    | _ => none
  | .range1, [.int j] => if ltB 61 j then some (.rng 0 j.toNat) else none
  | .range2, [.int i, .int j] => if ltB 61 i && ltB 61 j then some (.rng i (j - i).toNat) else none
  | .enum, [.flst xs] => some (.enumV xs)
  | .enum, [.ref n] => match h.get n with
    | some (.lst _) => some (.enumL n)
    | _ => none
  | .zip, [.ref n, .ref m] => match h.get n, h.get m with
    | some (.lst _), some (.lst _) => some (.zipLL n m)
    | _, _ => none
  | _, _ => none

def wipeM (ms : MSt) : List Nat → MSt
  | [] => ms
  | v :: vs => (wipeM ms vs).set v none
/-- the tests of a clause -/
def conds (f : ME → MH → Res D) : List ME → MH → Res Bool
  | [], h => .ok true h
  | c :: cs, h => (f c h).bind fun d h => (truR d h).bind fun b h => if b then conds f cs h else .ok false h
/-- the turns of a list comprehension: the list at L; a turn's error is no answer -/
def lcL (it : MIt) (L : Nat) (turn : D → MH → Res (Option D)) : Nat → Nat → MH → Res Unit
  | 0, _, _ => .bad
  | m + 1, i, h => match it.at i h with
    | none => .bad
    | some none => .ok () h
    | some (some d) => match turn d h with
      | .ok none h => lcL it L turn m (i + 1) h
      | .ok (some y) h => match h.get L with
        | some (.lst acc) => if acc.length < sizeLine then lcL it L turn m (i + 1) (h.set L (.lst (acc ++ [y]))) else .bad
        | _ => .bad
      | _ => .bad

/-- the same, of a list that nobody will write -/
def lcP (it : MIt) (turn : D → MH → Res (Option D)) : Nat → Nat → List D → MH → Res (List D)
  | 0, _, _, _ => .bad
  | m + 1, i, acc, h => match it.at i h with
    | none => .bad
    | some none => .ok acc h
    | some (some d) => match turn d h with
      | .ok none h => lcP it turn m (i + 1) acc h
      | .ok (some y) h => if acc.length < sizeLine then lcP it turn m (i + 1) (acc ++ [y]) h else .bad
      | _ => .bad
/-- a turn of a comprehension: the target's store, the tests, the element -/
def turnL (asg : MT → D → MH → MSt → Option MSt) (cnd : MSt → MH → Res Bool) (elt : MSt → MH → Res D) (t : MT) (ms : MSt) (d : D) (h : MH) : Res (Option D) := match asg t d h ms with
  | none => .bad
  | some ms' => (cnd ms' h).bind fun b h => if b then (elt ms' h).bind fun y h => .ok (some y) h else .ok none h
/-- a value's class -/
def tyD (x : D) (h : MH) : Option (Sum String Nat) := match x with
  | .none => some (.inl "NoneType")
  | .bool _ => some (.inl "bool")
  | .int _ => some (.inl "int")
  | .str _ => some (.inl "str")
  | .tup _ => some (.inl "tuple")
  | .scr _ => some (.inl "list")
  | .flst _ => some (.inl "list")
  | .fdk _ _ => some (.inl "dict")
  | .obj c _ _ => some (.inr c)
  | .exv c _ _ => some (.inr c)
  | .ref n => match h.get n with
    | some (.lst _) => some (.inl "list")
    | some (.dk _) => some (.inl "dict")
    | some (.ins c _) => some (.inr c)
    | none => Option.none
  | _ => Option.none
def kitAnyD (kit : Sum String Nat → Sum String Nat → Option Bool) (t : Sum String Nat) : List (Sum String Nat) → Option Bool
  | [] => some false
  | u :: us => match kit t u with
    | some true => some true
    | some false => kitAnyD kit t us
    | none => none
def clsD : D → Option (Sum String Nat)
  | .cl c => some (.inr c)
  | .ty t => some (.inl t)
  | _ => none
def tyC (C : Cal) (x : D) (h : MH) : Option (Sum String Nat) := match x with
  | .exv c _ _ => if C.xc c then some (.inr c) else none
  | x => match tyD x h with
    | some (.inl t) => some (.inl t)
    | _ => none
def isiD (C : Cal) (x y : D) (h : MH) : Res D := match tyC C x h, clsD y with
  | some t, some u => retB (C.kit t u) h
  | _, _ => .bad
def fldD : List Str → List D → Str → Option D
  | n :: ns, d :: ds, f => if n = f then some d else fldD ns ds f
  | _, _, _ => none
def attrD (C : Cal) (x : D) (f : Str) (h : MH) : Res D := match x with
  | .exv c ns ds => if C.xc c && C.xf c f then (match fldD ns ds f with
    | some d => .ok d h
    | none => .bad) else .bad
  | _ => .bad
def boolsD : List D → Option (List Bool)
  | [] => some []
  | .bool b :: ds => (boolsD ds).map (b :: ·)
  | _ :: _ => none
def lenD (x : D) (h : MH) : Res D := match x with
  | .str s => if s.length ≤ sizeLine then .ok (.int s.length) h else .bad
  | x => match itemsD x h with
    | some ds => .ok (.int ds.length) h
    | none => match dkD x h with
      | some kvs => .ok (.int kvs.length) h
      | none => .bad
def primD : Prim → List D → MH → Res D
  | .len, [x], h => lenD x h
  | .abs, [.int i], h => .ok (.int (if i < 0 then -i else i)) h
  | .int, [x], h => match x with
    | .int i => .ok (.int i) h
    | .bool b => .ok (.int (if b then 1 else 0)) h
    | _ => .bad
  | .max2, [.int i, .int j], h => .ok (.int (if j > i then j else i)) h
  | .min2, [.int i, .int j], h => .ok (.int (if j < i then j else i)) h
  | .tuple, [x], h => match itemsD x h with
    | some ds => .ok (.tup ds) h
    | none => .bad
  | .list, [x], h => match itemsD x h with
    | some ds => newL ds h
    | none => .bad
  | .listF, [x], h => match itemsD x h with
    | some ds => newF ds h
    | none => .bad
  | .all, [x], h => match lstD x h with
    | some xs => match boolsD xs with
      | some bs => .ok (.bool (bs.all id)) h
      | none => .bad
    | none => .bad
  | .any, [x], h => match lstD x h with
    | some xs => match boolsD xs with
      | some bs => .ok (.bool (bs.any id)) h
      | none => .bad
    | none => .bad
  | .repr, [x], h => match deepS h x with
    | some p => if p.showable && !p.hasDict && decide (p.depth ≤ 60) && decide (p.shown.length ≤ sizeLine) then .ok (.str p.shown) h else .bad
    | none => .bad
  | _, _, _ => .bad

def ev (C : Cal) : Nat → ME → MSt → MH → Res D
  | 0, _, _, _ => .bad
  | n + 1, e, ms, h => match e with
    | .var i => match ms[i]? with
      | some (some d) => .ok d h
      | _ => .bad
    | .lit d => .ok d h
    | .bin op a b => (ev C n a ms h).bind fun x h => (ev C n b ms h).bind fun y h => binD op x y h
    | .neg a => (ev C n a ms h).bind fun x h => match x with
      | .int i => .ok (.int (-i)) h
      | _ => .bad
    | .cmp op a b => (ev C n a ms h).bind fun x h => (ev C n b ms h).bind fun y h => cmpD op x y h
    | .cmp2 op1 op2 a b c => (ev C n a ms h).bind fun x h => (ev C n b ms h).bind fun y h => (cmpD op1 x y h).bind fun r h => match r with
      | .bool true => (ev C n c ms h).bind fun z h => cmpD op2 y z h
      | .bool false => .ok (.bool false) h
      | _ => .bad
    | .and a b => (ev C n a ms h).bind fun x h => (truR x h).bind fun t h => if t then ev C n b ms h else .ok x h
    | .or a b => (ev C n a ms h).bind fun x h => (truR x h).bind fun t h => if t then .ok x h else ev C n b ms h
    | .not a => (ev C n a ms h).bind fun x h => (truR x h).bind fun t h => .ok (.bool (!t)) h
    | .ite c a b => (ev C n c ms h).bind fun x h => (truR x h).bind fun t h => if t then ev C n a ms h else ev C n b ms h
    | .tup es => (evStar (fun e h => ev C n e ms h) es h).bind fun ds h => if ds.length ≤ sizeLine then .ok (.tup ds) h else .bad
    | .lst fz es => (evStar (fun e h => ev C n e ms h) es h).bind fun ds h => if fz then newF ds h else newL ds h
    | .ix a i => (ev C n a ms h).bind fun x h => (ev C n i ms h).bind fun y h => ixD x y h
    | .sl a lo hi => (ev C n a ms h).bind fun x h => (evO (fun e h => ev C n e ms h) lo h).bind fun l h => (evO (fun e h => ev C n e ms h) hi h).bind fun u h => slD x l u h
    | .call f es => (evs (fun e h => ev C n e ms h) es h).bind fun ds h => C.callf f ds [] h
    | .prim p es => (evs (fun e h => ev C n e ms h) es h).bind fun ds h => primD p ds h
    | .isi a b => (ev C n a ms h).bind fun x h => (ev C n b ms h).bind fun y h => isiD C x y h
    | .attr a f => (ev C n a ms h).bind fun x h => attrD C x f h
    | .mkx c f e => (ev C n e ms h).bind fun x h => .ok (.exv c [f] [x]) h
    | .mkx0 c => .ok (.exv c [] []) h
    | .lc true elt t k its cs own => (evs (fun e h => ev C n e ms h) its h).bind fun ds h => match iterOf k ds h with
      | none => .bad
      | some it => (lcP it (turnL (asgT n) (fun ms h => conds (fun e h => ev C n e ms h) cs h) (ev C n elt) t (wipeM ms own)) (it.len h + 1) 0 [] h).bind fun ds h' => .ok (.flst ds) h'
    | .lc false elt t k its cs own => (evs (fun e h => ev C n e ms h) its h).bind fun ds h => match iterOf k ds h with
      | none => .bad
      | some it => (lcL it h.next (turnL (asgT n) (fun ms h => conds (fun e h => ev C n e ms h) cs h) (ev C n elt) t (wipeM ms own)) (it.len h + 1) 0 (h.push (.lst []))).bind fun _ h' => .ok (.ref h.next) h'
    | _ => .bad

inductive MS where
  | expr (e : ME)
  | asg (t : MT) (e : ME)
  | setIx (o i v : ME)
  | setAttr (o : ME) (f : Str) (v : ME)
  | ret (e : ME)
  | ite (c : ME) (a b : List MS)
  | for_ (t : MT) (k : IK) (its : List ME) (body : List MS)
  | pass | brk | cont | bad
  deriving Inhabited

def setIxD (o i v : D) (h : MH) : Res Unit := match o with
  | .ref n => match h.get n with
    | some (.lst xs) => match i with
      | .int k => match ixN xs.length k with
        | some j => .ok () (h.set n (.lst (xs.set j v)))
        | none => .bad
      | _ => .bad
    | _ => .bad
  | _ => .bad
/-- behind a turn of a loop: k goes on -/
def flowK (k : MSt → MH → Res Flow) : Flow → MH → Res Flow
  | .nx ms, h => k ms h
  | .ct ms, h => k ms h
  | .bk ms, h => .ok (.nx ms) h
  | .rt d, h => .ok (.rt d) h
  | .xc c fs ms, h => .ok (.xc c fs ms) h
def forL (it : MIt) (turn : D → MSt → MH → Res Flow) : Nat → Nat → MSt → MH → Res Flow
  | 0, _, _, _ => .bad
  | m + 1, i, ms, h => match it.at i h with
    | none => .bad
    | some none => .ok (.nx ms) h
    | some (some d) => (turn d ms h).bind (flowK (forL it turn m (i + 1)))
/-- a turn: the target's store, the body -/
def turnF (asg : MT → D → MH → MSt → Option MSt) (body : MSt → MH → Res Flow) (t : MT) (d : D) (ms : MSt) (h : MH) : Res Flow := match asg t d h ms with
  | none => .bad
  | some ms' => body ms' h
def exs (f : MS → MSt → MH → Res Flow) : List MS → MSt → MH → Res Flow
  | [], ms, h => .ok (.nx ms) h
  | s :: ss, ms, h => (f s ms h).bind fun r h => match r with
    | .nx ms => exs f ss ms h
    | .rt d => .ok (.rt d) h
    | .bk ms => .ok (.bk ms) h
    | .ct ms => .ok (.ct ms) h
    | .xc c fs ms => .ok (.xc c fs ms) h
def ex (C : Cal) : Nat → MS → MSt → MH → Res Flow
  | 0, _, _, _ => .bad
  | n + 1, s, ms, h => match s with
    | .expr e => (ev C n e ms h).cat ms fun _ h => .ok (.nx ms) h
    | .asg t e => (ev C n e ms h).cat ms fun d h => match asgT n t d h ms with
      | some ms' => .ok (.nx ms') h
      | none => .bad
    | .setIx o i v => (ev C n v ms h).cat ms fun x h => (ev C n o ms h).cat ms fun y h => (ev C n i ms h).cat ms fun z h => (setIxD y z x h).cat ms fun _ h => .ok (.nx ms) h
    | .ret e => (ev C n e ms h).cat ms fun d h => .ok (.rt d) h
    | .ite c a b => (ev C n c ms h).cat ms fun x h => (truR x h).cat ms fun t h => if t then exs (ex C n) a ms h else exs (ex C n) b ms h
    | .for_ t k its body => (evs (fun e h => ev C n e ms h) its h).cat ms fun ds h => match iterOf k ds h with
      | none => .bad
      | some it => forL it (turnF (asgT n) (exs (ex C n) body) t) (it.len h + 1) 0 ms h
    | .pass => .ok (.nx ms) h
    | .brk => .ok (.bk ms) h
    | .cont => .ok (.ct ms) h
    | _ => .bad

mutual
/-- all objects that a value names are below k -/
def bnd (k : Nat) : D → Bool
  | .tup ds => bnds k ds
  | .scr ds => bnds k ds
  | .flst ds => bnds k ds
  | .fdk _ ds => bnds k ds
  | .obj _ _ ds => bnds k ds
  | .exv _ _ ds => bnds k ds
  | .ref n => decide (n < k)
  | _ => true
def bnds (k : Nat) : List D → Bool
  | [] => true
  | d :: ds => bnd k d && bnds k ds
end
def bndO (k : Nat) : MO → Bool
  | .lst ds => bnds k ds
  | .dk kvs => bnds k (kvs.map (·.2))
  | .ins _ fs => bnds k (fs.map (·.2))
/-- a value whose new objects (k and above) nobody writes any more -/
def frzD (h : MH) (k : Nat) : Nat → D → Option D
  | 0, _ => none
  | n + 1, d => match d with
    | .tup ds => (mapO (frzD h k n) ds).map .tup
    | .scr ds => (mapO (frzD h k n) ds).map .scr
    | .flst ds => (mapO (frzD h k n) ds).map .flst
    | .fdk ks ds => (mapO (frzD h k n) ds).map (.fdk ks)
    | .obj c ns ds => (mapO (frzD h k n) ds).map (.obj c ns)
    | .exv c ns ds => (mapO (frzD h k n) ds).map (.exv c ns)
    | .ref m => if m < k then some (.ref m) else match h.get m with
      | some (.lst ds) => (mapO (frzD h k n) ds).map .flst
      | some (.dk kvs) => (mapO (frzD h k n) (kvs.map (·.2))).map (.fdk (kvs.map (·.1)))
      | some (.ins c fs) => (mapO (frzD h k n) (fs.map (·.2))).map (.obj c (fs.map (·.1)))
      | none => none
    | d => some d
/-- the heap without the new objects -/
def gcH (k : Nat) (h : MH) : MH := ⟨k, h.objs.filter fun p => decide (p.1 < k)⟩
def MH.wfB (h : MH) : Bool := h.objs.all fun p => decide (p.1 < h.next) && bndO h.next p.2
def gcR (k : Nat) : Res D → Res D
  | .ok d h => match frzD h k 60 d with
    | some d' => if (gcH k h).wfB then .ok d' (gcH k h) else .bad
    | none => .bad
  | .exc c fs h => match mapO (frzD h k 60) (fs.map (·.2)) with
    | some ds => if (gcH k h).wfB then .exc c ((fs.map (·.1)).zip ds) (gcH k h) else .bad
    | none => .bad
  | .bad => .bad

/-- a def: how many names, its body; are its answer's new objects such that nobody writes them any more -/
structure MF where
  slots : Nat
  body : List MS
  gc : Bool := false
/-- the text -/
structure MP where
  fns : List MF
  sigs : List SigD
  meth : Nat → Str → Option Nat
  prop : Nat → Str → Option Nat
  init : Nat → Option Nat
  kit : Sum String Nat → Sum String Nat → Option Bool
  xc : Nat → Bool
  xf : Nat → Str → Bool
def startM (slots : Nat) (ds : List D) : MSt := ds.map some ++ List.replicate (slots - ds.length) none
def runB (C : Cal) (f : MF) (ds : List D) (h : MH) : Res D := match exs (ex C 60) f.body (startM f.slots ds) h with
  | .ok (.rt d) h => .ok d h
  | .ok (.nx _) h => .ok .none h
  | .ok (.xc c fs _) h => .exc c fs h
  | _ => .bad
def runF (C : Cal) (f : MF) (ds : List D) (h : MH) : Res D := if f.gc then gcR h.next (runB C f ds h) else runB C f ds h
def MP.sig (P : MP) (i : Nat) : SigD := (P.sigs[i]?).getD default
def cal (P : MP) : Nat → Cal
  | 0 => ⟨fun _ _ _ => .bad, P.sig, P.meth, P.prop, P.init, P.kit, P.xc, P.xf⟩
  | n + 1 => ⟨fun f ds h => match P.fns[f]? with
    | some F => runF (cal P n) F ds h
    | none => .bad, P.sig, P.meth, P.prop, P.init, P.kit, P.xc, P.xf⟩
end R
namespace R
open PySem L2

/-- what a module's name is -/
inductive GV where
  | fn (i : Nat) | cl (c : Nat) | dat (d : D)
/-- what is known of the text ahead of a run: the names by slot, the scope, the module's names, the names that it does not bind -/
structure Sc where
  N : List Str
  scope : Scope
  globs : List (Str × GV)
  nob : List Str
  /-- how many defs -/
  nf : Nat
  /-- the names that may be stored here -/
  sto : Str → Bool
  /-- the defs that ask that no repr is under way; does this text ask it -/
  gf : Nat → Bool
  gr : Bool
  /-- the classes of errors that may be made: by one argument that is stored in a field, by none -/
  mkx : Nat → Option (Option Str)
  /-- where lists are made that will be written -/
  mu : Pos → Bool

/-- what a def promises, as FnOk, where no repr is under way (g) -/
structure FnG (g : Bool) (P : Program) (w : World) (K : PySem.W.Frag) (mg : Str → Option Value) (base : Heap) (CX : CXT) (k : Nat) (f : Addr) (fd : FuncData) (ps : List Str) (sp : Sp) : Prop where
  len : ∀ vs H Q E, sp vs H Q E → vs.length = ps.length
  run : ∀ (A : Around) (outer : List Env) (s : Shared) (H : Hp) (args : Args) (us : List Value) (vs : List V) (Q : VK) (E : XK), (g = true → A.guards = some []) → Room k A → Env0 P w K mg base A outer s H → BindsTo s fd args (ps.zip us) → Vals vs us → sp vs H Q E →
    codeAny (model P w) A (.call (.ref f) args) (CR CX outer P w H s Q E) s
theorem FnG.mono {g : Bool} {P : Program} {w : World} {K : PySem.W.Frag} {mg : Str → Option Value} {base : Heap} {CX : CXT} {j k : Nat} {f : Addr} {fd : FuncData} {ps : List Str} {sp : Sp} (F : FnG g P w K mg base CX j f fd ps sp) (h : j ≤ k) : FnG g P w K mg base CX k f fd ps sp :=
  ⟨F.len, fun A outer s H args us vs Q E hg hr => F.run A outer s H args us vs Q E hg (hr.mono h)⟩
theorem FnG.ok {P : Program} {w : World} {K : PySem.W.Frag} {mg : Str → Option Value} {base : Heap} {CX : CXT} {k : Nat} {f : Addr} {fd : FuncData} {ps : List Str} {sp : Sp} (F : FnG false P w K mg base CX k f fd ps sp) : FnOk P w K mg base CX k f fd ps sp :=
  ⟨F.len, fun A outer s H args us vs Q E => F.run A outer s H args us vs Q E (fun z => by cases z)⟩

/-- what a call of a def promises: values by place and by name -/
abbrev SpC := List V → List (Str × V) → Hp → VK → XK → Prop
structure FnC (g : Bool) (P : Program) (w : World) (K : PySem.W.Frag) (mg : Str → Option Value) (base : Heap) (CX : CXT) (k : Nat) (f : Addr) (sp : SpC) : Prop where
  run : ∀ (A : Around) (outer : List Env) (s : Shared) (H : Hp) (us : List Value) (kws : List (Str × Value)) (vs : List V) (kvs : List (Str × V)) (Q : VK) (E : XK), (g = true → A.guards = some []) → Room k A → Env0 P w K mg base A outer s H → Vals vs us → PairedN RelV kvs kws → sp vs kvs H Q E →
    codeAny (model P w) A (.call (.ref f) ⟨us, kws⟩) (CR CX outer P w H s Q E) s
abbrev WxE (Γ : G) (W : WX) (σ : St) : Nat → List (Str × D) → Vw → MH → Prop := fun c fs w' _ => ∀ cls d, ExcR Γ w' c fs cls d → W cls d σ w'.H
/-- the promise of a def's body: what the evaluator says -/
def spF (Γ : G) (C : Cal) (ar i : Nat) : Sp := fun vs H Q E => ∃ w h ds, w.H = H ∧ Sim Γ w h ∧ Reps Γ w ds vs ∧ ds.length = ar ∧
  Aft Γ w (C.fn i ds h) (Val Γ Q) (fun c fs w' _ => ∀ cls d, ExcR Γ w' c fs cls d → E cls d w'.H)
/-- the promise of a def's call -/
def spC (Γ : G) (C : Cal) (i : Nat) : SpC := fun vs kvs H Q E => ∃ w h ds kds, w.H = H ∧ Sim Γ w h ∧ Reps Γ w ds vs ∧ PairedN (Rep Γ w) kds kvs ∧
  Aft Γ w (C.callf i ds kds h) (Val Γ Q) (fun c fs w' _ => ∀ cls d, ExcR Γ w' c fs cls d → E cls d w'.H)

def G.tv (Γ : G) : Sum String Nat → Value
  | .inl t => .type t
  | .inr c => .ref (Γ.ca c)
structure Fit (S : Sc) (Γ : G) (X : Cx) (C : Cal) (W : WX) : Prop where
  K : X.K = Γ.K
  N : X.N = S.N
  sc : X.env.scope = S.scope
  kind : S.scope.kind = .function
  nd : S.N.Nodup
  calm : X.calm = true
  tk : Takes X W
  po : PassesOwn (model X.prog X.w) X.A X.env X.xe
  un : X.A.units + 65 < cLine
  own : ∀ x, S.sto x = true → Loc S.scope x → X.fn x = true ∨ S.scope.names.lookup x = some .local
  gl : ∀ x i, S.globs.lookup x = some (.fn i) → X.mg x = some (.ref (Γ.fa i)) ∧ PySem.W.keepIn X.K (.ref (Γ.fa i)) = true
  gd : ∀ x d, S.globs.lookup x = some (.dat d) → ∃ u, X.mg x = some u ∧ ∀ w, ∃ v, RelV v u ∧ Rep Γ w d v
  gn : ∀ x, x ∈ S.nob → X.mg x = none
  fns : ∀ i, i < S.nf → ∃ k, FnC (S.gf i) X.prog X.w X.K X.mg X.base (L2.CX X.prog X.w) k (Γ.fa i) (spC Γ C i) ∧ Room k X.A
  gi : ∀ x i, S.globs.lookup x = some (.fn i) → i < S.nf
  gr : S.gr = true → X.A.guards = some []
  rm : Room 4 X.A
  gc : ∀ x c, S.globs.lookup x = some (.cl c) → X.mg x = some (.ref (Γ.ca c)) ∧ PySem.W.keepIn X.K (.ref (Γ.ca c)) = true
  kit : ∀ t u b, C.kit t u = some b → PySem.W.kitOne Γ.K (Γ.tv t) (Γ.tv u) = some b
  xc : ∀ c, C.xc c = true → XcF Γ.K (Γ.ca c)
  xf : ∀ c f, C.xf c f = true → PySem.W.findIn Γ.K (.ref (Γ.ca c)) f = some none
  mk1 : ∀ c f, S.mkx c = some (some f) → XMk X (Γ.ca c) f
  mk0 : ∀ c, S.mkx c = some none → XMk0 X.K (Γ.ca c)

section
variable {S : Sc} {Γ : G} {X : Cx} {C : Cal} {W : WX}

def tE (Γ : G) (C : Cal) (W : WX) (n : Nat) (e : ME) : TE := fun σ H Q => ∃ w ms h, w.H = H ∧ Sim Γ w h ∧ Slt Γ w ms σ ∧ Aft Γ w (ev C n e ms h) (Val Γ Q) (WxE Γ W σ)
def tT (Γ : G) (C : Cal) (W : WX) (n : Nat) (e : ME) : TT := fun σ H Q => ∃ w ms h, w.H = H ∧ Sim Γ w h ∧ Slt Γ w ms σ ∧ Aft Γ w ((ev C n e ms h).bind truR) (fun b w' _ => Q b w'.H) (WxE Γ W σ)
abbrev Vals' (Γ : G) (Q : List V → Hp → Prop) : List D → Vw → MH → Prop := fun ds w' _ => ∀ vs, Reps Γ w' ds vs → Q vs w'.H
def tA (Γ : G) (C : Cal) (W : WX) (n : Nat) (es : List ME) : TA := fun σ H Q => ∃ w ms h, w.H = H ∧ Sim Γ w h ∧ Slt Γ w ms σ ∧ Aft Γ w (evs (fun e h => ev C n e ms h) es h) (Vals' Γ Q) (WxE Γ W σ)
def tAs (Γ : G) (C : Cal) (W : WX) (n : Nat) (es : List (Bool × ME)) : TA := fun σ H Q => ∃ w ms h, w.H = H ∧ Sim Γ w h ∧ Slt Γ w ms σ ∧ Aft Γ w (evStar (fun e h => ev C n e ms h) es h) (Vals' Γ Q) (WxE Γ W σ)

theorem PE.imp {e : Expr} {t t' : TE} (h : PE X e t) (i : ∀ σ H Q, t' σ H Q → t σ H Q) : PE X e t' := ⟨fun pins s σ H Q I q => h.run pins s σ H Q I (i σ H Q q)⟩
theorem PT.imp {e : Expr} {t t' : TT} (h : PT X e t) (i : ∀ σ H Q, t' σ H Q → t σ H Q) : PT X e t' := ⟨fun pins s σ H Q I q => h.run pins s σ H Q I (i σ H Q q)⟩
theorem PW.imp {e : Expr} {t t' : TT} (h : PW X e t) (i : ∀ σ H Q, t' σ H Q → t σ H Q) : PW X e t' := ⟨fun wh pins s σ H Q I q => h.run wh pins s σ H Q I (i σ H Q q)⟩
theorem PA.imp {e : List Expr} {t t' : TA} (h : PA X e t) (i : ∀ σ H Q, t' σ H Q → t σ H Q) : PA X e t' := ⟨fun p pins s σ H Q I q => h.run p pins s σ H Q I (i σ H Q q)⟩
theorem no_E {e : Expr} {me : ME} : PE X e (tE Γ C W 0 me) := ⟨fun pins s σ H Q I q => by obtain ⟨w, ms, h, _, _, _, A⟩ := q; exact A.elim⟩
theorem no_T {e : Expr} {me : ME} : PT X e (tT Γ C W 0 me) := ⟨fun pins s σ H Q I q => by obtain ⟨w, ms, h, _, _, _, A⟩ := q; exact A.elim⟩

/-- go on with the next part -/
theorem tE_of {w : Vw} {ms : MSt} {h : MH} {σ : St} {n : Nat} {e : ME} {Q : VK} {f : D → MH → Res D} {R : D → Vw → MH → Prop} (S' : Sim Γ w h) (l : Slt Γ w ms σ) (A : Aft Γ w ((ev C n e ms h).bind f) R (WxE Γ W σ))
    (hq : ∀ d w' h', Ext Γ w w' → Sim Γ w' h' → Aft Γ w' (f d h') R (WxE Γ W σ) → ∀ v, Rep Γ w' d v → Q v w'.H) : tE Γ C W n e σ w.H Q :=
  ⟨w, ms, h, rfl, S', l, A.bind.imp (fun d w' h' e s a => hq d w' h' e s a) (fun _ _ _ _ _ _ x => x)⟩
theorem tE_ofα {α : Type} {w : Vw} {ms : MSt} {h : MH} {σ : St} {n : Nat} {e : ME} {Q : VK} {f : D → MH → Res α} {R : α → Vw → MH → Prop} (S' : Sim Γ w h) (l : Slt Γ w ms σ) (A : Aft Γ w ((ev C n e ms h).bind f) R (WxE Γ W σ))
    (hq : ∀ d w' h', Ext Γ w w' → Sim Γ w' h' → Aft Γ w' (f d h') R (WxE Γ W σ) → ∀ v, Rep Γ w' d v → Q v w'.H) : tE Γ C W n e σ w.H Q :=
  ⟨w, ms, h, rfl, S', l, A.bind.imp (fun d w' h' e s a => hq d w' h' e s a) (fun _ _ _ _ _ _ x => x)⟩
theorem tT_of {α : Type} {w : Vw} {ms : MSt} {h : MH} {σ : St} {n : Nat} {e : ME} {Q : Bool → Hp → Prop} {f : Bool → MH → Res α} {R : α → Vw → MH → Prop} (S' : Sim Γ w h) (l : Slt Γ w ms σ)
    (A : Aft Γ w ((ev C n e ms h).bind fun x h => (truR x h).bind f) R (WxE Γ W σ)) (hq : ∀ b w' h', Ext Γ w w' → Sim Γ w' h' → Aft Γ w' (f b h') R (WxE Γ W σ) → Q b w'.H) : tT Γ C W n e σ w.H Q := by
  refine ⟨w, ms, h, rfl, S', l, ?_⟩
  have A' : Aft Γ w (((ev C n e ms h).bind truR).bind f) R (WxE Γ W σ) := by
    cases q : ev C n e ms h with
    | ok d h1 => rw [q] at A; exact A
    | exc c fs h1 => rw [q] at A; exact A
    | bad => rw [q] at A; exact A
  exact A'.bind.imp (fun d w' h' e s a => hq d w' h' e s a) (fun _ _ _ _ _ _ x => x)
theorem Aft.here {α : Type} {w : Vw} {a : α} {h : MH} {Q : α → Vw → MH → Prop} {Wx : Nat → List (Str × D) → Vw → MH → Prop} (A : Aft Γ w (.ok a h) Q Wx) (S' : Sim Γ w h) : Q a w h := A w (.refl w) S'

theorem e_var {n i : Nat} {x : Str} {pos : Pos} (F : Fit S Γ X C W) (hN : S.N[i]? = some x) (hv : Vis S.scope x) (hd : (x == ("__debug__" : Str)) = false) (hcd : (x == ("__classdict__" : Str)) = false) : PE X (.Name x pos) (tE Γ C W n (.var i)) := by
  cases n with
  | zero => exact no_E
  | succ n =>
    refine PE.imp (pe_var (i := i) (by rw [F.N]; exact hN) (by rw [F.sc]; exact hv) hd hcd) fun σ H Q q => ?_
    obtain ⟨w, ms, h, rfl, S', l, A⟩ := q
    have A : Aft Γ w (match ms[i]? with | some (some d) => .ok d h | _ => .bad) (Val Γ Q) (WxE Γ W σ) := A
    split at A
    · rename_i d hd
      obtain ⟨v, h1, h2⟩ := l.at_ i d hd
      exact ⟨v, h1, A.val S' h2⟩
    · exact A.elim
theorem e_lit {n : Nat} {e : Expr} {d : D} {v : V} (h : PE X e (tC v)) (r : ∀ w, Rep Γ w d v) : PE X e (tE Γ C W n (.lit d)) := by
  cases n with
  | zero => exact no_E
  | succ n =>
    refine PE.imp h fun σ H Q q => ?_
    obtain ⟨w, ms, h, rfl, S', l, A⟩ := q
    exact A.val S' (r w)
theorem e_int {n i j pos} : PE X (.Constant (.int i) j pos) (tE Γ C W n (.lit (.int i))) := e_lit pe_int fun _ => rfl
theorem e_bool {n b j pos} : PE X (.Constant (.bool b) j pos) (tE Γ C W n (.lit (.bool b))) := e_lit pe_bl fun _ => rfl
theorem e_none {n j pos} : PE X (.Constant .none j pos) (tE Γ C W n (.lit .none)) := e_lit pe_non fun _ => rfl
theorem e_str {n x j pos} : PE X (.Constant (.str x) j pos) (tE Γ C W n (.lit (.str x))) := e_lit pe_str fun _ => rfl
/-- a module's constant -/
theorem e_glob {n : Nat} {x : Str} {d : D} {pos : Pos} (F : Fit S Γ X C W) (hs : S.scope.names.lookup x = some .globalImplicit) (hg : S.globs.lookup x = some (.dat d)) (hd : (x == ("__debug__" : Str)) = false) : PE X (.Name x pos) (tE Γ C W n (.lit d)) := by
  cases n with
  | zero => exact no_E
  | succ n =>
    obtain ⟨u, h1, h2⟩ := F.gd x d hg
    refine ⟨fun pins s σ H Q I q => ?_⟩
    obtain ⟨w, ms, h, rfl, S', l, A⟩ := q
    obtain ⟨v, rv, rw'⟩ := h2 w
    have gl : Gl X x := by show X.env.scope.names.lookup x = _; rw [F.sc]; exact hs
    exact ld_glob I gl h1 ⟨v, w.H, I, rv, A.val S' rw'⟩ hd

theorem e_bin {n : Nat} {op : Operator} {a b : Expr} {ma mb : ME} {pos : Pos} (F : Fit S Γ X C W) (ha : ∀ n, PE X a (tE Γ C W n ma)) (hb : ∀ n, PE X b (tE Γ C W n mb)) : PE X (.BinOp a op b pos) (tE Γ C W n (.bin op ma mb)) := by
  cases n with
  | zero => exact no_E
  | succ n =>
    refine PE.imp (pe_op (bin_any F.K op) (ha n) (hb n)) fun σ H Q q => ?_
    obtain ⟨w, ms, h, rfl, S', l, A⟩ := q
    refine tE_of S' l A fun x w1 h1 e1 s1 A1 v rv => tE_of s1 (l.mono e1) A1 fun y w2 h2 e2 s2 A2 u ru => ?_
    exact ⟨w2, h2, x, y, _, rfl, s2, rv.mono e2, ru, A2⟩
theorem e_cmp {n : Nat} {op : CmpOp} {a b : Expr} {ma mb : ME} {pos : Pos} (F : Fit S Γ X C W) (hm : behindInMarks op b = false) (ha : ∀ n, PE X a (tE Γ C W n ma)) (hb : ∀ n, PE X b (tE Γ C W n mb)) : PE X (.Compare a [op] [b] pos) (tE Γ C W n (.cmp op ma mb)) := by
  cases n with
  | zero => exact no_E
  | succ n =>
    refine PE.imp (pe_cmpR (cmp_any F.K F.un op) (ha n) (hb n) hm) fun σ H Q q => ?_
    obtain ⟨w, ms, h, rfl, S', l, A⟩ := q
    refine tE_of S' l A fun x w1 h1 e1 s1 A1 v rv => tE_of s1 (l.mono e1) A1 fun y w2 h2 e2 s2 A2 u ru => ?_
    exact ⟨w2, h2, x, y, _, rfl, s2, rv.mono e2, ru, A2⟩
/-- the answer of a comparison is a bool -/
theorem cmpD_bool {op : CmpOp} {x y : D} {h : MH} : (∃ b, cmpD op x y h = .ok (.bool b) h) ∨ cmpD op x y h = .bad := by
  have rb : ∀ o : Option Bool, (∃ b, retB o h = .ok (.bool b) h) ∨ retB o h = .bad := fun o => by
    cases o with
    | none => exact .inr rfl
    | some b => exact .inl ⟨b, rfl⟩
  cases op with
  | Eq => exact rb _
  | NotEq => exact rb _
  | In => exact rb _
  | NotIn => exact rb _
  | Lt => cases x <;> cases y <;> first | exact .inl ⟨_, rfl⟩ | exact .inr rfl
  | LtE => cases x <;> cases y <;> first | exact .inl ⟨_, rfl⟩ | exact .inr rfl
  | Gt => cases x <;> cases y <;> first | exact .inl ⟨_, rfl⟩ | exact .inr rfl
  | GtE => cases x <;> cases y <;> first | exact .inl ⟨_, rfl⟩ | exact .inr rfl
  | Is => cases x <;> cases y <;> first | exact .inl ⟨_, rfl⟩ | exact .inr rfl
  | IsNot => cases x <;> cases y <;> first | exact .inl ⟨_, rfl⟩ | exact .inr rfl
theorem Rep.bool_of {w : Vw} {b : Bool} {v : V} (r : Rep Γ w (.bool b) v) : v = .bl b := r
theorem t_cmp {n : Nat} {op : CmpOp} {a b : Expr} {ma mb : ME} {pos : Pos} (F : Fit S Γ X C W) (hm : behindInMarks op b = false) (ha : ∀ n, PE X a (tE Γ C W n ma)) (hb : ∀ n, PE X b (tE Γ C W n mb)) : PT X (.Compare a [op] [b] pos) (tT Γ C W n (.cmp op ma mb)) := by
  cases n with
  | zero => exact no_T
  | succ n =>
    refine PT.imp (pt_cmpR (cmp_any F.K F.un op) (ha n) (hb n) hm) fun σ H Q q => ?_
    obtain ⟨w, ms, h, rfl, S', l, A⟩ := q
    have A : Aft Γ w ((ev C n ma ms h).bind fun x h => (ev C n mb ms h).bind fun y h => (cmpD op x y h).bind truR) (fun b w' _ => Q b w'.H) (WxE Γ W σ) := by
      have A : Aft Γ w (((ev C n ma ms h).bind fun x h => (ev C n mb ms h).bind fun y h => cmpD op x y h).bind truR) (fun b w' _ => Q b w'.H) (WxE Γ W σ) := A
      cases q : ev C n ma ms h with
      | ok d h1 =>
        rw [q] at A
        have A : Aft Γ w (((ev C n mb ms h1).bind fun y h => cmpD op d y h).bind truR) (fun b w' _ => Q b w'.H) (WxE Γ W σ) := A
        show Aft Γ w ((ev C n mb ms h1).bind fun y h => (cmpD op d y h).bind truR) _ _
        cases q2 : ev C n mb ms h1 with
        | ok d2 h2 => rw [q2] at A; exact A
        | exc c fs h2 => rw [q2] at A; exact A
        | bad => rw [q2] at A; exact A
      | exc c fs h1 => rw [q] at A; exact A
      | bad => rw [q] at A; exact A
    refine tE_ofα S' l A fun x w1 h1 e1 s1 A1 v rv => tE_ofα s1 (l.mono e1) A1 fun y w2 h2 e2 s2 A2 u ru => ?_
    refine ⟨w2, h2, x, y, WxE Γ W σ, rfl, s2, rv.mono e2, ru, ?_⟩
    rcases cmpD_bool (op := op) (x := x) (y := y) (h := h2) with ⟨b, e⟩ | e
    · rw [e] at A2 ⊢
      have A2 : Aft Γ w2 (.ok b h2) (fun b w' _ => Q b w'.H) (WxE Γ W σ) := A2
      intro w3 e3 s3 v3 r3
      exact ⟨b, r3, A2 w3 e3 s3⟩
    · rw [e] at A2; exact A2.elim
theorem e_neg {n : Nat} {a : Expr} {ma : ME} {pos : Pos} (ha : ∀ n, PE X a (tE Γ C W n ma)) : PE X (.UnaryOp .USub a pos) (tE Γ C W n (.neg ma)) := by
  cases n with
  | zero => exact no_E
  | succ n =>
    refine PE.imp (pe_un un_neg (ha n)) fun σ H Q q => ?_
    obtain ⟨w, ms, h, rfl, S', l, A⟩ := q
    refine tE_of S' l A fun x w1 h1 e1 s1 A1 v rv => ?_
    cases x with
    | int i => cases rv; exact ⟨i, rfl, A1.val s1 rfl⟩
    | _ => exact A1.elim

theorem truR_says {w : Vw} {h : MH} {d : D} {v : V} {Q : Bool → Vw → MH → Prop} {Wx : Nat → List (Str × D) → Vw → MH → Prop} (A : Aft Γ w (truR d h) Q Wx) (S' : Sim Γ w h) (r : Rep Γ w d v) : ∃ k, TruV Γ.K v w.H k ∧ truD d h = some k ∧ Q k w h := by
  unfold truR at A
  cases q : truD d h with
  | none => rw [q] at A; exact A.elim
  | some b => rw [q] at A; exact ⟨b, truD_says S' r q, rfl, A.here S'⟩
/-- an expression whose test is its value's truth -/
theorem t_val {n : Nat} {a : Expr} {ma : ME} (F : Fit S Γ X C W) (ha : ∀ n, PE X a (tE Γ C W n ma)) (he : ∀ whole, isTrue a X.env whole = (do let v ← whole; standAt a.pos; holding [v] (truthy v))) : PT X a (tT Γ C W n ma) := by
  refine PT.imp (pt_truth (ha n) he) fun σ H Q q => ?_
  obtain ⟨w, ms, h, rfl, S', l, A⟩ := q
  refine tE_ofα S' l A fun x w1 h1 e1 s1 A1 v rv => ?_
  obtain ⟨k, h2, _, h3⟩ := truR_says A1 s1 rv
  exact ⟨k, F.K ▸ h2, h3⟩
theorem truR_and {n : Nat} {ma mb : ME} {ms : MSt} {h : MH} : (ev C (n + 1) (.and ma mb) ms h).bind truR = ((ev C n ma ms h).bind fun x h => (truR x h).bind fun t h => if t then (ev C n mb ms h).bind truR else .ok false h) := by
  show ((ev C n ma ms h).bind fun x h => (truR x h).bind fun t h => if t then ev C n mb ms h else .ok x h).bind truR = _
  cases q : ev C n ma ms h with
  | ok d h1 =>
    show ((truR d h1).bind fun t h => if t then ev C n mb ms h else .ok d h).bind truR = (truR d h1).bind fun t h => if t then (ev C n mb ms h).bind truR else .ok false h
    unfold truR
    cases q2 : truD d h1 with
    | none => rfl
    | some b =>
      cases b with
      | true => rfl
      | false =>
        show (match truD d h1 with | some b => Res.ok b h1 | none => .bad) = _
        rw [q2]; rfl
  | exc c fs h1 => rfl
  | bad => rfl
theorem truR_or {n : Nat} {ma mb : ME} {ms : MSt} {h : MH} : (ev C (n + 1) (.or ma mb) ms h).bind truR = ((ev C n ma ms h).bind fun x h => (truR x h).bind fun t h => if t then .ok true h else (ev C n mb ms h).bind truR) := by
  show ((ev C n ma ms h).bind fun x h => (truR x h).bind fun t h => if t then .ok x h else ev C n mb ms h).bind truR = _
  cases q : ev C n ma ms h with
  | ok d h1 =>
    show ((truR d h1).bind fun t h => if t then .ok d h else ev C n mb ms h).bind truR = (truR d h1).bind fun t h => if t then .ok true h else (ev C n mb ms h).bind truR
    unfold truR
    cases q2 : truD d h1 with
    | none => rfl
    | some b =>
      cases b with
      | false => rfl
      | true =>
        show (match truD d h1 with | some b => Res.ok b h1 | none => .bad) = _
        rw [q2]; rfl
  | exc c fs h1 => rfl
  | bad => rfl
theorem no_W {e : Expr} {me : ME} : PW X e (tT Γ C W 0 me) := ⟨fun wh pins s σ H Q I q => by obtain ⟨w, ms, h, _, _, _, A⟩ := q; exact A.elim⟩
theorem w_and {n : Nat} {a b : Expr} {rest : List Expr} {ma mb : ME} {pos : Pos} (ha : ∀ n, PT X a (tT Γ C W n ma)) (hb : ∀ n, PW X (.BoolOp .And (b :: rest) pos) (tT Γ C W n mb)) : PW X (.BoolOp .And (a :: b :: rest) pos) (tT Γ C W n (.and ma mb)) := by
  cases n with
  | zero => exact no_W
  | succ n =>
    refine PW.imp (pw_and (ha n) (hb n)) fun σ H Q q => ?_
    obtain ⟨w, ms, h, rfl, S', l, A⟩ := q
    rw [truR_and] at A
    refine tT_of S' l A fun t w1 h1 e1 s1 A1 => ?_
    cases t with
    | true => exact ⟨w1, ms, h1, rfl, s1, l.mono e1, A1⟩
    | false => exact A1.here s1
theorem w_or {n : Nat} {a b : Expr} {rest : List Expr} {ma mb : ME} {pos : Pos} (ha : ∀ n, PT X a (tT Γ C W n ma)) (hb : ∀ n, PW X (.BoolOp .Or (b :: rest) pos) (tT Γ C W n mb)) : PW X (.BoolOp .Or (a :: b :: rest) pos) (tT Γ C W n (.or ma mb)) := by
  cases n with
  | zero => exact no_W
  | succ n =>
    refine PW.imp (pw_or (ha n) (hb n)) fun σ H Q q => ?_
    obtain ⟨w, ms, h, rfl, S', l, A⟩ := q
    rw [truR_or] at A
    refine tT_of S' l A fun t w1 h1 e1 s1 A1 => ?_
    cases t with
    | false => exact ⟨w1, ms, h1, rfl, s1, l.mono e1, A1⟩
    | true => exact A1.here s1
theorem t_not {n : Nat} {a : Expr} {ma : ME} {pos : Pos} (ha : ∀ n, PT X a (tT Γ C W n ma)) : PT X (.UnaryOp .Not a pos) (tT Γ C W n (.not ma)) := by
  cases n with
  | zero => exact no_T
  | succ n =>
    refine PT.imp (pt_not (ha n)) fun σ H Q q => ?_
    obtain ⟨w, ms, h, rfl, S', l, A⟩ := q
    have A : Aft Γ w ((ev C n ma ms h).bind fun x h => (truR x h).bind fun t h => .ok (!t) h) (fun b w' _ => Q b w'.H) (WxE Γ W σ) := by
      have A : Aft Γ w (((ev C n ma ms h).bind fun x h => (truR x h).bind fun t h => .ok (D.bool (!t)) h).bind truR) (fun b w' _ => Q b w'.H) (WxE Γ W σ) := A
      cases q : ev C n ma ms h with
      | ok d h1 =>
        rw [q] at A
        have A : Aft Γ w (((truR d h1).bind fun t h => .ok (D.bool (!t)) h).bind truR) (fun b w' _ => Q b w'.H) (WxE Γ W σ) := A
        show Aft Γ w ((truR d h1).bind fun t h => .ok (!t) h) _ _
        unfold truR at A ⊢
        cases q2 : truD d h1 with
        | none => rw [q2] at A; exact A.elim
        | some b => rw [q2] at A; exact A
      | exc c fs h1 => rw [q] at A; exact A
      | bad => rw [q] at A; exact A
    exact tT_of S' l A fun t w1 h1 e1 s1 A1 => A1.here s1
theorem e_and {n : Nat} {a b : Expr} {rest : List Expr} {ma mb : ME} {pos : Pos} (F : Fit S Γ X C W) (ha : ∀ n, PE X a (tE Γ C W n ma)) (hb : ∀ n, PE X (.BoolOp .And (b :: rest) pos) (tE Γ C W n mb)) : PE X (.BoolOp .And (a :: b :: rest) pos) (tE Γ C W n (.and ma mb)) := by
  cases n with
  | zero => exact no_E
  | succ n =>
    refine PE.imp (pe_andT (ha n) (hb n)) fun σ H Q q => ?_
    obtain ⟨w, ms, h, rfl, S', l, A⟩ := q
    refine tE_of S' l A fun x w1 h1 e1 s1 A1 v rv => ?_
    obtain ⟨k, h2, h2', h3⟩ := truR_says A1.bind s1 rv
    refine ⟨k, F.K ▸ h2, ?_⟩
    cases k with
    | true => exact ⟨w1, ms, h1, rfl, s1, l.mono e1, h3⟩
    | false => exact h3.val s1 rv
theorem e_or {n : Nat} {a b : Expr} {rest : List Expr} {ma mb : ME} {pos : Pos} (F : Fit S Γ X C W) (ha : ∀ n, PE X a (tE Γ C W n ma)) (hb : ∀ n, PE X (.BoolOp .Or (b :: rest) pos) (tE Γ C W n mb)) : PE X (.BoolOp .Or (a :: b :: rest) pos) (tE Γ C W n (.or ma mb)) := by
  cases n with
  | zero => exact no_E
  | succ n =>
    refine PE.imp (pe_orT (ha n) (hb n)) fun σ H Q q => ?_
    obtain ⟨w, ms, h, rfl, S', l, A⟩ := q
    refine tE_of S' l A fun x w1 h1 e1 s1 A1 v rv => ?_
    obtain ⟨k, h2, h2', h3⟩ := truR_says A1.bind s1 rv
    refine ⟨k, F.K ▸ h2, ?_⟩
    cases k with
    | false => exact ⟨w1, ms, h1, rfl, s1, l.mono e1, h3⟩
    | true => exact h3.val s1 rv
theorem e_not {n : Nat} {a : Expr} {ma : ME} {pos : Pos} (F : Fit S Γ X C W) (ha : ∀ n, PE X a (tE Γ C W n ma)) : PE X (.UnaryOp .Not a pos) (tE Γ C W n (.not ma)) := by
  cases n with
  | zero => exact no_E
  | succ n =>
    refine PE.imp (pe_notT (ha n)) fun σ H Q q => ?_
    obtain ⟨w, ms, h, rfl, S', l, A⟩ := q
    refine tE_of S' l A fun x w1 h1 e1 s1 A1 v rv => ?_
    obtain ⟨k, h2, h2', h3⟩ := truR_says A1.bind s1 rv
    exact ⟨k, F.K ▸ h2, h3.val s1 rfl⟩
theorem e_ite {n : Nat} {c a b : Expr} {mc ma mb : ME} {pos : Pos} (hc : ∀ n, PT X c (tT Γ C W n mc)) (ha : ∀ n, PE X a (tE Γ C W n ma)) (hb : ∀ n, PE X b (tE Γ C W n mb)) : PE X (.IfExp c a b pos) (tE Γ C W n (.ite mc ma mb)) := by
  cases n with
  | zero => exact no_E
  | succ n =>
    refine PE.imp (pe_ifExp (hc n) (ha n) (hb n)) fun σ H Q q => ?_
    obtain ⟨w, ms, h, rfl, S', l, A⟩ := q
    refine tT_of S' l A fun t w1 h1 e1 s1 A1 => ?_
    cases t with
    | true => exact ⟨w1, ms, h1, rfl, s1, l.mono e1, A1⟩
    | false => exact ⟨w1, ms, h1, rfl, s1, l.mono e1, A1⟩
end
end R
namespace R
open PySem PySem.Spec PyProof.Rows L2
section
variable {S : Sc} {Γ : G} {X : Cx} {C : Cal} {W : WX}

theorem e_cmp2 {n : Nat} {op op' : CmpOp} {a b c : Expr} {ma mb mc : ME} {pos : Pos} (F : Fit S Γ X C W) (hm : lastMarks [op, op'] [b, c] = false) (ha : ∀ n, PE X a (tE Γ C W n ma)) (hb : ∀ n, PE X b (tE Γ C W n mb)) (hc : ∀ n, PE X c (tE Γ C W n mc)) :
    PE X (.Compare a [op, op'] [b, c] pos) (tE Γ C W n (.cmp2 op op' ma mb mc)) := by
  cases n with
  | zero => exact no_E
  | succ n =>
    refine PE.imp (pe_chain (cmp_any F.K F.un op) (cmp_any F.K F.un op') (ha n) (hb n) (hc n) hm) fun σ H Q q => ?_
    obtain ⟨w, ms, h, rfl, S', l, A⟩ := q
    refine tE_of S' l A fun x w1 h1 e1 s1 A1 v rv => tE_of s1 (l.mono e1) A1 fun y w2 h2 e2 s2 A2 u ru => ?_
    refine ⟨w2, h2, x, y, WxE Γ W σ, rfl, s2, rv.mono e2, ru, ?_⟩
    rcases cmpD_bool (op := op) (x := x) (y := y) (h := h2) with ⟨b, e⟩ | e
    · rw [e] at A2 ⊢
      intro w3 e3 s3 v3 r3
      refine ⟨b, r3, ?_⟩
      have A3 := A2.bind w3 e3 s3
      cases b with
      | true =>
        rw [if_pos rfl]
        refine tE_of s3 (l.mono (e1.trans (e2.trans e3))) A3 fun z w4 h4 e4 s4 A4 t rt => ?_
        exact ⟨w4, h4, y, z, _, rfl, s4, (ru.mono e3).mono e4, rt, A4⟩
      | false =>
        rw [if_neg Bool.false_ne_true]
        exact A3.val s3 rfl
    · rw [e] at A2; exact A2.elim
theorem t_cmp2 {n : Nat} {op op' : CmpOp} {a b c : Expr} {ma mb mc : ME} {pos : Pos} (F : Fit S Γ X C W) (hm : lastMarks [op, op'] [b, c] = false) (ha : ∀ n, PE X a (tE Γ C W n ma)) (hb : ∀ n, PE X b (tE Γ C W n mb)) (hc : ∀ n, PE X c (tE Γ C W n mc)) :
    PT X (.Compare a [op, op'] [b, c] pos) (tT Γ C W n (.cmp2 op op' ma mb mc)) := by
  cases n with
  | zero => exact no_T
  | succ n =>
    refine PT.imp (pt_chain (cmp_any F.K F.un op) (cmp_any F.K F.un op') (ha n) (hb n) (hc n) hm) fun σ H Q q => ?_
    obtain ⟨w, ms, h, rfl, S', l, A⟩ := q
    have A : Aft Γ w ((ev C n ma ms h).bind fun x h => (ev C n mb ms h).bind fun y h => (cmpD op x y h).bind fun r h => match r with
      | .bool true => (ev C n mc ms h).bind fun z h => (cmpD op' y z h).bind truR
      | .bool false => .ok false h
      | _ => .bad) (fun b w' _ => Q b w'.H) (WxE Γ W σ) := by
      have A : Aft Γ w (((ev C n ma ms h).bind fun x h => (ev C n mb ms h).bind fun y h => (cmpD op x y h).bind fun r h => match r with
        | .bool true => (ev C n mc ms h).bind fun z h => cmpD op' y z h
        | .bool false => .ok (.bool false) h
        | _ => .bad).bind truR) (fun b w' _ => Q b w'.H) (WxE Γ W σ) := A
      cases q : ev C n ma ms h with
      | ok d h1 =>
        rw [q] at A
        have A : Aft Γ w (((ev C n mb ms h1).bind fun y h => (cmpD op d y h).bind fun r h => match r with
          | .bool true => (ev C n mc ms h).bind fun z h => cmpD op' y z h
          | .bool false => .ok (.bool false) h
          | _ => .bad).bind truR) (fun b w' _ => Q b w'.H) (WxE Γ W σ) := A
        show Aft Γ w ((ev C n mb ms h1).bind fun y h => (cmpD op d y h).bind fun r h => match r with
          | .bool true => (ev C n mc ms h).bind fun z h => (cmpD op' y z h).bind truR
          | .bool false => .ok false h
          | _ => .bad) _ _
        cases q2 : ev C n mb ms h1 with
        | ok d2 h2 =>
          rw [q2] at A
          have A : Aft Γ w (((cmpD op d d2 h2).bind fun r h => match r with
            | .bool true => (ev C n mc ms h).bind fun z h => cmpD op' d2 z h
            | .bool false => .ok (.bool false) h
            | _ => .bad).bind truR) (fun b w' _ => Q b w'.H) (WxE Γ W σ) := A
          show Aft Γ w ((cmpD op d d2 h2).bind fun r h => match r with
            | .bool true => (ev C n mc ms h).bind fun z h => (cmpD op' d2 z h).bind truR
            | .bool false => .ok false h
            | _ => .bad) _ _
          rcases cmpD_bool (op := op) (x := d) (y := d2) (h := h2) with ⟨b, e⟩ | e
          · rw [e] at A ⊢
            cases b with
            | true =>
              have A : Aft Γ w (((ev C n mc ms h2).bind fun z h => cmpD op' d2 z h).bind truR) (fun b w' _ => Q b w'.H) (WxE Γ W σ) := A
              show Aft Γ w ((ev C n mc ms h2).bind fun z h => (cmpD op' d2 z h).bind truR) _ _
              cases q3 : ev C n mc ms h2 with
              | ok d3 h3 => rw [q3] at A; exact A
              | exc c fs h3 => rw [q3] at A; exact A
              | bad => rw [q3] at A; exact A
            | false => exact A
          · rw [e] at A; exact A.elim
        | exc c fs h2 => rw [q2] at A; exact A
        | bad => rw [q2] at A; exact A
      | exc c fs h1 => rw [q] at A; exact A
      | bad => rw [q] at A; exact A
    refine tE_ofα S' l A fun x w1 h1 e1 s1 A1 v rv => tE_ofα s1 (l.mono e1) A1 fun y w2 h2 e2 s2 A2 u ru => ?_
    refine ⟨w2, h2, x, y, WxE Γ W σ, rfl, s2, rv.mono e2, ru, ?_⟩
    rcases cmpD_bool (op := op) (x := x) (y := y) (h := h2) with ⟨b, e⟩ | e
    · rw [e] at A2 ⊢
      intro w3 e3 s3 v3 r3
      refine ⟨b, r3, ?_⟩
      have A3 := A2.bind w3 e3 s3
      cases b with
      | true =>
        rw [if_pos rfl]
        refine tE_ofα s3 (l.mono (e1.trans (e2.trans e3))) A3 fun z w4 h4 e4 s4 A4 t rt => ?_
        refine ⟨w4, h4, y, z, WxE Γ W σ, rfl, s4, (ru.mono e3).mono e4, rt, ?_⟩
        rcases cmpD_bool (op := op') (x := y) (y := z) (h := h4) with ⟨b', e'⟩ | e'
        · rw [e'] at A4 ⊢
          intro w5 e5 s5 v5 r5
          have A5 : Aft Γ w4 (.ok b' h4) (fun b w' _ => Q b w'.H) (WxE Γ W σ) := A4
          exact ⟨b', r5, A5 w5 e5 s5⟩
        · rw [e'] at A4; exact A4.elim
      | false =>
        rw [if_neg Bool.false_ne_true]
        exact ⟨false, rfl, A3.here s3⟩
    · rw [e] at A2; exact A2.elim

theorem a_nil {n : Nat} : PA X [] (tA Γ C W n []) := PA.imp pa_nil fun σ H Q q => by
  obtain ⟨w, ms, h, rfl, S', l, A⟩ := q
  exact A.here S' [] Reps.nil
theorem a_cons {n : Nat} {e : Expr} {es : List Expr} {me : ME} {mes : List ME} (he : ∀ n, PE X e (tE Γ C W n me)) (hs : PA X es (tA Γ C W n mes)) (hst : starEach (e :: es) X.env = (false, eval e X.env) :: starEach es X.env) : PA X (e :: es) (tA Γ C W n (me :: mes)) :=
  PA.imp (pa_cons (he n) hs hst) fun σ H Q q => by
    obtain ⟨w, ms, h, rfl, S', l, A⟩ := q
    refine tE_ofα S' l A fun x w1 h1 e1 s1 A1 v rv => ⟨w1, ms, h1, rfl, s1, l.mono e1, ?_⟩
    refine A1.bind.imp (fun ds w2 h2 e2 s2 A2 vs rvs => ?_) (fun _ _ _ _ _ _ x => x)
    exact A2.here s2 (v :: vs) (.cons (rv.mono e2) rvs)
theorem as_nil {n : Nat} : PA X [] (tAs Γ C W n []) := PA.imp pa_nil fun σ H Q q => by
  obtain ⟨w, ms, h, rfl, S', l, A⟩ := q
  exact A.here S' [] Reps.nil
theorem as_cons {n : Nat} {e : Expr} {es : List Expr} {me : ME} {mes : List (Bool × ME)} (he : ∀ n, PE X e (tE Γ C W n me)) (hs : PA X es (tAs Γ C W n mes)) (hst : starEach (e :: es) X.env = (false, eval e X.env) :: starEach es X.env) : PA X (e :: es) (tAs Γ C W n ((false, me) :: mes)) :=
  PA.imp (pa_cons (he n) hs hst) fun σ H Q q => by
    obtain ⟨w, ms, h, rfl, S', l, A⟩ := q
    refine tE_ofα S' l A fun x w1 h1 e1 s1 A1 v rv => ⟨w1, ms, h1, rfl, s1, l.mono e1, ?_⟩
    have A1 : Aft Γ w1 ((evStar (fun e h => ev C n e ms h) mes h1).bind fun ds h => .ok (x :: ds) h) (Vals' Γ Q) (WxE Γ W σ) := A1
    refine A1.bind.imp (fun ds w2 h2 e2 s2 A2 vs rvs => ?_) (fun _ _ _ _ _ _ x => x)
    exact A2.here s2 (v :: vs) (.cons (rv.mono e2) rvs)
theorem itemsD_says {w : Vw} {h : MH} {d : D} {v : V} {ds : List D} (S' : Sim Γ w h) (e : itemsD d h = some ds) (r : Rep Γ w d v) : ∃ a xs, v = .ref a ∧ (SqT Γ.K w.H a xs ∨ SqL Γ.K w.H a xs) ∧ Reps Γ w ds xs := by
  cases d with
  | tup l => obtain ⟨a, xs, rfl, h1, h2⟩ := r; cases e; exact ⟨a, xs, rfl, .inl h1, h2⟩
  | scr l => obtain ⟨a, xs, rfl, h1, h2⟩ := r; cases e; exact ⟨a, xs, rfl, .inr h1.sq, h2⟩
  | flst l => obtain ⟨a, xs, rfl, _, h1, h2⟩ := r; cases e; exact ⟨a, xs, rfl, .inr (.of h1), h2⟩
  | ref n =>
    obtain ⟨_, rfl⟩ := r
    have e : (match h.get n with | some (.lst xs) => some xs | _ => Option.none) = some ds := e
    split at e
    · rename_i xs hg; cases e; obtain ⟨us, h1, h2⟩ := S'.lst hg; exact ⟨_, us, rfl, .inr (.of h1), h2⟩
    · cases e
  | _ => cases e
theorem as_star {n : Nat} {e : Expr} {es : List Expr} {me : ME} {mes : List (Bool × ME)} {p : Pos} (F : Fit S Γ X C W) (he : ∀ n, PE X e (tE Γ C W n me)) (hs : PA X es (tAs Γ C W n mes)) : PA X (.Starred e p :: es) (tAs Γ C W n ((true, me) :: mes)) :=
  PA.imp (StX.pa_star (he n) hs rfl) fun σ H Q q => by
    obtain ⟨w, ms, h, rfl, S', l, A⟩ := q
    refine tE_ofα S' l A fun x w1 h1 e1 s1 A1 v rv => ?_
    have A1 : Aft Γ w1 (match itemsD x h1 with
      | some xs => (evStar (fun e h => ev C n e ms h) mes h1).bind fun ds h => .ok (xs ++ ds) h
      | none => .bad) (Vals' Γ Q) (WxE Γ W σ) := A1
    split at A1
    · rename_i xs hx
      obtain ⟨a, us, rfl, h2, h3⟩ := itemsD_says s1 hx rv
      refine ⟨a, us, rfl, F.K ▸ h2, w1, ms, h1, rfl, s1, l.mono e1, ?_⟩
      refine A1.bind.imp (fun ds w2 h2 e2 s2 A2 vs rvs => ?_) (fun _ _ _ _ _ _ x => x)
      exact A2.here s2 (us ++ vs) ((h3.mono e2).append rvs)
    · exact A1.elim
theorem e_tup {n : Nat} {es : List Expr} {mes : List (Bool × ME)} {k : Nat} {pos : Pos} (h : ∀ n, PA X es (tAs Γ C W n mes)) : PE X (.Tuple es k pos) (tE Γ C W n (.tup mes)) := by
  cases n with
  | zero => exact no_E
  | succ n =>
    refine PE.imp (pe_tup (h n)) fun σ H Q q => ?_
    obtain ⟨w, ms, h, rfl, S', l, A⟩ := q
    refine ⟨w, ms, h, rfl, S', l, A.bind.imp (fun ds w1 h1 e1 s1 A1 vs rvs => ?_) (fun _ _ _ _ _ _ x => x)⟩
    by_cases hz : ds.length ≤ sizeLine
    · rw [if_pos hz] at A1
      exact ⟨by rw [rvs.length]; exact hz, fun p hp => A1.newT s1 hp rvs⟩
    · rw [if_neg hz] at A1; exact A1.elim
theorem e_lst {n : Nat} {fz : Bool} {es : List Expr} {mes : List (Bool × ME)} {pos : Pos} (h : ∀ n, PA X es (tAs Γ C W n mes)) : PE X (.List es pos) (tE Γ C W n (.lst fz mes)) := by
  cases n with
  | zero => exact no_E
  | succ n =>
    refine PE.imp (pe_lst (h n)) fun σ H Q q => ?_
    obtain ⟨w, ms, h, rfl, S', l, A⟩ := q
    refine ⟨w, ms, h, rfl, S', l, A.bind.imp (fun ds w1 h1 e1 s1 A1 vs rvs => ?_) (fun _ _ _ _ _ _ x => x)⟩
    cases fz with
    | true =>
      have A1 : Aft Γ w1 (newF ds h1) (Val Γ Q) (WxE Γ W σ) := A1
      unfold newF at A1
      by_cases hz : ds.length ≤ sizeLine
      · rw [if_pos hz] at A1
        exact ⟨by rw [rvs.length]; exact hz, fun p hp => A1.newF s1 hp rvs⟩
      · rw [if_neg hz] at A1; exact A1.elim
    | false =>
      have A1 : Aft Γ w1 (newL ds h1) (Val Γ Q) (WxE Γ W σ) := A1
      unfold newL at A1
      by_cases hz : ds.length ≤ sizeLine
      · rw [if_pos hz] at A1
        exact ⟨by rw [rvs.length]; exact hz, fun p hp => A1.newL s1 hp rvs⟩
      · rw [if_neg hz] at A1; exact A1.elim

theorem ix_any (hK : X.K = Γ.K) (hu : X.A.units + 65 < cLine) : IxR X (r2 Γ ixD) := by
  intro value slice pins s σ H x y v u Q I rx ry h hs
  obtain ⟨w, h, a, b, Wx, rfl, S', ra, rb, A⟩ := h
  unfold ixD at A
  split at A
  · rename_i kvs hg
    split at A
    · rename_i k hk
      split at A
      · rename_i d hf
        obtain ⟨p, xs, rfl, h1, h2⟩ := dkD_says S' hg ra
        cases rx
        have ek := keyD_rep hk rb
        subst ek
        obtain ⟨v', h3, h4⟩ := (valV_find (k := k) h2).1 d hf
        obtain ⟨hz, hS, vs, rl, o, es, ep, ho, he, _⟩ : xs.length ≤ sizeLine ∧ (p == sysModules) = false ∧ ∃ vs, KV xs vs ∧ s.heap.DictOf (mixKind X.prog X.w) p vs := I.hok _ _ h1
        have hT : s.TypeIs (.ref p) "dict" := ⟨o, ho, he.1⟩
        refine PyProof.Rows.tail_any hT slot_dict_getitem.lookup ?_ hs
        exact d_getItem (by omega) I (by rw [← h3]; exact DGet.k h1) ry fun w' s' I' r' => ⟨v', w.H, I', r', A.val S' h4⟩
      · exact A.elim
    · exact A.elim
  · split at A
    · rename_i i
      cases rb
      split at A
      · rename_i z _
        cases ra
        by_cases hz : z.length ≤ sizeLine
        · rw [if_pos hz] at A
          split at A
          · rename_i c hc
            exact ix_str value slice pins s σ w.H _ _ v u Q I rx ry ⟨z, i, c, rfl, rfl, hz, hc, A.val S' rfl⟩ hs
          · exact A.elim
        · rw [if_neg hz] at A; exact A.elim
      · split at A
        · rename_i ds hd
          split at A
          · rename_i d hc
            obtain ⟨p, xs, rfl, h1, h2⟩ := itemsD_says S' hd ra
            obtain ⟨v', h3, h4⟩ := atI_rep h2 hc
            rcases h1 with h1 | h1
            · exact ix_tup value slice pins s σ w.H _ _ v u Q I rx ry ⟨p, xs, i, v', rfl, rfl, hK ▸ h1, h3, A.val S' h4⟩ hs
            · exact ix_list value slice pins s σ w.H _ _ v u Q I rx ry ⟨p, xs, i, v', rfl, rfl, hK ▸ h1, h3, A.val S' h4⟩ hs
          · exact A.elim
        · exact A.elim
    · exact A.elim
theorem e_ix {n : Nat} {a b : Expr} {ma mb : ME} {pos : Pos} (F : Fit S Γ X C W) (hp : PlainIx b) (ha : ∀ n, PE X a (tE Γ C W n ma)) (hb : ∀ n, PE X b (tE Γ C W n mb)) : PE X (.Subscript a b pos) (tE Γ C W n (.ix ma mb)) := by
  cases n with
  | zero => exact no_E
  | succ n =>
    refine PE.imp (pe_ix (ix_any F.K F.un) (ha n) (hb n) hp) fun σ H Q q => ?_
    obtain ⟨w, ms, h, rfl, S', l, A⟩ := q
    refine tE_of S' l A fun x w1 h1 e1 s1 A1 v rv => tE_of s1 (l.mono e1) A1 fun y w2 h2 e2 s2 A2 u ru => ?_
    exact ⟨w2, h2, x, y, _, rfl, s2, rv.mono e2, ru, A2⟩
def rSlM (Γ : G) : V → Option Int → Option Int → Hp → VK → Prop := fun x lo hi H Q => ∃ w h a Wx, w.H = H ∧ Sim Γ w h ∧ Rep Γ w a x ∧ Aft Γ w (slD a lo hi h) (Val Γ Q) Wx
theorem sl_any (hK : X.K = Γ.K) : SlR X (rSlM Γ) := by
  intro pins s σ H x v vl vu lo hi sl Q I rx hs pl pu h
  obtain ⟨w, h, a, Wx, rfl, S', ra, A⟩ := h
  have lst : ∀ a : D, Rep Γ w a x → Aft Γ w (match lstD a h with | some ds => .ok (.flst (cutD ds lo hi)) h | none => .bad) (Val Γ Q) Wx → ∃ T id, typeLookup (Value.type T) (Str.ofString "__getitem__") = pure (some (Value.builtin id)) ∧ s.TypeIs v T ∧ wpAny (model X.prog X.w) X.A (getItem v (.ref sl)) (EP X pins σ Q) X.xe s := fun a ra A => by
    split at A
    · rename_i ds hg
      obtain ⟨p, us, rfl, h1, h2⟩ := lstD_says S' hg ra
      exact sl_list pins s σ w.H _ v vl vu lo hi sl Q I rx hs pl pu ⟨_, us, rfl, .of h1, fun q hq => A.newF S' hq (cutD_rep h2)⟩
    · exact A.elim
  cases a with
  | tup ds =>
    obtain ⟨p, xs, rfl, h1, h2⟩ := ra
    refine sl_tupA pins s σ w.H _ v vl vu lo hi sl Q I rx hs pl pu ⟨p, xs, rfl, hK ▸ h1, fun e => ?_, fun _ q hq => A.newT S' hq (cutD_rep h2)⟩
    have A : Aft Γ w (.ok (.tup (cutD ds lo hi)) h) (Val Γ Q) Wx := A
    have e' : cutD ds lo hi = ds := by
      unfold cutD
      rw [h2.length] at e
      rw [e.1, e.2]
      simp
    rw [e'] at A
    exact A.val S' ⟨p, xs, rfl, h1, h2⟩
  | scr ds =>
    obtain ⟨p, xs, rfl, h1, h2⟩ := ra
    exact sl_list pins s σ w.H _ v vl vu lo hi sl Q I rx hs pl pu ⟨p, xs, rfl, hK ▸ h1.sq, fun q hq => A.newF S' hq (cutD_rep h2)⟩
  | flst ds => exact lst _ ra A
  | ref n => exact lst _ ra A
  | _ => exact A.elim
/-- a slice's bound -/
def tO (Γ : G) (C : Cal) (W : WX) (n : Nat) (e : Option ME) : TO := fun σ H Q => ∃ w ms h, w.H = H ∧ Sim Γ w h ∧ Slt Γ w ms σ ∧ Aft Γ w (evO (fun e h => ev C n e ms h) e h) (fun o w' _ => Q o w'.H) (WxE Γ W σ)
theorem o_none {n : Nat} : PO X none (tO Γ C W n none) := ⟨fun pins s σ H Q I q => by
  obtain ⟨w, ms, h, rfl, S', l, A⟩ := q
  exact po_none.run pins s σ w.H Q I (A.here S')⟩
theorem o_some {n : Nat} {e : Expr} {me : ME} (he : ∀ n, PE X e (tE Γ C W n me)) : PO X (some e) (tO Γ C W n (some me)) := ⟨fun pins s σ H Q I q => by
  obtain ⟨w, ms, h, rfl, S', l, A⟩ := q
  refine (po_some (he n)).run pins s σ w.H Q I (tE_ofα S' l A fun x w1 h1 e1 s1 A1 v rv => ?_)
  cases x with
  | int i => cases rv; exact ⟨i, rfl, A1.here s1⟩
  | _ => exact A1.elim⟩
theorem e_sl {n : Nat} {a : Expr} {lo hi : Option Expr} {ma : ME} {ml mh : Option ME} {p2 pos : Pos} (F : Fit S Γ X C W) (ha : ∀ n, PE X a (tE Γ C W n ma)) (hl : ∀ n, PO X lo (tO Γ C W n ml)) (hh : ∀ n, PO X hi (tO Γ C W n mh)) :
    PE X (.Subscript a (.Slice lo hi none p2) pos) (tE Γ C W n (.sl ma ml mh)) := by
  cases n with
  | zero => exact no_E
  | succ n =>
    refine PE.imp (pe_slice (sl_any F.K) (ha n) (hl n) (hh n)) fun σ H Q q => ?_
    obtain ⟨w, ms, h, rfl, S', l, A⟩ := q
    refine tE_of S' l A fun x w1 h1 e1 s1 A1 v rv => ⟨w1, ms, h1, rfl, s1, l.mono e1, ?_⟩
    refine A1.bind.imp (fun lo' w2 h2 e2 s2 A2 => ?_) (fun _ _ _ _ _ _ x => x)
    refine ⟨w2, ms, h2, rfl, s2, l.mono (e1.trans e2), ?_⟩
    refine A2.bind.imp (fun hi' w3 h3 e3 s3 A3 => ?_) (fun _ _ _ _ _ _ x => x)
    exact ⟨w3, h3, x, _, rfl, s3, (rv.mono e2).mono e3, A3⟩

theorem evs_length {f : ME → MH → Res D} : ∀ {es : List ME} {h h' : MH} {ds : List D}, evs f es h = .ok ds h' → ds.length = es.length
  | [], _, _, _, e => by cases e; rfl
  | e :: es, h, h', ds, q => by
    unfold evs at q
    cases q1 : f e h with
    | ok d h1 =>
      rw [q1] at q
      have q : ((evs f es h1).bind fun ds h => .ok (d :: ds) h) = .ok ds h' := q
      cases q2 : evs f es h1 with
      | ok ds' h2 => rw [q2] at q; cases q; simp [evs_length q2]
      | exc c fs h2 => rw [q2] at q; cases q
      | bad => rw [q2] at q; cases q
    | exc c fs h1 => rw [q1] at q; cases q
    | bad => rw [q1] at q; cases q
theorem run_fnC {g : Bool} {CX : CXT} {k : Nat} {f : Addr} {sp : SpC} {E : L2.St → XK} {pins : List (Addr × Obj)} {σ : L2.St} {H : Hp} {s : Shared} {Q : VK} {us : List Value} {kws : List (Str × Value)} {vs : List V} {kvs : List (Str × V)} (F : FnC g X.prog X.w X.K X.mg X.base CX k f sp) (hg : g = true → X.A.guards = some []) (hr : Room k X.A) (hx : PassesAt CX X σ (E σ))
    (I : Inv X pins σ H s) (r : Vals vs us) (rk : PairedN RelV kvs kws) (h : sp vs kvs H Q (E σ)) : wpAny (model X.prog X.w) X.A (PySem.call (.ref f) us kws) (EP X pins σ Q) X.xe s := by
  refine wpAny_call (codeAny_mono (F.run X.A X.stack s H us kws vs kvs Q (E σ) hg hr I.env0 r rk h) fun r s' hq => ?_)
  cases r with
  | error e => exact hx pins H s e s' I hq
  | ok fl =>
    cases fl with
    | ret u => exact I.after hq
    | next => exact False.elim hq
    | brk => exact False.elim hq
    | cont => exact False.elim hq
theorem e_call {n i : Nat} {x : Str} {e : Expr} {es : List Expr} {mes : List ME} {p pos : Pos} (F : Fit S Γ X C W) (hs : S.scope.names.lookup x = some .globalImplicit) (hg : S.globs.lookup x = some (.fn i)) (hgf : S.gf i = true → S.gr = true) (hd : (x == ("__debug__" : Str)) = false)
    (ha : ∀ n, PA X (e :: es) (tA Γ C W n mes)) (he : starEach (e :: es) X.env = (false, eval e X.env) :: starEach es X.env) (hpl : (backTo pos (starEach es X.env)).any (·.1) = false) :
    PE X (.Call (.Name x p) (e :: es) [] pos) (tE Γ C W n (.call i mes)) := by
  cases n with
  | zero => exact no_E
  | succ n =>
    obtain ⟨h1, h2⟩ := F.gl x i hg
    obtain ⟨k, h3, h4⟩ := F.fns i (F.gi x i hg)
    have gl : Gl X x := by show X.env.scope.names.lookup x = _; rw [F.sc]; exact hs
    have base : PE X (.Call (.Name x p) (e :: es) [] pos) (tCallS (fun vs H Q E => spC Γ C i vs [] H Q E) (WE W) (tA Γ C W n mes)) := by
      refine ⟨fun pins s σ H Q I h => ?_⟩
      refine wpAny_Call_Name_kw (ld_glob I gl h1 ?_ hd)
      refine PySem.W.callWith_K (h₀ := X.base) I.ok.mod.kin h2 (thn ((ha n).run pos pins s σ H _ I h) fun us s1 ⟨vs, H1, I1, r, q⟩ => ⟨I1.kIn, ?_⟩) he hpl
      exact run_fnC (E := WE W) h3 (fun z => F.gr (hgf z)) h4 (passAt F.tk σ) I1 r .nil q
    refine PE.imp base fun σ H Q q => ?_
    obtain ⟨w, ms, h, rfl, S', l, A⟩ := q
    refine ⟨w, ms, h, rfl, S', l, ?_⟩
    have A : Aft Γ w ((evs (fun e h => ev C n e ms h) mes h).bind fun ds h => C.callf i ds [] h) (Val Γ Q) (WxE Γ W σ) := A
    exact A.bind.imp (fun ds w1 h1 e1 s1 A1 vs rvs => ⟨w1, h1, ds, [], rfl, s1, rvs, .nil, A1⟩) (fun _ _ _ _ _ _ x => x)
theorem e_call0 {n i : Nat} {x : Str} {p pos : Pos} (F : Fit S Γ X C W) (hs : S.scope.names.lookup x = some .globalImplicit) (hg : S.globs.lookup x = some (.fn i)) (hgf : S.gf i = true → S.gr = true) (hd : (x == ("__debug__" : Str)) = false) :
    PE X (.Call (.Name x p) [] [] pos) (tE Γ C W n (.call i [])) := by
  cases n with
  | zero => exact no_E
  | succ n =>
    obtain ⟨h1, h2⟩ := F.gl x i hg
    obtain ⟨k, h3, h4⟩ := F.fns i (F.gi x i hg)
    have gl : Gl X x := by show X.env.scope.names.lookup x = _; rw [F.sc]; exact hs
    refine ⟨fun pins s σ H Q I q => ?_⟩
    obtain ⟨w, ms, h, rfl, S', l, A⟩ := q
    refine wpAny_Call_Name_kw (ld_glob I gl h1 ?_ hd)
    refine PySem.W.callWith_K0 I.kIn h2 (run_fnC (us := []) (vs := []) (E := WE W) h3 (fun z => F.gr (hgf z)) h4 (passAt F.tk σ) I .nil .nil ?_)
    exact ⟨w, h, [], [], rfl, S', Reps.nil, .nil, A⟩

def rN (Γ : G) (f : List D → MH → Res D) : List V → Hp → VK → Prop := fun xs H Q => ∃ w h ds Wx, w.H = H ∧ Sim Γ w h ∧ Reps Γ w ds xs ∧ Aft Γ w (f ds h) (Val Γ Q) Wx
theorem e_prim {n : Nat} {pr : Prim} {x : Str} {id : String} {e : Expr} {es : List Expr} {mes : List ME} {p pos : Pos} (F : Fit S Γ X C W) (hs : S.scope.names.lookup x = some .globalImplicit) (hg : x ∈ S.nob) (hv : bootBuiltins x = some (.builtin id)) (hc : CallR X (.builtin id) (rN Γ (primD pr)))
    (ha : ∀ n, PA X (e :: es) (tA Γ C W n mes)) (hn : x ≠ "__name__") (hd : (x == ("__debug__" : Str)) = false) (he : starEach (e :: es) X.env = (false, eval e X.env) :: starEach es X.env) (hpl : (backTo pos (starEach es X.env)).any (·.1) = false) :
    PE X (.Call (.Name x p) (e :: es) [] pos) (tE Γ C W n (.prim pr mes)) := by
  cases n with
  | zero => exact no_E
  | succ n =>
    have gl : Gl X x := by show X.env.scope.names.lookup x = _; rw [F.sc]; exact hs
    refine PE.imp (pe_callB hc gl (F.gn x hg) hv (ha n) hn hd he hpl) fun σ H Q q => ?_
    obtain ⟨w, ms, h, rfl, S', l, A⟩ := q
    refine ⟨w, ms, h, rfl, S', l, A.bind.imp (fun ds w1 h1 e1 s1 A1 vs rvs => ?_) (fun _ _ _ _ _ _ x => x)⟩
    exact ⟨w1, h1, ds, _, rfl, s1, rvs, A1⟩
theorem e_primT {n : Nat} {pr : Prim} {x : Str} {T : String} {e : Expr} {es : List Expr} {mes : List ME} {p pos : Pos} (F : Fit S Γ X C W) (hs : S.scope.names.lookup x = some .globalImplicit) (hg : x ∈ S.nob) (hv : bootBuiltins x = some (.type T)) (hc : CallR X (.type T) (rN Γ (primD pr)))
    (ha : ∀ n, PA X (e :: es) (tA Γ C W n mes)) (hn : x ≠ "__name__") (hd : (x == ("__debug__" : Str)) = false) (he : starEach (e :: es) X.env = (false, eval e X.env) :: starEach es X.env) (hpl : (backTo pos (starEach es X.env)).any (·.1) = false) :
    PE X (.Call (.Name x p) (e :: es) [] pos) (tE Γ C W n (.prim pr mes)) := by
  cases n with
  | zero => exact no_E
  | succ n =>
    have gl : Gl X x := by show X.env.scope.names.lookup x = _; rw [F.sc]; exact hs
    refine PE.imp (pe_callTy hc gl (F.gn x hg) hv (ha n) hn hd he hpl) fun σ H Q q => ?_
    obtain ⟨w, ms, h, rfl, S', l, A⟩ := q
    refine ⟨w, ms, h, rfl, S', l, A.bind.imp (fun ds w1 h1 e1 s1 A1 vs rvs => ?_) (fun _ _ _ _ _ _ x => x)⟩
    exact ⟨w1, h1, ds, _, rfl, s1, rvs, A1⟩
end
end R
namespace R
open PySem PySem.Spec PyProof.Rows L2
section
variable {S : Sc} {Γ : G} {X : Cx} {C : Cal} {W : WX}

def ItOk (Γ : G) (w : Vw) (J : It) (it : MIt) : Prop := ∀ w' h', Ext Γ w w' → Sim Γ w' h' → ∀ i, match it.at i h' with
  | none => True
  | some none => J.stop i w'.H
  | some (some d) => J.go i w'.H ∧ ∀ x H', J.yld i w'.H x H' → ∃ w'', w''.H = H' ∧ Ext Γ w' w'' ∧ Sim Γ w'' h' ∧ Rep Γ w'' d x

/-- the walk of a tuple -/
theorem itok_tup {w : Vw} {a : Addr} {xs : List V} {ds : List D} (h1 : SqT Γ.K w.H a xs) (r : Reps Γ w ds xs) : ItOk Γ w (Itt Γ.K a) (.vals ds) := by
  intro w' h' e s i
  show match some ds[i]? with | none => True | some none => _ | some (some d) => _
  cases q : ds[i]? with
  | none => exact ⟨xs, e.t _ _ h1, by rw [r.length]; exact List.getElem?_eq_none_iff.mp q⟩
  | some d =>
    obtain ⟨v, h2, h3⟩ := r.get q
    refine ⟨⟨xs, v, e.t _ _ h1, h2⟩, fun x H' y => ?_⟩
    obtain ⟨rfl, y⟩ := y
    have hv := y xs (e.t _ _ h1)
    rw [h2] at hv; cases hv
    exact ⟨w', rfl, .refl _, s, h3.mono e⟩
theorem itok_scr {w : Vw} {a : Addr} {xs : List V} {ds : List D} (h1 : Fz Γ.K w.H a xs) (r : Reps Γ w ds xs) : ItOk Γ w (Itl Γ.K a) (.vals ds) := by
  intro w' h' e s i
  show match some ds[i]? with | none => True | some none => _ | some (some d) => _
  cases q : ds[i]? with
  | none => exact ⟨xs, (e.z _ _ h1).sq, by rw [r.length]; exact List.getElem?_eq_none_iff.mp q⟩
  | some d =>
    obtain ⟨v, h2, h3⟩ := r.get q
    refine ⟨⟨xs, v, (e.z _ _ h1).sq, h2⟩, fun x H' y => ?_⟩
    obtain ⟨rfl, y⟩ := y
    have hv := y xs (e.z _ _ h1).sq
    rw [h2] at hv; cases hv
    exact ⟨w', rfl, .refl _, s, h3.mono e⟩
theorem itok_flst {w : Vw} {a : Addr} {xs : List V} {ds : List D} (hm : w.M a = 1) (h1 : w.H a = some (.lst xs)) (r : Reps Γ w ds xs) : ItOk Γ w (Itl Γ.K a) (.vals ds) := by
  intro w' h' e s i
  have h1' : SqL Γ.K w'.H a xs := .of (e.e0.p a _ hm h1).2
  show match some ds[i]? with | none => True | some none => _ | some (some d) => _
  cases q : ds[i]? with
  | none => exact ⟨xs, h1', by rw [r.length]; exact List.getElem?_eq_none_iff.mp q⟩
  | some d =>
    obtain ⟨v, h2, h3⟩ := r.get q
    refine ⟨⟨xs, v, h1', h2⟩, fun x H' y => ?_⟩
    obtain ⟨rfl, y⟩ := y
    have hv := y xs h1'
    rw [h2] at hv; cases hv
    exact ⟨w', rfl, .refl _, s, h3.mono e⟩
theorem itok_list {w : Vw} {n : Nat} (hn : n < w.k) : ItOk Γ w (Itl Γ.K (w.ρ n)) (.list n) := by
  intro w' h' e s i
  show match (match h'.get n with | some (.lst xs) => some xs[i]? | _ => none) with | none => True | some none => _ | some (some d) => _
  cases q : h'.get n with
  | none => trivial
  | some o =>
    cases o with
    | lst ds =>
      obtain ⟨xs, h1, h2⟩ := s.lst q
      rw [e.ρ n hn] at h1
      cases q2 : ds[i]? with
      | none =>
        show (match (some (ds[i]?) : Option (Option D)) with | none => True | some none => (Itl Γ.K (w.ρ n)).stop i w'.H | some (some d) => _)
        rw [q2]
        exact ⟨xs, .of h1, by rw [h2.length]; exact List.getElem?_eq_none_iff.mp q2⟩
      | some d =>
        show (match (some (ds[i]?) : Option (Option D)) with | none => True | some none => (Itl Γ.K (w.ρ n)).stop i w'.H | some (some d) => (Itl Γ.K (w.ρ n)).go i w'.H ∧ ∀ x H', (Itl Γ.K (w.ρ n)).yld i w'.H x H' → ∃ w'', w''.H = H' ∧ Ext Γ w' w'' ∧ Sim Γ w'' h' ∧ Rep Γ w'' d x)
        rw [q2]
        obtain ⟨v, h3, h4⟩ := h2.get q2
        refine ⟨⟨xs, v, .of h1, h3⟩, fun x H' y => ?_⟩
        obtain ⟨rfl, y⟩ := y
        have hv := y xs (.of h1)
        rw [h3] at hv; cases hv
        exact ⟨w', rfl, .refl _, s, h4⟩
    | _ => trivial
theorem itok_rng {w : Vw} {lo : Int} {n : Nat} : ItOk Γ w (Itr lo n) (.rng lo n) := by
  intro w' h' e s i
  show match some (if i < n then some (D.int (lo + i)) else none) with | none => True | some none => _ | some (some d) => _
  by_cases q : i < n
  · rw [if_pos q]
    refine ⟨q, fun x H' y => ?_⟩
    obtain ⟨rfl, rfl⟩ := y
    exact ⟨w', rfl, .refl _, s, rfl⟩
  · rw [if_neg q]
    exact Nat.le_of_not_lt q
theorem sim_tup2 {w : Vw} {h : MH} {T : Addr} {x y : V} {a b : D} (s : Sim Γ w h) (hT : w.H T = none) (ra : Rep Γ w a x) (rb : Rep Γ w b y) :
    ∃ w'', w''.H = upd w.H T (.tup [x, y]) ∧ Ext Γ w w'' ∧ Sim Γ w'' h ∧ Rep Γ w'' (.tup [a, b]) (.ref T) := by
  obtain ⟨s', e', r'⟩ := s.tup hT (.cons ra (.cons rb .nil))
  exact ⟨_, rfl, e', s', r'⟩
theorem itok_enum {w : Vw} {n : Nat} (hn : n < w.k) : ItOk Γ w (Ite Γ.K (w.ρ n)) (.enumL n) := by
  intro w' h' e s i
  show match (match h'.get n with | some (.lst xs) => some (xs[i]?.map fun d => D.tup [.int i, d]) | _ => none) with | none => True | some none => _ | some (some d) => _
  cases q : h'.get n with
  | none => trivial
  | some o =>
    cases o with
    | lst ds =>
      obtain ⟨xs, h1, h2⟩ := s.lst q
      rw [e.ρ n hn] at h1
      cases q2 : ds[i]? with
      | none =>
        show (match (some (ds[i]?.map fun d => D.tup [.int i, d]) : Option (Option D)) with | none => True | some none => (Ite Γ.K (w.ρ n)).stop i w'.H | some (some d) => _)
        rw [q2]
        exact ⟨xs, .of h1, by rw [h2.length]; exact List.getElem?_eq_none_iff.mp q2⟩
      | some d =>
        show (match (some (ds[i]?.map fun d => D.tup [.int i, d]) : Option (Option D)) with | none => True | some none => (Ite Γ.K (w.ρ n)).stop i w'.H | some (some d) => (Ite Γ.K (w.ρ n)).go i w'.H ∧ ∀ x H', (Ite Γ.K (w.ρ n)).yld i w'.H x H' → ∃ w'', w''.H = H' ∧ Ext Γ w' w'' ∧ Sim Γ w'' h' ∧ Rep Γ w'' d x)
        rw [q2]
        obtain ⟨v, h3, h4⟩ := h2.get q2
        refine ⟨⟨xs, v, .of h1, h3⟩, fun x H' y => ?_⟩
        obtain ⟨T, x', rfl, hT, rfl, y⟩ := y
        have hv := y xs (.of h1)
        rw [h3] at hv; cases hv
        exact sim_tup2 s hT rfl h4
    | _ => trivial
theorem itok_enumV {w : Vw} {a : Addr} {xs : List V} {ds : List D} (hm : w.M a = 1) (h1 : w.H a = some (.lst xs)) (r : Reps Γ w ds xs) : ItOk Γ w (Ite Γ.K a) (.enumV ds) := by
  intro w' h' e s i
  have h1' : SqL Γ.K w'.H a xs := .of (e.e0.p a _ hm h1).2
  show match some (ds[i]?.map fun d => D.tup [.int i, d]) with | none => True | some none => _ | some (some d) => _
  cases q : ds[i]? with
  | none => exact ⟨xs, h1', by rw [r.length]; exact List.getElem?_eq_none_iff.mp q⟩
  | some d =>
    obtain ⟨v, h3, h4⟩ := r.get q
    refine ⟨⟨xs, v, h1', h3⟩, fun x H' y => ?_⟩
    obtain ⟨T, x', rfl, hT, rfl, y⟩ := y
    have hv := y xs h1'
    rw [h3] at hv; cases hv
    exact sim_tup2 s hT rfl (h4.mono e)
theorem itok_zip {w : Vw} {n m : Nat} (hn : n < w.k) (hm : m < w.k) : ItOk Γ w (Itz Γ.K (w.ρ n) (w.ρ m)) (.zipLL n m) := by
  intro w' h' e s i
  have key : ∀ r, MIt.at (.zipLL n m) i h' = r → (match r with | none => True | some none => (Itz Γ.K (w.ρ n) (w.ρ m)).stop i w'.H | some (some d) => (Itz Γ.K (w.ρ n) (w.ρ m)).go i w'.H ∧ ∀ x H', (Itz Γ.K (w.ρ n) (w.ρ m)).yld i w'.H x H' → ∃ w'', w''.H = H' ∧ Ext Γ w' w'' ∧ Sim Γ w'' h' ∧ Rep Γ w'' d x) := by
    intro r hr
    have hr : (match h'.get n, h'.get m with
      | some (.lst xs), some (.lst ys) => (match xs[i]?, ys[i]? with
        | some x, some y => some (some (D.tup [x, y]))
        | none, _ => some none
        | some _, none => some none)
      | _, _ => none) = r := hr
    split at hr
    · rename_i ds es q1 q2
      obtain ⟨xs, h1, h2⟩ := s.lst q1
      obtain ⟨ys, h3, h4⟩ := s.lst q2
      rw [e.ρ n hn] at h1
      rw [e.ρ m hm] at h3
      split at hr
      · rename_i x y q3 q4
        subst hr
        obtain ⟨v, h5, h6⟩ := h2.get q3
        obtain ⟨u, h7, h8⟩ := h4.get q4
        refine ⟨⟨xs, ys, v, u, .of h1, .of h3, h5, h7⟩, fun z H' yy => ?_⟩
        obtain ⟨T, x', y', rfl, hT, rfl, y1, y2⟩ := yy
        have hv := y1 xs (.of h1)
        rw [h5] at hv; cases hv
        have hu := y2 ys (.of h3)
        rw [h7] at hu; cases hu
        exact sim_tup2 s hT h6 h8
      · rename_i q3
        subst hr
        exact ⟨xs, ys, .of h1, .of h3, .inl (by rw [h2.length]; exact List.getElem?_eq_none_iff.mp q3)⟩
      · rename_i q3 q4
        subst hr
        exact ⟨xs, ys, .of h1, .of h3, .inr (by rw [h4.length]; exact List.getElem?_eq_none_iff.mp q4)⟩
    · subst hr; trivial
  exact key _ rfl

/-- the reading of what is walked -/
def tI (Γ : G) (C : Cal) (W : WX) (n : Nat) (k : IK) (its : List ME) : TI := fun σ H R => ∃ w ms h, w.H = H ∧ Sim Γ w h ∧ Slt Γ w ms σ ∧ Aft Γ w (evs (fun e h => ev C n e ms h) its h) (fun ds w' h' => ∃ it, iterOf k ds h' = some it ∧ ∀ J, ItOk Γ w' J it → R J w'.H) (WxE Γ W σ)
theorem PI.imp {tg e : Expr} {t t' : TI} (h : PI X tg e t) (i : ∀ σ H Q, t' σ H Q → t σ H Q) : PI X tg e t' := ⟨fun pins s σ H Q I q => h.run pins s σ H Q I (i σ H Q q)⟩
/-- a list or a tuple -/
def iSeq (K : PySem.W.Frag) (tl : TE) : TI := fun σ H R => tl σ H fun x H1 => ∃ a, x = .ref a ∧ (((∃ xs, SqL K H1 a xs) ∧ R (Itl K a) H1) ∨ ((∃ xs, SqT K H1 a xs) ∧ R (Itt K a) H1))
theorem pi_seq {tg l : Expr} {tl : TE} (hl : PE X l tl) : PI X tg l (iSeq X.K tl) := by
  refine ⟨fun pins s σ H R I h => ?_⟩
  refine thn (hl.run pins s σ H _ I h) fun v s1 ⟨x, H1, I1, r1, q1⟩ => ?_
  obtain ⟨a, e, q⟩ := q1
  subst e
  cases r1
  rcases q with ⟨⟨xs, hq⟩, q⟩ | ⟨⟨xs, hq⟩, q⟩
  · obtain ⟨its, rv, p, hz⟩ := I1.list hq
    refine wpAny_pyIter_list p.isList ?_
    refine ⟨s1.heap.objs.size, [s1.heap.objs.size], _, _, H1, rfl, I1.kept (t' := s1.toks) fun b o e => Heap.get?_push_of_some _ e, turn_list a _, ⟨_, Heap.get?_push_size _ rfl, rfl, rfl⟩, fun b hb => ?_, q⟩
    have e : b = s1.heap.objs.size := by simpa using hb
    subst e
    exact I1.fpOk (Nat.le_refl _) (I1.hok.fresh (Nat.le_refl _))
  · obtain ⟨its, rv, p, hz⟩ := I1.tuple hq
    refine wpAny_pyIter_tuple (show s1.heap.IsTuple a its.toArray from p) ?_
    refine ⟨s1.heap.objs.size, [s1.heap.objs.size], _, _, H1, rfl, I1.kept (t' := s1.toks) fun b o e => Heap.get?_push_of_some _ e, turn_tuple a _, ⟨_, Heap.get?_push_size _ rfl, rfl, rfl⟩, fun b hb => ?_, q⟩
    have e : b = s1.heap.objs.size := by simpa using hb
    subst e
    exact I1.fpOk (Nat.le_refl _) (I1.hok.fresh (Nat.le_refl _))
theorem i_seq {n : Nat} {tg e : Expr} {me : ME} (F : Fit S Γ X C W) (he : ∀ n, PE X e (tE Γ C W n me)) : PI X tg e (tI Γ C W n .seq [me]) := by
  refine PI.imp (pi_seq (he n)) fun σ H R q => ?_
  obtain ⟨w, ms, h, rfl, S', l, A⟩ := q
  have A : Aft Γ w ((ev C n me ms h).bind fun d h => .ok [d] h) (fun ds w' h' => ∃ it, iterOf .seq ds h' = some it ∧ ∀ J, ItOk Γ w' J it → R J w'.H) (WxE Γ W σ) := A
  refine tE_ofα S' l A fun x w1 h1 e1 s1 A1 v rv => ?_
  obtain ⟨it, e2, q2⟩ := A1.here s1
  cases x with
  | tup ds =>
    obtain ⟨a, xs, rfl, h2, h3⟩ := rv
    cases e2
    exact ⟨a, rfl, .inr ⟨⟨xs, F.K ▸ h2⟩, F.K ▸ q2 _ (itok_tup h2 h3)⟩⟩
  | scr ds =>
    obtain ⟨a, xs, rfl, h2, h3⟩ := rv
    cases e2
    exact ⟨a, rfl, .inl ⟨⟨xs, F.K ▸ h2.sq⟩, F.K ▸ q2 _ (itok_scr h2 h3)⟩⟩
  | flst ds =>
    obtain ⟨a, xs, rfl, hm, h2, h3⟩ := rv
    cases e2
    exact ⟨a, rfl, .inl ⟨⟨xs, .of h2⟩, F.K ▸ q2 _ (itok_flst hm h2 h3)⟩⟩
  | ref m =>
    obtain ⟨hm, rfl⟩ := rv
    have e2 : (match h1.get m with | some (.lst _) => some (MIt.list m) | _ => none) = some it := e2
    split at e2
    · rename_i xs hg
      cases e2
      obtain ⟨us, h2, h3⟩ := s1.lst hg
      exact ⟨_, rfl, .inl ⟨⟨us, .of h2⟩, F.K ▸ q2 _ (itok_list hm)⟩⟩
    · cases e2
  | _ => cases e2
theorem i_range1 {n : Nat} {tg a : Expr} {ma : ME} {p pos : Pos} (F : Fit S Γ X C W) (hs : S.scope.names.lookup ("range" : Str) = some .globalImplicit) (hg : ("range" : Str) ∈ S.nob) (ha : ∀ n, PA X [a] (tA Γ C W n [ma])) (hst : starEach [a] X.env = [(false, eval a X.env)]) :
    PI X tg (.Call (.Name "range" p) [a] [] pos) (tI Γ C W n .range1 [ma]) := by
  have gl : Gl X "range" := by show X.env.scope.names.lookup ("range" : Str) = _; rw [F.sc]; exact hs
  refine PI.imp (pi_range1 gl (F.gn _ hg) (ha n) hst) fun σ H R q => ?_
  obtain ⟨w, ms, h, rfl, S', l, A⟩ := q
  refine ⟨w, ms, h, rfl, S', l, A.imp (fun ds w1 h1 e1 s1 q vs rvs => ?_) (fun _ _ _ _ _ _ x => x)⟩
  obtain ⟨it, e2, q2⟩ := q
  cases ds with
  | nil => cases e2
  | cons d ds =>
    obtain ⟨v, vs', rfl, r1, r2⟩ := rvs
    cases d with
    | int j =>
      cases ds with
      | nil =>
        cases r2; cases r1
        have e2 : (if ltB 61 j then some (MIt.rng 0 j.toNat) else none) = some it := e2
        by_cases hz : ltB 61 j = true
        · rw [if_pos hz] at e2
          cases e2
          have hz := (ltB_iff (by decide)).mp hz
          exact ⟨j, rfl, by omega, by omega, q2 _ itok_rng⟩
        · rw [if_neg hz] at e2; cases e2
      | cons d' ds' => cases e2
    | _ => cases e2
theorem i_range2 {n : Nat} {tg a b : Expr} {ma mb : ME} {p pos : Pos} (F : Fit S Γ X C W) (hs : S.scope.names.lookup ("range" : Str) = some .globalImplicit) (hg : ("range" : Str) ∈ S.nob) (ha : ∀ n, PA X [a, b] (tA Γ C W n [ma, mb])) (hst : starEach [a, b] X.env = [(false, eval a X.env), (false, eval b X.env)])
    (hst2 : starEach [b] X.env = [(false, eval b X.env)]) : PI X tg (.Call (.Name "range" p) [a, b] [] pos) (tI Γ C W n .range2 [ma, mb]) := by
  have gl : Gl X "range" := by show X.env.scope.names.lookup ("range" : Str) = _; rw [F.sc]; exact hs
  refine PI.imp (pi_range2 gl (F.gn _ hg) (ha n) hst hst2) fun σ H R q => ?_
  obtain ⟨w, ms, h, rfl, S', l, A⟩ := q
  refine ⟨w, ms, h, rfl, S', l, A.imp (fun ds w1 h1 e1 s1 q vs rvs => ?_) (fun _ _ _ _ _ _ x => x)⟩
  obtain ⟨it, e2, q2⟩ := q
  match ds, e2, rvs with
  | [.int i, .int j], e2, rvs =>
    obtain ⟨v, vs', rfl, r1, u, us', rfl, r2, r3⟩ := rvs
    cases r1; cases r2; cases r3
    have e2 : (if ltB 61 i && ltB 61 j then some (MIt.rng i (j - i).toNat) else none) = some it := e2
    by_cases hz : (ltB 61 i && ltB 61 j) = true
    · rw [if_pos hz] at e2
      cases e2
      simp only [Bool.and_eq_true, ltB_iff (k := 61) (by decide)] at hz
      exact ⟨i, j, rfl, ⟨by omega, by omega, by omega, by omega⟩, q2 _ itok_rng⟩
    · rw [if_neg hz] at e2; cases e2
theorem i_enum {n : Nat} {a : Expr} {ma : ME} {p pos tpos : Pos} {elts : List Expr} {kk : Nat} (F : Fit S Γ X C W) (hs : S.scope.names.lookup ("enumerate" : Str) = some .globalImplicit) (hg : ("enumerate" : Str) ∈ S.nob) (ha : ∀ n, PA X [a] (tA Γ C W n [ma])) (hst : starEach [a] X.env = [(false, eval a X.env)]) :
    PI X (.Tuple elts kk tpos) (.Call (.Name "enumerate" p) [a] [] pos) (tI Γ C W n .enum [ma]) := by
  have gl : Gl X "enumerate" := by show X.env.scope.names.lookup ("enumerate" : Str) = _; rw [F.sc]; exact hs
  refine PI.imp (pi_enum gl (F.gn _ hg) (ha n) hst) fun σ H R q => ?_
  obtain ⟨w, ms, h, rfl, S', l, A⟩ := q
  refine ⟨w, ms, h, rfl, S', l, A.imp (fun ds w1 h1 e1 s1 q vs rvs => ?_) (fun _ _ _ _ _ _ x => x)⟩
  obtain ⟨it, e2, q2⟩ := q
  cases ds with
  | nil => cases e2
  | cons d ds =>
    obtain ⟨v, vs', rfl, r1, r2⟩ := rvs
    cases d with
    | flst es =>
      cases ds with
      | nil =>
        cases r2
        obtain ⟨a, xs, rfl, hm, h2, h3⟩ := r1
        cases e2
        exact ⟨a, xs, rfl, .of h2, F.K ▸ q2 _ (itok_enumV hm h2 h3)⟩
      | cons d' ds' => cases e2
    | ref m =>
      cases ds with
      | nil =>
        cases r2
        obtain ⟨hm, rfl⟩ := r1
        have e2 : (match h1.get m with | some (.lst _) => some (MIt.enumL m) | _ => none) = some it := e2
        split at e2
        · rename_i xs hg
          cases e2
          obtain ⟨us, h2, h3⟩ := s1.lst hg
          exact ⟨_, us, rfl, .of h2, F.K ▸ q2 _ (itok_enum hm)⟩
        · cases e2
      | cons d' ds' => cases e2
    | _ => cases e2
end
end R
namespace R
open PySem PySem.Spec PyProof.Rows L2
section
variable {S : Sc} {Γ : G} {X : Cx} {C : Cal} {W : WX}

def MT.slots : MT → List Nat
  | .name i => [i]
  | .tup ts => slotsL ts
where slotsL : List MT → List Nat
  | [] => []
  | t :: ts => t.slots ++ slotsL ts
theorem wipe_set' {σ : L2.St} {i : Nat} {x : Option V} : ∀ (vs : List Nat), wipe (σ.set i x) vs = if i ∈ vs then wipe σ vs else (wipe σ vs).set i x
  | [] => by simp [wipe]
  | u :: us => by
    unfold wipe
    rw [wipe_set' us]
    by_cases e : u = i
    · subst e
      by_cases h : u ∈ us
      · simp [h]
      · simp [h]
    · by_cases h : i ∈ us
      · simp [h]
      · have e' : ¬ i = u := fun z => e z.symm
        simp only [h, if_false, List.mem_cons, e', or_self]
        exact List.set_comm _ _ e'
theorem wipe_set {σ : L2.St} {i : Nat} {x : Option V} {vs : List Nat} (h : i ∈ vs) : wipe (σ.set i x) vs = wipe σ vs := by
  rw [wipe_set' vs, if_pos h]
/-- behind a target's store -/
def Stored (Γ : G) (w : Vw) (ms' : MSt) (σ σ' : L2.St) (sl : List Nat) : Prop := Slt Γ w ms' σ' ∧ ∀ vs, (∀ i ∈ sl, i ∈ vs) → wipe σ' vs = wipe σ vs
def tG (Γ : G) (n : Nat) (t : MT) : TG := fun v σ H Q => ∃ w ms h d, w.H = H ∧ Sim Γ w h ∧ Slt Γ w ms σ ∧ Rep Γ w d v ∧ ∃ ms', asgT n t d h ms = some ms' ∧ ∀ σ', Stored Γ w ms' σ σ' t.slots → Q σ' w.H
def tGs (Γ : G) (n : Nat) (ts : List MT) : TGs := fun vs σ H Q => ∃ w ms h ds, w.H = H ∧ Sim Γ w h ∧ Slt Γ w ms σ ∧ Reps Γ w ds vs ∧ ∃ ms', asgT.asgTs (asgT n) ts ds h ms = some ms' ∧ ∀ σ', Stored Γ w ms' σ σ' (MT.slots.slotsL ts) → Q σ' w.H
theorem PG.imp {e : Expr} {t t' : TG} (h : PG X e t) (i : ∀ v σ H Q, t' v σ H Q → t v σ H Q) : PG X e t' := ⟨fun pins s σ H v u Q I r q => h.run pins s σ H v u Q I r (i v σ H Q q)⟩
theorem PGs.imp {e : List Expr} {t t' : TGs} (h : PGs X e t) (i : ∀ v σ H Q, t' v σ H Q → t v σ H Q) : PGs X e t' := ⟨fun pins s σ H v u Q I r q => h.run pins s σ H v u Q I r (i v σ H Q q)⟩
theorem g_name {n i : Nat} {x : Str} {pos : Pos} (F : Fit S Γ X C W) (hi : S.N[i]? = some x) (hx : Loc S.scope x) (hst : S.sto x = true) : PG X (.Name x pos) (tG Γ n (.name i)) := by
  have hf : X.fn x = true ∨ X.env.scope.names.lookup x = some .local := by
    rw [F.sc]
    exact F.own x hst hx
  refine PG.imp (pg_name (i := i) (by rw [F.N]; exact F.nd) (by rw [F.N]; exact hi) (by rw [F.sc]; exact hx) hf) fun v σ H Q q => ?_
  obtain ⟨w, ms, h, d, rfl, S', l, r, ms', e, q⟩ := q
  cases n with
  | zero => cases e
  | succ n =>
    cases e
    exact q _ ⟨l.set i r, fun vs hv => wipe_set (hv i (by simp [MT.slots]))⟩
theorem gs_nil {n : Nat} : PGs X [] (tGs Γ n []) := PGs.imp pgs_nil fun vs σ H Q q => by
  obtain ⟨w, ms, h, ds, rfl, S', l, r, ms', e, q⟩ := q
  cases ds with
  | nil => cases r; cases e; exact ⟨rfl, q σ ⟨l, fun _ _ => rfl⟩⟩
  | cons _ _ => cases e
theorem gs_cons {n : Nat} {e : Expr} {es : List Expr} {t : MT} {ts : List MT} (h1 : PG X e (tG Γ n t)) (h2 : PGs X es (tGs Γ n ts)) (ha : ∀ es env, assignEach (e :: es) env = (false, assign e env) :: assignEach es env) : PGs X (e :: es) (tGs Γ n (t :: ts)) :=
  PGs.imp (pgs_cons h1 h2 (by rw [ha]; rfl)) fun vs σ H Q q => by
    obtain ⟨w, ms, h, ds, rfl, S', l, r, ms', e, q⟩ := q
    cases ds with
    | nil => cases e
    | cons d ds =>
      obtain ⟨v, vs', rfl, r1, r2⟩ := r
      have e : (match asgT n t d h ms with | some ms' => asgT.asgTs (asgT n) ts ds h ms' | none => none) = some ms' := e
      cases e1 : asgT n t d h ms with
      | none => rw [e1] at e; cases e
      | some ms1 =>
        rw [e1] at e
        refine ⟨v, vs', rfl, w, ms, h, d, rfl, S', l, r1, ms1, e1, fun σ1 st1 => ?_⟩
        refine ⟨w, ms1, h, ds, rfl, S', st1.1, r2, ms', e, fun σ2 st2 => q σ2 ⟨st2.1, fun us hu => ?_⟩⟩
        rw [st2.2 us fun i hi => hu i (by simp [MT.slots.slotsL, hi]), st1.2 us fun i hi => hu i (by simp [MT.slots.slotsL, hi])]
/-- the facts of a tuple of targets without a star -/
structure NoStar (es : List Expr) : Prop where
  len : ∀ env, (assignEach es env).length = es.length
  idx : ∀ env, (assignEach es env).findIdx? (·.1) = none
theorem NoStar.nil : NoStar [] := ⟨fun _ => rfl, fun _ => rfl⟩
theorem NoStar.cons {e : Expr} {es : List Expr} (ha : ∀ es env, assignEach (e :: es) env = (false, assign e env) :: assignEach es env) (h : NoStar es) : NoStar (e :: es) :=
  ⟨fun env => by rw [ha, List.length_cons, List.length_cons, h.len], fun env => by rw [ha, List.findIdx?_cons]; simp [h.idx]⟩
theorem asgTs_length {f : MT → D → MH → MSt → Option MSt} : ∀ {ts : List MT} {ds : List D} {h : MH} {ms ms' : MSt}, asgT.asgTs f ts ds h ms = some ms' → ds.length = ts.length
  | [], [], _, _, _, _ => rfl
  | [], _ :: _, _, _, _, e => by cases e
  | _ :: _, [], _, _, _, e => by cases e
  | t :: ts, d :: ds, h, ms, ms', e => by
    unfold asgT.asgTs at e
    cases q : f t d h ms with
    | none => rw [q] at e; cases e
    | some m => rw [q] at e; simp [asgTs_length e]
theorem g_tup {n : Nat} {es : List Expr} {ts : List MT} {k : Nat} {pos : Pos} (F : Fit S Γ X C W) (h : ∀ n, PGs X es (tGs Γ n ts)) (ns : NoStar es) (hl : ts.length = es.length) : PG X (.Tuple es k pos) (tG Γ n (.tup ts)) := by
  refine ⟨fun pins s σ H v u Q I r q => ?_⟩
  obtain ⟨w, ms, h', d, rfl, S', l, rd, ms', e, q⟩ := q
  cases n with
  | zero => cases e
  | succ n =>
    have e : (match itemsD d h' with | some ds => asgT.asgTs (asgT n) ts ds h' ms | none => none) = some ms' := e
    cases e1 : itemsD d h' with
    | none => rw [e1] at e; cases e
    | some ds =>
      rw [e1] at e
      obtain ⟨a, xs, rfl, h1, h2⟩ := itemsD_says S' e1 rd
      have len : xs.length = es.length := by rw [h2.length, asgTs_length e, hl]
      have q' : tGs Γ n ts xs σ w.H Q := ⟨w, ms, h', ds, rfl, S', l, h2, ms', e, fun σ' st => q σ' st⟩
      rcases h1 with h1 | h1
      · exact (pg_tup (n := es.length) F.calm (h n) (ns.len _) (ns.idx _)).run pins s σ w.H _ u Q I r ⟨a, xs, rfl, F.K ▸ h1, len, q'⟩
      · exact (pg_lst (n := es.length) F.calm (h n) (ns.len _) (ns.idx _)).run pins s σ w.H _ u Q I r ⟨a, xs, rfl, F.K ▸ h1, len, q'⟩

def FlowOk (Γ : G) (W : WX) (E : Ends) : Flow → Vw → MH → Prop
  | .nx ms, w, _ => ∀ σ, Slt Γ w ms σ → E.nx σ w.H
  | .rt d, w, _ => ∀ v, Rep Γ w d v → E.rt v w.H
  | .bk ms, w, _ => ∀ σ, Slt Γ w ms σ → E.bk σ w.H
  | .ct ms, w, _ => ∀ σ, Slt Γ w ms σ → E.ct σ w.H
  | .xc c fs ms, w, _ => ∀ σ cls d, Slt Γ w ms σ → ExcR Γ w c fs cls d → W cls d σ w.H
def tS (Γ : G) (C : Cal) (W : WX) (n : Nat) (st : MS) : TS := fun E σ H => ∃ w ms h, w.H = H ∧ Sim Γ w h ∧ Slt Γ w ms σ ∧ Aft Γ w (ex C n st ms h) (FlowOk Γ W E) NoX
def tSs (Γ : G) (C : Cal) (W : WX) (n : Nat) (st : List MS) : TS := fun E σ H => ∃ w ms h, w.H = H ∧ Sim Γ w h ∧ Slt Γ w ms σ ∧ Aft Γ w (exs (ex C n) st ms h) (FlowOk Γ W E) NoX
theorem PS.imp {e : Stmt} {t t' : TS} (h : PS X e t) (i : ∀ E σ H, t' E σ H → t E σ H) : PS X e t' := ⟨fun pins s σ H E I q => h.run pins s σ H E I (i E σ H q)⟩
theorem PSs.imp {e : List Stmt} {t t' : TS} (h : PSs X e t) (i : ∀ E σ H, t' E σ H → t E σ H) : PSs X e t' := ⟨fun pins s σ H E I q => h.run pins s σ H E I (i E σ H q)⟩
theorem no_S {e : Stmt} {st : MS} : PS X e (tS Γ C W 0 st) := ⟨fun pins s σ H Q I q => by obtain ⟨w, ms, h, _, _, _, A⟩ := q; exact A.elim⟩

/-- a part's value, then the rest; the part's error is taken -/
theorem Aft.cat {α : Type} {w : Vw} {r : Res α} {f : α → MH → Res Flow} {ms : MSt} {σ : L2.St} {E : Ends} (l : Slt Γ w ms σ) (A : Aft Γ w (r.cat ms f) (FlowOk Γ W E) NoX) : Aft Γ w r (fun a w1 h1 => Aft Γ w1 (f a h1) (FlowOk Γ W E) NoX) (WxE Γ W σ) := by
  cases r with
  | ok a h1 => exact Aft.bind (r := .ok a h1) (f := f) A
  | exc c fs h1 =>
    have A : Aft Γ w (.ok (.xc c fs ms) h1) (FlowOk Γ W E) NoX := A
    intro w1 e1 s1 cls d x
    exact A w1 e1 s1 σ cls d (l.mono e1) x
  | bad => exact A.elim
theorem tE_cat {w : Vw} {ms : MSt} {h : MH} {σ : L2.St} {n : Nat} {e : ME} {Q : VK} {f : D → MH → Res Flow} {E : Ends} (S' : Sim Γ w h) (l : Slt Γ w ms σ) (A : Aft Γ w ((ev C n e ms h).cat ms f) (FlowOk Γ W E) NoX)
    (hq : ∀ d w' h', Ext Γ w w' → Sim Γ w' h' → Aft Γ w' (f d h') (FlowOk Γ W E) NoX → ∀ v, Rep Γ w' d v → Q v w'.H) : tE Γ C W n e σ w.H Q :=
  ⟨w, ms, h, rfl, S', l, (A.cat l).imp (fun d w' h' e s a => hq d w' h' e s a) (fun _ _ _ _ _ _ x => x)⟩
theorem tT_cat {w : Vw} {ms : MSt} {h : MH} {σ : L2.St} {n : Nat} {e : ME} {Q : Bool → Hp → Prop} {f : Bool → MH → Res Flow} {E : Ends} (S' : Sim Γ w h) (l : Slt Γ w ms σ) (A : Aft Γ w ((ev C n e ms h).cat ms fun x h => (truR x h).cat ms f) (FlowOk Γ W E) NoX)
    (hq : ∀ b w' h', Ext Γ w w' → Sim Γ w' h' → Aft Γ w' (f b h') (FlowOk Γ W E) NoX → Q b w'.H) : tT Γ C W n e σ w.H Q := by
  refine ⟨w, ms, h, rfl, S', l, ?_⟩
  have A' : Aft Γ w (((ev C n e ms h).bind truR).cat ms f) (FlowOk Γ W E) NoX := by
    cases q : ev C n e ms h with
    | ok d h1 => rw [q] at A; exact A
    | exc c fs h1 => rw [q] at A; exact A
    | bad => rw [q] at A; exact A
  exact (A'.cat l).imp (fun d w' h' e s a => hq d w' h' e s a) (fun _ _ _ _ _ _ x => x)

theorem ss_nil {n : Nat} : PSs X [] (tSs Γ C W n []) := PSs.imp pss_nil fun E σ H q => by
  obtain ⟨w, ms, h, rfl, S', l, A⟩ := q
  exact A.here S' σ l
theorem ss_cons {n : Nat} {st : Stmt} {rest : List Stmt} {m : MS} {ms : List MS} (h1 : ∀ n, PS X st (tS Γ C W n m)) (h2 : ∀ n, PSs X rest (tSs Γ C W n ms)) : PSs X (st :: rest) (tSs Γ C W n (m :: ms)) :=
  PSs.imp (pss_cons (h1 n) (h2 n)) fun E σ H q => by
    obtain ⟨w, sl, h, rfl, S', l, A⟩ := q
    refine ⟨w, sl, h, rfl, S', l, A.bind.imp (fun f w1 h1 e1 s1 A1 => ?_) (fun _ _ _ _ _ _ x => x)⟩
    cases f with
    | nx ms1 => exact fun σ1 l1 => ⟨w1, ms1, h1, rfl, s1, l1, A1⟩
    | rt d => exact A1.here s1
    | bk ms1 => exact A1.here s1
    | ct ms1 => exact A1.here s1
    | xc c fs ms1 => exact A1.here s1
theorem s_pass {n : Nat} {pos : Pos} : PS X (.Pass pos) (tS Γ C W n .pass) := by
  cases n with
  | zero => exact no_S
  | succ n =>
    refine PS.imp ps_pass fun E σ H q => ?_
    obtain ⟨w, ms, h, rfl, S', l, A⟩ := q
    exact A.here S' σ l
theorem s_brk {n : Nat} {pos : Pos} : PS X (.Break pos) (tS Γ C W n .brk) := by
  cases n with
  | zero => exact no_S
  | succ n =>
    refine PS.imp ps_break fun E σ H q => ?_
    obtain ⟨w, ms, h, rfl, S', l, A⟩ := q
    exact A.here S' σ l
theorem s_cont {n : Nat} {pos : Pos} : PS X (.Continue pos) (tS Γ C W n .cont) := by
  cases n with
  | zero => exact no_S
  | succ n =>
    refine PS.imp ps_continue fun E σ H q => ?_
    obtain ⟨w, ms, h, rfl, S', l, A⟩ := q
    exact A.here S' σ l
theorem s_doc {n : Nat} {x j pos pos'} : PS X (.Expr (.Constant (.str x) j pos) pos') (tS Γ C W n .pass) := by
  cases n with
  | zero => exact no_S
  | succ n =>
    refine PS.imp ps_doc fun E σ H q => ?_
    obtain ⟨w, ms, h, rfl, S', l, A⟩ := q
    exact A.here S' σ l
theorem s_expr {n : Nat} {e : Expr} {me : ME} {pos : Pos} (he : ∀ n, PE X e (tE Γ C W n me)) (hs : swapsWith e none pos.line X.env = pure false) : PS X (.Expr e pos) (tS Γ C W n (.expr me)) := by
  cases n with
  | zero => exact no_S
  | succ n =>
    refine PS.imp (ps_expr (he n) hs) fun E σ H q => ?_
    obtain ⟨w, ms, h, rfl, S', l, A⟩ := q
    exact tE_cat S' l A fun x w1 h1 e1 s1 A1 v rv => A1.here s1 σ (l.mono e1)
theorem s_ret {n : Nat} {e : Expr} {me : ME} {pos : Pos} (he : ∀ n, PE X e (tE Γ C W n me)) : PS X (.Return (some e) pos) (tS Γ C W n (.ret me)) := by
  cases n with
  | zero => exact no_S
  | succ n =>
    refine PS.imp (ps_ret (he n)) fun E σ H q => ?_
    obtain ⟨w, ms, h, rfl, S', l, A⟩ := q
    exact tE_cat S' l A fun x w1 h1 e1 s1 A1 v rv => A1.here s1 v rv
theorem s_retN {n : Nat} {pos : Pos} : PS X (.Return none pos) (tS Γ C W (n + 1) (.ret (.lit .none))) := PS.imp ps_retN fun E σ H q => by
  obtain ⟨w, ms, h, rfl, S', l, A⟩ := q
  cases n with
  | zero => exact A.elim
  | succ n => exact A.here S' _ rfl
theorem s_if {n : Nat} {c : Expr} {a b : List Stmt} {mc : ME} {ma mb : List MS} {pos : Pos} (hc : ∀ n, PT X c (tT Γ C W n mc)) (ha : ∀ n, PSs X a (tSs Γ C W n ma)) (hb : ∀ n, PSs X b (tSs Γ C W n mb)) : PS X (.If c a b pos) (tS Γ C W n (.ite mc ma mb)) := by
  cases n with
  | zero => exact no_S
  | succ n =>
    refine PS.imp (ps_if (hc n) (ha n) (hb n)) fun E σ H q => ?_
    obtain ⟨w, ms, h, rfl, S', l, A⟩ := q
    refine tT_cat S' l A fun t w1 h1 e1 s1 A1 => ?_
    cases t with
    | true => exact ⟨w1, ms, h1, rfl, s1, l.mono e1, A1⟩
    | false => exact ⟨w1, ms, h1, rfl, s1, l.mono e1, A1⟩
theorem asg_says {w : Vw} {h : MH} {n : Nat} {t : MT} {d : D} {ms : MSt} {σ : L2.St} {v : V} {E : Ends} (A : Aft Γ w (match asgT n t d h ms with | some ms' => .ok (.nx ms') h | none => .bad) (FlowOk Γ W E) NoX) (S' : Sim Γ w h) (l : Slt Γ w ms σ) (r : Rep Γ w d v) : tG Γ n t v σ w.H E.nx := by
  cases q : asgT n t d h ms with
  | none => rw [q] at A; exact A.elim
  | some ms' =>
    rw [q] at A
    exact ⟨w, ms, h, d, rfl, S', l, r, ms', q, fun σ' st => A.here S' σ' st.1⟩
/-- target = value, no store swapped -/
theorem s_asg {n : Nat} {tg e : Expr} {t : MT} {me : ME} {pos : Pos} (he : ∀ n, PE X e (tE Γ C W n me)) (hg : ∀ n, PG X tg (tG Γ n t)) (hs : swapsWithSole [tg] e pos.line X.env = pure false) (hw : swappedStores [tg] e X.env = pure none)
    (h1 : (assignEach [tg] X.env).map (·.2) = [assign tg X.env]) : PS X (.Assign [tg] e pos) (tS Γ C W n (.asg t me)) := by
  cases n with
  | zero => exact no_S
  | succ n =>
    refine PS.imp (ps_asg (he n) (hg n) hs hw h1) fun E σ H q => ?_
    obtain ⟨w, ms, h, rfl, S', l, A⟩ := q
    exact tE_cat S' l A fun x w1 h1 e1 s1 A1 v rv => asg_says A1 s1 (l.mono e1) rv

def rSetM (Γ : G) : TSet := fun o i v H Q => ∃ w h a b c Wx, w.H = H ∧ Sim Γ w h ∧ Rep Γ w a o ∧ Rep Γ w b i ∧ Rep Γ w c v ∧ Aft Γ w (setIxD a b c h) (fun _ w' _ => Q w'.H) Wx
theorem set_any : PSet X (rSetM Γ) := by
  intro pins s σ H o i v ov iv u Q I ro ri rv h
  obtain ⟨w, h, a, b, c, Wx, rfl, S', ra, rb, rc, A⟩ := h
  cases a with
  | ref n =>
    obtain ⟨_, rfl⟩ := ra
    have A : Aft Γ w (match h.get n with
      | some (.lst xs) => match b with
        | .int k => match ixN xs.length k with
          | some j => .ok () (h.set n (.lst (xs.set j c)))
          | none => .bad
        | _ => .bad
      | _ => .bad) (fun _ w' _ => Q w'.H) Wx := A
    split at A
    · rename_i xs hg
      split at A
      · rename_i hk k _
        split at A
        · rename_i j hj
          cases rb
          obtain ⟨us, h1, h2⟩ := S'.lst hg
          refine set_list pins s σ w.H _ _ v ov iv u Q I ro ri rv ⟨_, us, k, j, rfl, rfl, h1, by rw [h2.length]; exact hj, ?_⟩
          have ext : Ext Γ w { w with H := upd w.H (w.ρ n) (.lst (us.set j v)) } := ext_upd (S'.noM hg)
          obtain ⟨s2, e2⟩ := S'.set (x := .lst (us.set j v)) (o' := .lst (xs.set j c)) hg ⟨_, upd_same, (h2.mono ext).set (rc.mono ext) j⟩
          exact A _ e2 s2
        · exact A.elim
      · exact A.elim
    · exact A.elim
  | _ => exact A.elim
theorem s_setIx {n : Nat} {o i e : Expr} {mo mi me : ME} {pos' pos : Pos} (he : ∀ n, PE X e (tE Γ C W n me)) (ho : ∀ n, PE X o (tE Γ C W n mo)) (hi : ∀ n, PE X i (tE Γ C W n mi)) (hs : swapsWithSole [.Subscript o i pos'] e pos.line X.env = pure false) (hw : swappedStores [.Subscript o i pos'] e X.env = pure none)
    (ha : ∀ v, assign (.Subscript o i pos') X.env v = (do
      let ov ← holding [v] (eval o X.env)
      let iv ← holding [v, ov] (eval i X.env)
      standAt pos'
      holding [v, ov, iv] (setItem ov iv v)
      release [v, ov, iv] [])) : PS X (.Assign [.Subscript o i pos'] e pos) (tS Γ C W n (.setIx mo mi me)) := by
  cases n with
  | zero => exact no_S
  | succ n =>
    refine PS.imp (ps_asg (he n) (pg_sub (ho n) (hi n) (set_any (Γ := Γ)) ha) hs hw rfl) fun E σ H q => ?_
    obtain ⟨w, ms, h, rfl, S', l, A⟩ := q
    refine tE_cat S' l A fun x w1 h1 e1 s1 A1 v rv => ?_
    refine tE_cat s1 (l.mono e1) A1 fun y w2 h2 e2 s2 A2 u ru => ?_
    refine tE_cat s2 ((l.mono e1).mono e2) A2 fun z w3 h3 e3 s3 A3 t rt => ?_
    refine ⟨w3, h3, y, z, x, WxE Γ W σ, rfl, s3, ru.mono e3, rt, (rv.mono e2).mono e3, ?_⟩
    refine (A3.cat (((l.mono e1).mono e2).mono e3)).imp (fun _ w4 h4 e4 s4 A4 => ?_) (fun _ _ _ _ _ _ x => x)
    exact A4.here s4 σ ((((l.mono e1).mono e2).mono e3).mono e4)

theorem s_for {n : Nat} {tg iter : Expr} {body : List Stmt} {t : MT} {k : IK} {its : List ME} {mb : List MS} {pos : Pos} (F : Fit S Γ X C W) (hi : ∀ n, PI X tg iter (tI Γ C W n k its)) (hg : ∀ n, PG X tg (tG Γ n t)) (hb : ∀ n, PSs X body (tSs Γ C W n mb))
    (hs : ∀ x, foldedSetIterable iter X.env x = pure x) : PS X (.For tg iter body [] pos) (tS Γ C W n (.for_ t k its mb)) := by
  cases n with
  | zero => exact no_S
  | succ n =>
    refine PS.imp (ps_for F.po F.calm (hi n) (hg n) (hb n) hs) fun E σ H q => ?_
    obtain ⟨w, ms, h, rfl, S', l, A⟩ := q
    refine ⟨w, ms, h, rfl, S', l, (A.cat l).imp (fun ds w1 h1 e1 s1 A1 => ?_) (fun _ _ _ _ _ _ x => x)⟩
    cases q1 : iterOf k ds h1 with
    | none => rw [q1] at A1; exact A1.elim
    | some it =>
      rw [q1] at A1
      refine ⟨it, rfl, fun J ok => ?_⟩
      -- the invariant: what is left of the loop says what is wanted
      refine ⟨fun i m σ2 H2 => ∃ w2 ms2 h2, w2.H = H2 ∧ Ext Γ w1 w2 ∧ Sim Γ w2 h2 ∧ Slt Γ w2 ms2 σ2 ∧ Aft Γ w2 (forL it (turnF (asgT n) (exs (ex C n) mb) t) m i ms2 h2) (FlowOk Γ W E) NoX,
        ⟨_, w1, ms, h1, rfl, .refl _, s1, l.mono e1, A1⟩, ?_⟩
      rintro i m σ2 H2 ⟨w2, ms2, h2, rfl, e2, s2, l2, A2⟩
      cases m with
      | zero => exact A2.elim
      | succ m =>
        have o := ok w2 h2 e2 s2 i
        unfold forL at A2
        cases q2 : it.at i h2 with
        | none => rw [q2] at A2; exact A2.elim
        | some r =>
          rw [q2] at A2 o
          cases r with
          | none => exact .inl ⟨o, A2.here s2 σ2 l2⟩
          | some d =>
            obtain ⟨go, yld⟩ := o
            have A2 : Aft Γ w2 ((turnF (asgT n) (exs (ex C n) mb) t d ms2 h2).bind (flowK (forL it (turnF (asgT n) (exs (ex C n) mb) t) m (i + 1)))) (FlowOk Γ W E) NoX := A2
            refine .inr ⟨go, fun σ3 H3 => ∃ m', m' < m + 1 ∧ ∃ w3 ms3 h3, w3.H = H3 ∧ Ext Γ w1 w3 ∧ Sim Γ w3 h3 ∧ Slt Γ w3 ms3 σ3 ∧ Aft Γ w3 (forL it (turnF (asgT n) (exs (ex C n) mb) t) m' (i + 1) ms3 h3) (FlowOk Γ W E) NoX, fun σ3 H3 x => x, fun x H' y => ?_⟩
            obtain ⟨w3, rfl, e3, s3, r3⟩ := yld x H' y
            unfold turnF at A2
            cases q3 : asgT n t d h2 ms2 with
            | none => rw [q3] at A2; exact A2.elim
            | some ms3 =>
              rw [q3] at A2
              refine ⟨w3, ms2, h2, d, rfl, s3, l2.mono e3, r3, ms3, q3, fun σ4 st => ⟨w3, ms3, h2, rfl, s3, st.1, ?_⟩⟩
              have A3 : Aft Γ w3 ((exs (ex C n) mb ms3 h2).bind (flowK (forL it (turnF (asgT n) (exs (ex C n) mb) t) m (i + 1)))) (FlowOk Γ W E) NoX := Aft.bind (r := .ok () h2) (f := fun _ h2 => (exs (ex C n) mb ms3 h2).bind _) A2 w3 e3 s3
              refine A3.bind.imp (fun f w4 h4 e4 s4 A4 => ?_) (fun _ _ _ _ _ _ x => x)
              cases f with
              | nx ms4 => exact fun σ5 l5 => ⟨m, Nat.lt_succ_self _, w4, ms4, h4, rfl, (e2.trans e3).trans e4, s4, l5, A4⟩
              | ct ms4 => exact fun σ5 l5 => ⟨m, Nat.lt_succ_self _, w4, ms4, h4, rfl, (e2.trans e3).trans e4, s4, l5, A4⟩
              | bk ms4 => exact A4.here s4
              | rt d4 => exact A4.here s4
              | xc c fs ms4 => exact A4.here s4
end
end R
namespace R
open PySem PySem.Spec PyProof.Rows L2
section
variable {S : Sc} {Γ : G} {X : Cx} {C : Cal} {W : WX}

abbrev W0 : WX := fun _ _ _ _ => False
def Sc.blk (S : Sc) (scope : Scope) : Sc := { S with scope := relS scope S.scope, sto := fun x => scope.names.lookup x == some .local || scope.names.lookup x == some .cell }
theorem Fit.blk {scope : Scope} {own : List (Str × Nat)} {s : Shared} {H : Hp} {D : Addr} {cl : List (Str × Addr)} {fp : List Addr} (F : Fit S Γ X C W) (ok : BlkOk S.N S.scope scope own) : Fit (S.blk scope) Γ (X.blk s H scope (compEnvC scope cl D X.env) fp) C W0 where
  K := F.K
  N := F.N
  sc := by
    show relS scope X.env.scope = relS scope S.scope
    rw [F.sc]
  kind := ok.kind
  nd := F.nd
  calm := F.calm
  tk := takes0
  po := fun _ _ h => h.elim
  un := F.un
  own := fun x hst hx => by
    have hst : (scope.names.lookup x == some .local || scope.names.lookup x == some .cell) = true := hst
    rw [Bool.or_eq_true] at hst
    rcases hst with h | h
    · exact .inr (lookup_relS_keep (by intro z; cases z) (by simpa using h))
    · exact .inl h
  gl := F.gl
  gd := F.gd
  gn := F.gn
  fns := F.fns
  gi := F.gi
  gr := F.gr
  rm := F.rm
  gc := F.gc
  kit := F.kit
  xc := F.xc
  xf := F.xf
  mk1 := fun c f h => let m := F.mk1 c f h; ⟨m.cls, m.ini⟩
  mk0 := F.mk0

def tTs (Γ : G) (C : Cal) (W : WX) (n : Nat) (cs : List ME) : TT := fun σ H Q => ∃ w ms h, w.H = H ∧ Sim Γ w h ∧ Slt Γ w ms σ ∧ Aft Γ w (conds (fun e h => ev C n e ms h) cs h) (fun b w' _ => Q b w'.H) (WxE Γ W σ)
theorem PTs.imp {e : List Expr} {t t' : TT} (h : PTs X e t) (i : ∀ σ H Q, t' σ H Q → t σ H Q) : PTs X e t' := ⟨fun pins s σ H Q I q => h.run pins s σ H Q I (i σ H Q q)⟩
theorem ts_nil {n : Nat} : PTs X [] (tTs Γ C W n []) := PTs.imp pts_nil fun σ H Q q => by
  obtain ⟨w, ms, h, rfl, S', l, A⟩ := q
  exact A.here S'
theorem ts_one {n : Nat} {c : Expr} {mc : ME} (hc : ∀ n, PT X c (tT Γ C W n mc)) : PTs X [c] (tTs Γ C W n [mc]) := PTs.imp (pts_one (hc n)) fun σ H Q q => by
  obtain ⟨w, ms, h, rfl, S', l, A⟩ := q
  have A : Aft Γ w ((ev C n mc ms h).bind fun d h => (truR d h).bind fun b h => if b then .ok true h else .ok false h) (fun b w' _ => Q b w'.H) (WxE Γ W σ) := A
  refine tT_of S' l A fun b w1 h1 e1 s1 A1 => ?_
  cases b with
  | true => exact A1.here s1
  | false => exact A1.here s1

theorem Aft.mono {α : Type} {w w' : Vw} {r : Res α} {Q : α → Vw → MH → Prop} {Wx : Nat → List (Str × D) → Vw → MH → Prop} (A : Aft Γ w r Q Wx) (e : Ext Γ w w') : Aft Γ w' r Q Wx := by
  cases r with
  | ok a h3 => exact fun w3 e3 s3 => A w3 (e.trans e3) s3
  | exc c fs h3 => exact fun w3 e3 s3 => A w3 (e.trans e3) s3
  | bad => exact A.elim
theorem Slt.none {w : Vw} {ms : MSt} {σ : L2.St} (s : Slt Γ w ms σ) (i : Nat) : Slt Γ w (ms.set i none) (σ.set i none) := by
  refine ⟨by simpa using s.len, fun j e h => ?_⟩
  by_cases q : i = j
  · subst q
    by_cases hl : i < ms.length
    · rw [List.getElem?_set_self hl] at h
      cases h
    · rw [List.getElem?_eq_none (by simpa using hl)] at h; cases h
  · rw [List.getElem?_set_ne q] at h ⊢
    exact s.at_ j e h
theorem Slt.wipe {w : Vw} {ms : MSt} {σ : L2.St} (s : Slt Γ w ms σ) : ∀ vs : List Nat, Slt Γ w (wipeM ms vs) (L2.wipe σ vs)
  | [] => s
  | v :: vs => (s.wipe vs).none v
theorem wipe_set_none {σ : L2.St} (i : Nat) (vs : List Nat) : L2.wipe (σ.set i none) vs = (L2.wipe σ vs).set i none := by
  induction vs with
  | nil => rfl
  | cons u us ih =>
    show (L2.wipe (σ.set i none) us).set u none = ((L2.wipe σ us).set u none).set i none
    rw [ih]
    by_cases e : i = u
    · subst e; rfl
    · exact List.set_comm _ _ e
theorem wipe_wipe {σ : L2.St} : ∀ vs : List Nat, L2.wipe (L2.wipe σ vs) vs = L2.wipe σ vs
  | [] => rfl
  | v :: vs => by
    show (L2.wipe ((L2.wipe σ vs).set v none) vs).set v none = (L2.wipe σ vs).set v none
    rw [wipe_set_none, wipe_wipe vs, List.set_set]

theorem e_lc {n : Nat} {elt tg iter : Expr} {ifs : List Expr} {scope : Scope} {own : List (Str × Nat)} {me : ME} {t : MT} {k : IK} {its cs : List ME} (F : Fit S Γ X C W) (hi : ∀ n, PI X tg iter (tI Γ C W n k its)) (ok : blkC S.N S.scope scope own = true) (hsl : ∀ i ∈ t.slots, i ∈ own.map (·.2))
    (hg : ∀ X', Fit (S.blk scope) Γ X' C W0 → ∀ n, PG X' tg (tG Γ n t)) (ht : ∀ X', Fit (S.blk scope) Γ X' C W0 → ∀ n, PTs X' ifs (tTs Γ C W0 n cs)) (he : ∀ X', Fit (S.blk scope) Γ X' C W0 → ∀ n, PE X' elt (tE Γ C W0 n me)) (hs : ∀ x, foldedSetIterable iter X.env x = pure x) (σ : L2.St) (H : Hp) (Q : VK) :
    tE Γ C W (n + 1) (.lc false me t k its cs (own.map (·.2))) σ H Q → tLc (tI Γ C W n k its) (tG Γ n t) (tTs Γ C W0 n cs) (tE Γ C W0 n me) (own.map (·.2)) σ H Q := by
  intro q
  obtain ⟨w, ms, h, rfl, S', l, A⟩ := q
  have A : Aft Γ w ((evs (fun e h => ev C n e ms h) its h).bind fun ds h => match iterOf k ds h with
      | none => .bad
      | some it => (lcL it h.next (turnL (asgT n) (fun ms h => conds (fun e h => ev C n e ms h) cs h) (ev C n me) t (wipeM ms (own.map (·.2)))) (it.len h + 1) 0 (h.push (.lst []))).bind fun _ h' => .ok (.ref h.next) h') (Val Γ Q) (WxE Γ W σ) := A
  refine ⟨w, ms, h, rfl, S', l, A.bind.imp (fun ds w1 h1 e1 s1 A1 => ?_) (fun _ _ _ _ _ _ x => x)⟩
  cases q1 : iterOf k ds h1 with
  | none => rw [q1] at A1; exact A1.elim
  | some it =>
    rw [q1] at A1
    refine ⟨it, rfl, fun J okJ D hD => ?_⟩
    generalize hturn : turnL (asgT n) (fun ms h => conds (fun e h => ev C n e ms h) cs h) (ev C n me) t (wipeM ms (own.map (·.2))) = turn at A1
    obtain ⟨s2, e2⟩ := s1.new1 (p := D) (x := .lst []) (o := .lst []) hD ⟨[], upd_same, .nil⟩
    have hk : h1.next = w1.k := s1.k
    have A2 : Aft Γ (w1.new D (upd w1.H D (.lst []))) ((lcL it h1.next turn (it.len h1 + 1) 0 (h1.push (.lst []))).bind fun _ h' => .ok (.ref h1.next) h') (Val Γ Q) (WxE Γ W σ) :=
      A1.mono e2
    refine ⟨fun i m H3 => ∃ w3 h3, w3.H = H3 ∧ Ext Γ (w1.new D (upd w1.H D (.lst []))) w3 ∧ Sim Γ w3 h3 ∧ Aft Γ w3 ((lcL it h1.next turn m i h3).bind fun _ h' => .ok (.ref h1.next) h') (Val Γ Q) (WxE Γ W σ), ⟨_, _, _, rfl, .refl _, s2, A2⟩, ?_⟩
    rintro i m H3 ⟨w3, h3, rfl, e3, s3, A3⟩
    have hL : h1.next < w3.k := by rw [hk]; exact Nat.lt_of_lt_of_le (Nat.lt_succ_self _) e3.k
    have hρ : w3.ρ h1.next = D := by rw [hk, e3.ρ _ (Nat.lt_succ_self _), Vw.new_k]
    cases m with
    | zero => exact A3.elim
    | succ m =>
      have o := okJ w3 h3 (e2.trans e3) s3 i
      unfold lcL at A3
      cases q2 : it.at i h3 with
      | none => rw [q2] at A3; exact A3.elim
      | some r =>
        rw [q2] at A3 o
        cases r with
        | none => exact .inl ⟨o, A3.here s3 _ ⟨hL, by rw [hρ]⟩⟩
        | some d =>
          obtain ⟨go, yld⟩ := o
          refine .inr ⟨go, fun H4 => ∃ m', m' < m + 1 ∧ ∃ w4 h4, w4.H = H4 ∧ Ext Γ (w1.new D (upd w1.H D (.lst []))) w4 ∧ Sim Γ w4 h4 ∧ Aft Γ w4 ((lcL it h1.next turn m' (i + 1) h4).bind fun _ h' => .ok (.ref h1.next) h') (Val Γ Q) (WxE Γ W σ), fun H' x => x, fun x H' y => ?_⟩
          obtain ⟨w4, rfl, e4, s4, r4⟩ := yld x H' y
          have A3 : Aft Γ w3 ((match turn d h3 with
            | .ok none h => lcL it h1.next turn m (i + 1) h
            | .ok (some y) h => match h.get h1.next with
              | some (.lst acc) => if acc.length < sizeLine then lcL it h1.next turn m (i + 1) (h.set h1.next (.lst (acc ++ [y]))) else .bad
              | _ => .bad
            | _ => .bad).bind fun _ h' => .ok (.ref h1.next) h') (Val Γ Q) (WxE Γ W σ) := A3
          have hv : turn d h3 = (match asgT n t d h3 (wipeM ms (own.map (·.2))) with
            | none => .bad
            | some ms' => (conds (fun e h => ev C n e ms' h) cs h3).bind fun b h => if b then (ev C n me ms' h).bind fun y h => .ok (some y) h else .ok none h) := by rw [← hturn]; rfl
          cases q3 : asgT n t d h3 (wipeM ms (own.map (·.2))) with
          | none => rw [q3] at hv; rw [hv] at A3; exact A3.elim
          | some ms4 =>
            rw [q3] at hv
            have hv : turn d h3 = (conds (fun e h => ev C n e ms4 h) cs h3).bind fun b h => if b then (ev C n me ms4 h).bind fun y h => .ok (some y) h else .ok none h := hv
            have l4 : Slt Γ w4 (wipeM ms (own.map (·.2))) (L2.wipe σ (own.map (·.2))) := (((((l.mono e1).mono e2).mono e3).mono e4)).wipe _
            refine ⟨w4, _, h3, d, rfl, s4, l4, r4, ms4, q3, fun σ4 st => ⟨by rw [st.2 _ hsl, wipe_wipe], w4, ms4, h3, rfl, s4, st.1, ?_⟩⟩
            cases q4 : conds (fun e h => ev C n e ms4 h) cs h3 with
            | bad => rw [q4] at hv; rw [hv] at A3; exact A3.elim
            | exc c fs h4 => rw [q4] at hv; rw [hv] at A3; exact A3.elim
            | ok b h4 =>
              intro w5 e5 s5
              rw [q4] at hv
              cases b with
              | false =>
                have hv : turn d h3 = .ok none h4 := hv
                rw [hv] at A3
                show ∃ m', _
                exact ⟨m, Nat.lt_succ_self _, w5, h4, rfl, ((e3.trans e4).trans e5), s5, A3.mono (e4.trans e5)⟩
              | true =>
                have hv : turn d h3 = (ev C n me ms4 h4).bind fun y h => .ok (some y) h := hv
                show tE Γ C W0 n me σ4 w5.H _
                refine ⟨w5, ms4, h4, rfl, s5, st.1.mono e5, ?_⟩
                cases q5 : ev C n me ms4 h4 with
                | bad => rw [q5] at hv; rw [hv] at A3; exact A3.elim
                | exc c fs h5 => rw [q5] at hv; rw [hv] at A3; exact A3.elim
                | ok y5 h5 =>
                  intro w6 e6 s6 v6 r6
                  rw [q5] at hv
                  have hv : turn d h3 = .ok (some y5) h5 := hv
                  rw [hv] at A3
                  cases q6 : h5.get h1.next with
                  | none => simp only [q6] at A3; exact A3.elim
                  | some o6 =>
                    cases o6 with
                    | dk kvs => simp only [q6] at A3; exact A3.elim
                    | ins c fs => simp only [q6] at A3; exact A3.elim
                    | lst acc =>
                      simp only [q6] at A3
                      by_cases hz : acc.length < sizeLine
                      · rw [if_pos hz] at A3
                        obtain ⟨us, h7, h8⟩ := s6.lst q6
                        have h9 : w6.ρ h1.next = D := by rw [((e4.trans e5).trans e6).ρ _ hL, hρ]
                        rw [h9] at h7
                        refine ⟨us, h7, by rw [h8.length]; exact hz, m, Nat.lt_succ_self _, ?_⟩
                        have ext : Ext Γ w6 { w6 with H := upd w6.H (w6.ρ h1.next) (.lst (us ++ [v6])) } := ext_upd (s6.noM q6)
                        obtain ⟨s7, e7⟩ := s6.set (x := .lst (us ++ [v6])) (o' := .lst (acc ++ [y5])) q6 ⟨_, upd_same, (h8.mono ext).append (.cons (r6.mono ext) .nil)⟩
                        rw [h9] at s7 e7
                        exact ⟨_, _, rfl, (((e3.trans e4).trans e5).trans e6).trans e7, s7, A3.mono (((e4.trans e5).trans e6).trans e7)⟩
                      · rw [if_neg hz] at A3; exact A3.elim
theorem e_lcP {n : Nat} {elt tg iter : Expr} {ifs : List Expr} {scope : Scope} {own : List (Str × Nat)} {me : ME} {t : MT} {k : IK} {its cs : List ME} (F : Fit S Γ X C W) (hi : ∀ n, PI X tg iter (tI Γ C W n k its)) (ok : blkC S.N S.scope scope own = true) (hsl : ∀ i ∈ t.slots, i ∈ own.map (·.2))
    (hg : ∀ X', Fit (S.blk scope) Γ X' C W0 → ∀ n, PG X' tg (tG Γ n t)) (ht : ∀ X', Fit (S.blk scope) Γ X' C W0 → ∀ n, PTs X' ifs (tTs Γ C W0 n cs)) (he : ∀ X', Fit (S.blk scope) Γ X' C W0 → ∀ n, PE X' elt (tE Γ C W0 n me)) (hs : ∀ x, foldedSetIterable iter X.env x = pure x) (σ : L2.St) (H : Hp) (Q : VK) :
    tE Γ C W (n + 1) (.lc true me t k its cs (own.map (·.2))) σ H Q → tLc (tI Γ C W n k its) (tG Γ n t) (tTs Γ C W0 n cs) (tE Γ C W0 n me) (own.map (·.2)) σ H Q := by
  intro q
  obtain ⟨w, ms, h, rfl, S', l, A⟩ := q
  have A : Aft Γ w ((evs (fun e h => ev C n e ms h) its h).bind fun ds h => match iterOf k ds h with
      | none => .bad
      | some it => (lcP it (turnL (asgT n) (fun ms h => conds (fun e h => ev C n e ms h) cs h) (ev C n me) t (wipeM ms (own.map (·.2)))) (it.len h + 1) 0 [] h).bind fun ds h' => .ok (.flst ds) h') (Val Γ Q) (WxE Γ W σ) := A
  refine ⟨w, ms, h, rfl, S', l, A.bind.imp (fun ds w1 h1 e1 s1 A1 => ?_) (fun _ _ _ _ _ _ x => x)⟩
  cases q1 : iterOf k ds h1 with
  | none => rw [q1] at A1; exact A1.elim
  | some it =>
    rw [q1] at A1
    refine ⟨it, rfl, fun J okJ D hD => ?_⟩
    generalize hturn : turnL (asgT n) (fun ms h => conds (fun e h => ev C n e ms h) cs h) (ev C n me) t (wipeM ms (own.map (·.2))) = turn at A1
    have n1 : NoT (w1.H D) := by rw [hD]; exact .none
    refine ⟨fun i m H3 => ∃ w3 h3 acc us, w3.H = H3 ∧ Ext Γ w1 w3 ∧ Sim Γ w3 h3 ∧ w3.M D = 2 ∧ w3.H D = some (.lst us) ∧ Reps Γ w3 acc us ∧ Aft Γ w1 ((lcP it turn m i acc h3).bind fun ds h' => .ok (.flst ds) h') (Val Γ Q) (WxE Γ W σ),
      ⟨_, w1.lay D 2 (.lst []), h1, [], [], rfl, (Ext.refl w1).relay hD n1, s1.lay (.inl hD), Vw.lay_M, Vw.lay_H, .nil, A1⟩, ?_⟩
    rintro i m H3 ⟨w3, h3, acc, us, rfl, e3, s3, m3, d3, r3, A3⟩
    cases m with
    | zero => exact A3.elim
    | succ m =>
      have o := okJ w3 h3 e3 s3 i
      unfold lcP at A3
      cases q2 : it.at i h3 with
      | none => rw [q2] at A3; exact A3.elim
      | some r =>
        rw [q2] at A3 o
        cases r with
        | none =>
          have A3 : Aft Γ w1 (.ok (.flst acc) h3) (Val Γ Q) (WxE Γ W σ) := A3
          have nt : NoT (w3.H D) := by rw [d3]; exact .lst
          have e0 : Ext0 Γ w3 (w3.lay D 1 (.lst us)) := ext0_lay nt (by rw [m3]; decide)
          have eH : (w3.lay D 1 (.lst us)).H = w3.H := by
            funext b
            by_cases hb : b = D
            · subst hb; rw [Vw.lay_H, d3]
            · exact (Vw.lay_ne hb).1
          have q := A3 (w3.lay D 1 (.lst us)) (e3.relay hD nt) (s3.lay (.inr ⟨nt, m3⟩)) (.ref D) ⟨D, us, rfl, Vw.lay_M, Vw.lay_H, r3.mono0 e0⟩
          rw [eH] at q
          exact .inl ⟨o, q⟩
        | some d =>
          obtain ⟨go, yld⟩ := o
          refine .inr ⟨go, fun H4 => ∃ m', m' < m + 1 ∧ ∃ w4 h4 acc us, w4.H = H4 ∧ Ext Γ w1 w4 ∧ Sim Γ w4 h4 ∧ w4.M D = 2 ∧ w4.H D = some (.lst us) ∧ Reps Γ w4 acc us ∧ Aft Γ w1 ((lcP it turn m' (i + 1) acc h4).bind fun ds h' => .ok (.flst ds) h') (Val Γ Q) (WxE Γ W σ), fun H' x => x, fun x H' y => ?_⟩
          obtain ⟨w4, rfl, e4, s4, r4⟩ := yld x H' y
          have A3 : Aft Γ w1 ((match turn d h3 with
            | .ok none h => lcP it turn m (i + 1) acc h
            | .ok (some y) h => if acc.length < sizeLine then lcP it turn m (i + 1) (acc ++ [y]) h else .bad
            | _ => .bad).bind fun ds h' => .ok (.flst ds) h') (Val Γ Q) (WxE Γ W σ) := A3
          have hv : turn d h3 = (match asgT n t d h3 (wipeM ms (own.map (·.2))) with
            | none => .bad
            | some ms' => (conds (fun e h => ev C n e ms' h) cs h3).bind fun b h => if b then (ev C n me ms' h).bind fun y h => .ok (some y) h else .ok none h) := by rw [← hturn]; rfl
          cases q3 : asgT n t d h3 (wipeM ms (own.map (·.2))) with
          | none => rw [q3] at hv; rw [hv] at A3; exact A3.elim
          | some ms4 =>
            rw [q3] at hv
            have hv : turn d h3 = (conds (fun e h => ev C n e ms4 h) cs h3).bind fun b h => if b then (ev C n me ms4 h).bind fun y h => .ok (some y) h else .ok none h := hv
            have l4 : Slt Γ w4 (wipeM ms (own.map (·.2))) (L2.wipe σ (own.map (·.2))) := (((l.mono e1).mono e3).mono e4).wipe _
            refine ⟨w4, _, h3, d, rfl, s4, l4, r4, ms4, q3, fun σ4 st => ⟨by rw [st.2 _ hsl, wipe_wipe], w4, ms4, h3, rfl, s4, st.1, ?_⟩⟩
            cases q4 : conds (fun e h => ev C n e ms4 h) cs h3 with
            | bad => rw [q4] at hv; rw [hv] at A3; exact A3.elim
            | exc c fs h4 => rw [q4] at hv; rw [hv] at A3; exact A3.elim
            | ok b h4 =>
              intro w5 e5 s5
              rw [q4] at hv
              have e35 := e4.trans e5
              obtain ⟨m5, d5⟩ := e35.q D _ (by rw [m3]; decide) d3
              cases b with
              | false =>
                have hv : turn d h3 = .ok none h4 := hv
                rw [hv] at A3
                show ∃ m', _
                exact ⟨m, Nat.lt_succ_self _, w5, h4, acc, us, rfl, e3.trans e35, s5, m5.trans m3, d5, r3.mono e35, A3⟩
              | true =>
                have hv : turn d h3 = (ev C n me ms4 h4).bind fun y h => .ok (some y) h := hv
                show tE Γ C W0 n me σ4 w5.H _
                refine ⟨w5, ms4, h4, rfl, s5, st.1.mono e5, ?_⟩
                cases q5 : ev C n me ms4 h4 with
                | bad => rw [q5] at hv; rw [hv] at A3; exact A3.elim
                | exc c fs h5 => rw [q5] at hv; rw [hv] at A3; exact A3.elim
                | ok y5 h5 =>
                  intro w6 e6 s6 v6 r6
                  rw [q5] at hv
                  have hv : turn d h3 = .ok (some y5) h5 := hv
                  rw [hv] at A3
                  have A3 : Aft Γ w1 ((if acc.length < sizeLine then lcP it turn m (i + 1) (acc ++ [y5]) h5 else .bad).bind fun ds h' => .ok (.flst ds) h') (Val Γ Q) (WxE Γ W σ) := A3
                  have e36 := e35.trans e6
                  obtain ⟨m6, d6⟩ := e36.q D _ (by rw [m3]; decide) d3
                  have m6 : w6.M D = 2 := m6.trans m3
                  have r36 := r3.mono e36
                  by_cases hz : acc.length < sizeLine
                  · rw [if_pos hz] at A3
                    have nt : NoT (w6.H D) := by rw [d6]; exact .lst
                    have e0 : Ext0 Γ w6 (w6.lay D 2 (.lst (us ++ [v6]))) := ext0_lay nt (by rw [m6]; decide)
                    refine ⟨us, d6, by rw [r36.length]; exact hz, m, Nat.lt_succ_self _, w6.lay D 2 (.lst (us ++ [v6])), h5, acc ++ [y5], us ++ [v6], rfl, (e3.trans e36).relay hD nt, s6.lay (.inr ⟨nt, m6⟩), Vw.lay_M, Vw.lay_H, (r36.mono0 e0).append (.cons (r6.mono0 e0) .nil), A3⟩
                  · rw [if_neg hz] at A3; exact A3.elim
theorem e_lcB {n : Nat} {fz : Bool} {elt tg iter : Expr} {ifs : List Expr} {scope : Scope} {own : List (Str × Nat)} {me : ME} {t : MT} {k : IK} {its cs : List ME} (F : Fit S Γ X C W) (hi : ∀ n, PI X tg iter (tI Γ C W n k its)) (ok : blkC S.N S.scope scope own = true) (hsl : ∀ i ∈ t.slots, i ∈ own.map (·.2))
    (hg : ∀ X', Fit (S.blk scope) Γ X' C W0 → ∀ n, PG X' tg (tG Γ n t)) (ht : ∀ X', Fit (S.blk scope) Γ X' C W0 → ∀ n, PTs X' ifs (tTs Γ C W0 n cs)) (he : ∀ X', Fit (S.blk scope) Γ X' C W0 → ∀ n, PE X' elt (tE Γ C W0 n me)) (hs : ∀ x, foldedSetIterable iter X.env x = pure x) (σ : L2.St) (H : Hp) (Q : VK) :
    tE Γ C W (n + 1) (.lc fz me t k its cs (own.map (·.2))) σ H Q → tLc (tI Γ C W n k its) (tG Γ n t) (tTs Γ C W0 n cs) (tE Γ C W0 n me) (own.map (·.2)) σ H Q := by
  cases fz with
  | true => exact e_lcP F hi ok hsl hg ht he hs σ H Q
  | false => exact e_lc F hi ok hsl hg ht he hs σ H Q
theorem e_lcE {n : Nat} {fz : Bool} {elt tg iter : Expr} {ifs : List Expr} {scope : Scope} {own : List (Str × Nat)} {pos : Pos} {me : ME} {t : MT} {k : IK} {its cs : List ME} (F : Fit S Γ X C W) (hi : ∀ n, PI X tg iter (tI Γ C W n k its)) (ok : blkC S.N S.scope scope own = true) (hsl : ∀ i ∈ t.slots, i ∈ own.map (·.2))
    (hg : ∀ X', Fit (S.blk scope) Γ X' C W0 → ∀ n, PG X' tg (tG Γ n t)) (ht : ∀ X', Fit (S.blk scope) Γ X' C W0 → ∀ n, PTs X' ifs (tTs Γ C W0 n cs)) (he : ∀ X', Fit (S.blk scope) Γ X' C W0 → ∀ n, PE X' elt (tE Γ C W0 n me)) (hs : ∀ x, foldedSetIterable iter X.env x = pure x) :
    PE X (.ListComp elt [⟨tg, iter, ifs, 0⟩] scope pos) (tE Γ C W n (.lc fz me t k its cs (own.map (·.2)))) := by
  cases n with
  | zero => exact no_E
  | succ n =>
    have ok' := blkOk_by ok
    have ok2 : BlkOk X.N X.env.scope scope own := by rw [F.N, F.sc]; exact ok'
    exact PE.imp (pe_lc F.calm (by rw [F.N]; exact F.nd) (hi n) ok2 (fun s H D cl fp => hg _ (F.blk ok') n) (fun s H D cl fp => ht _ (F.blk ok') n) (fun s H D cl fp => he _ (F.blk ok') n) hs) (e_lcB F hi ok hsl hg ht he hs)
/-- name = [..] on one line, the name a local -/
theorem s_setLc {n i : Nat} {fz : Bool} {y : Str} {py spos : Pos} {elt tg iter : Expr} {ifs : List Expr} {scope : Scope} {own : List (Str × Nat)} {pos : Pos} {me : ME} {t : MT} {k : IK} {its cs : List ME} (F : Fit S Γ X C W) (hy : S.N[i]? = some y) (hyl : S.scope.names.lookup y = some .local)
    (hl : (py.line == pos.line) = true) (ha : (scope.names.any fun (n, k) => n == y && (k == .local || k == .cell)) = false)
    (hi : ∀ n, PI X tg iter (tI Γ C W n k its)) (ok : blkC S.N S.scope scope own = true) (hsl : ∀ i ∈ t.slots, i ∈ own.map (·.2))
    (hg : ∀ X', Fit (S.blk scope) Γ X' C W0 → ∀ n, PG X' tg (tG Γ n t)) (ht : ∀ X', Fit (S.blk scope) Γ X' C W0 → ∀ n, PTs X' ifs (tTs Γ C W0 n cs)) (he : ∀ X', Fit (S.blk scope) Γ X' C W0 → ∀ n, PE X' elt (tE Γ C W0 n me)) (hs : ∀ x, foldedSetIterable iter X.env x = pure x) :
    PS X (.Assign [.Name y py] (.ListComp elt [⟨tg, iter, ifs, 0⟩] scope pos) spos) (tS Γ C W n (.asg (.name i) (.lc fz me t k its cs (own.map (·.2))))) := by
  cases n with
  | zero => exact no_S
  | succ n =>
    cases n with
    | zero =>
      refine ⟨fun pins s σ H Q I q => ?_⟩
      obtain ⟨w, ms, h, _, _, _, A⟩ := q
      exact A.elim
    | succ n =>
      have ok' := blkOk_by ok
      have ok2 : BlkOk X.N X.env.scope scope own := by rw [F.N, F.sc]; exact ok'
      have hyl' : X.env.scope.names.lookup y = some .local := by rw [F.sc]; exact hyl
      have hk : X.env.scope.kind = .function := by rw [F.sc]; exact F.kind
      refine PS.imp (ps_setLc (i := i) F.calm (by rw [F.N]; exact F.nd) (by rw [F.N]; exact hy) hyl' (sw_true hk hyl' hl ha) (hi n) ok2 (fun s H D cl fp => hg _ (F.blk ok') n) (fun s H D cl fp => ht _ (F.blk ok') n) (fun s H D cl fp => he _ (F.blk ok') n) hs) fun E σ H q => ?_
      obtain ⟨w, ms, h, rfl, S', l, A⟩ := q
      refine e_lcB F hi ok hsl hg ht he hs σ w.H _ (tE_cat S' l A fun x w1 h1 e1 s1 A1 v rv => ?_)
      have A1 : Aft Γ w1 (.ok (.nx (ms.set i (some x))) h1) (FlowOk Γ W E) NoX := A1
      exact A1.here s1 _ ((l.mono e1).set i rv)
end
end R
namespace R
open PySem L2
open Classical in
/-- the view behind: the new objects are marked -/
noncomputable def gcW (w w1 : Vw) (h1 : MH) : Vw := ⟨w1.ρ, w.k, w1.H, fun a => if ∃ m o, w.k ≤ m ∧ h1.get m = some o ∧ w1.ρ m = a then 1 else w1.M a⟩
section
variable {Γ : G} {w w1 : Vw} {h1 : MH}
theorem gcW_not {a : Addr} (h : ¬ ∃ m o, w.k ≤ m ∧ h1.get m = some o ∧ w1.ρ m = a) : (gcW w w1 h1).M a = w1.M a := if_neg h
theorem gcW_yes {a : Addr} (h : ∃ m o, w.k ≤ m ∧ h1.get m = some o ∧ w1.ρ m = a) : (gcW w w1 h1).M a = 1 := if_pos h
theorem gcW_one {a : Addr} (h : w1.M a = 1) : (gcW w w1 h1).M a = 1 := by
  by_cases e : ∃ m o, w.k ≤ m ∧ h1.get m = some o ∧ w1.ρ m = a
  · exact gcW_yes e
  · exact (gcW_not e).trans h
theorem gcW_new {m : Nat} {o : MO} (hk : w.k ≤ m) (e : h1.get m = some o) : (gcW w w1 h1).M (w1.ρ m) = 1 := gcW_yes ⟨m, o, hk, e, rfl⟩
theorem gcW_ext (e1 : Ext Γ w w1) (s1 : Sim Γ w1 h1) : Ext Γ w (gcW w w1 h1) := by
  refine ⟨Nat.le_refl _, e1.ρ, e1.t, e1.z, e1.x, fun a o hm q => ?_⟩
  obtain ⟨m1, q1⟩ := e1.q a o hm q
  refine ⟨?_, q1⟩
  rw [gcW_not]
  · exact m1
  · rintro ⟨m, o', hk, e, rfl⟩
    rw [s1.np m o' e] at m1
    exact hm m1.symm
mutual
theorem Rep.down : ∀ {d : D} {v : V}, Rep Γ w1 d v → bnd w.k d = true → Rep Γ (gcW w w1 h1) d v
  | .none, _, h, _ => h
  | .bool _, _, h, _ => h
  | .int _, _, h, _ => h
  | .str _, _, h, _ => h
  | .tup ds, v, h, b => by
    obtain ⟨a, xs, e1, e2, e3⟩ := h
    exact ⟨a, xs, e1, e2, Reps.down e3 (by unfold bnd at b; exact b)⟩
  | .scr ds, v, h, b => by
    obtain ⟨a, xs, e1, e2, e3⟩ := h
    exact ⟨a, xs, e1, e2, Reps.down e3 (by unfold bnd at b; exact b)⟩
  | .flst ds, v, h, b => by
    obtain ⟨a, xs, e1, e2, e3, e4⟩ := h
    exact ⟨a, xs, e1, gcW_one e2, e3, Reps.down e4 (by unfold bnd at b; exact b)⟩
  | .fdk ks ds, v, h, b => by
    obtain ⟨a, xs, e1, e2, e3, e4, e5⟩ := h
    exact ⟨a, xs, e1, gcW_one e2, e3, e4, Reps.down e5 (by unfold bnd at b; exact b)⟩
  | .obj c ns ds, v, h, b => by
    obtain ⟨a, dx, xs, e1, e2, e3, e4, e5⟩ := h
    exact ⟨a, dx, xs, e1, gcW_one e2, e3, e4, Reps.down e5 (by unfold bnd at b; exact b)⟩
  | .ref n, v, h, b => by
    obtain ⟨e1, e2⟩ := h
    unfold bnd at b
    exact ⟨of_decide_eq_true b, e2⟩
  | .fn _, _, h, _ => h
  | .cl _, _, h, _ => h
  | .ty _, _, h, _ => h
  | .exv c ns ds, v, h, b => by
    obtain ⟨a, xs, e1, e2, e3, e4⟩ := h
    exact ⟨a, xs, e1, e2, e3, Reps.down e4 (by unfold bnd at b; exact b)⟩
theorem Reps.down : ∀ {ds : List D} {vs : List V}, Reps Γ w1 ds vs → bnds w.k ds = true → Reps Γ (gcW w w1 h1) ds vs
  | [], _, h, _ => h
  | d :: ds, vs, h, b => by
    obtain ⟨x, xs, e1, e2, e3⟩ := h
    unfold bnds at b
    rw [Bool.and_eq_true] at b
    exact ⟨x, xs, e1, Rep.down e2 b.1, Reps.down e3 b.2⟩
end
theorem RepP.down {κ : Type} : ∀ {ds : List (κ × D)} {vs : List (κ × V)}, RepP Γ w1 ds vs → bnds w.k (ds.map (·.2)) = true → RepP Γ (gcW w w1 h1) ds vs
  | [], _, h, _ => h
  | (k, d) :: ds, vs, h, b => by
    obtain ⟨x, xs, e1, e2, e3⟩ := h
    rw [List.map_cons] at b
    unfold bnds at b
    rw [Bool.and_eq_true] at b
    exact ⟨x, xs, e1, e2.down b.1, RepP.down e3 b.2⟩
theorem RepP.split {κ : Type} {w : Vw} : ∀ {ds : List (κ × D)} {vs : List (κ × V)}, RepP Γ w ds vs → ∃ xs, vs = (ds.map (·.1)).zip xs ∧ xs.length = (ds.map (·.1)).length ∧ Reps Γ w (ds.map (·.2)) xs
  | [], _, h => by cases h; exact ⟨[], rfl, rfl, rfl⟩
  | (k, d) :: ds, vs, h => by
    obtain ⟨x, xs, rfl, e2, e3⟩ := h
    obtain ⟨ys, h1, h2, h3⟩ := RepP.split e3
    refine ⟨x :: ys, by rw [h1]; rfl, by simpa using h2, x, ys, rfl, e2, h3⟩
theorem mapO_frz {f : D → Option D} (hf : ∀ d d' v, f d = some d' → Rep Γ w1 d v → Rep Γ (gcW w w1 h1) d' v) : ∀ {ds es : List D} {vs : List V}, mapO f ds = some es → Reps Γ w1 ds vs → Reps Γ (gcW w w1 h1) es vs
  | [], es, vs, e, r => by cases e; exact r
  | d :: ds, es, vs, e, r => by
    obtain ⟨x, xs, rfl, r1, r2⟩ := r
    unfold mapO at e
    cases q1 : f d with
    | none => rw [q1] at e; cases e
    | some d' =>
      cases q2 : mapO f ds with
      | none => rw [q1, q2] at e; cases e
      | some es' =>
        rw [q1, q2] at e; cases e
        exact ⟨x, xs, rfl, hf _ _ _ q1 r1, mapO_frz hf q2 r2⟩
theorem map_some {α β : Type} {f : α → β} {o : Option α} {b : β} (h : o.map f = some b) : ∃ a, o = some a ∧ f a = b := Option.map_eq_some_iff.mp h
theorem frz_says (s1 : Sim Γ w1 h1) : ∀ (n : Nat) (d d' : D) (v : V), frzD h1 w.k n d = some d' → Rep Γ w1 d v → Rep Γ (gcW w w1 h1) d' v
  | 0, _, _, _, e, _ => by cases e
  | n + 1, d, d', v, e, r => by
    have ih := frz_says s1 n
    cases d with
    | tup ds =>
      obtain ⟨es, q, rfl⟩ := map_some (show (mapO (frzD h1 w.k n) ds).map D.tup = some d' from e)
      obtain ⟨a, xs, e1, e2, e3⟩ := r
      exact ⟨a, xs, e1, e2, mapO_frz ih q e3⟩
    | scr ds =>
      obtain ⟨es, q, rfl⟩ := map_some (show (mapO (frzD h1 w.k n) ds).map D.scr = some d' from e)
      obtain ⟨a, xs, e1, e2, e3⟩ := r
      exact ⟨a, xs, e1, e2, mapO_frz ih q e3⟩
    | flst ds =>
      obtain ⟨es, q, rfl⟩ := map_some (show (mapO (frzD h1 w.k n) ds).map D.flst = some d' from e)
      obtain ⟨a, xs, e1, e2, e3, e4⟩ := r
      exact ⟨a, xs, e1, gcW_one e2, e3, mapO_frz ih q e4⟩
    | fdk ks ds =>
      obtain ⟨es, q, rfl⟩ := map_some (show (mapO (frzD h1 w.k n) ds).map (D.fdk ks) = some d' from e)
      obtain ⟨a, xs, e1, e2, e3, e4, e5⟩ := r
      exact ⟨a, xs, e1, gcW_one e2, e3, e4, mapO_frz ih q e5⟩
    | obj c ns ds =>
      obtain ⟨es, q, rfl⟩ := map_some (show (mapO (frzD h1 w.k n) ds).map (D.obj c ns) = some d' from e)
      obtain ⟨a, dx, xs, e1, e2, e3, e4, e5⟩ := r
      exact ⟨a, dx, xs, e1, gcW_one e2, e3, e4, mapO_frz ih q e5⟩
    | exv c ns ds =>
      obtain ⟨es, q, rfl⟩ := map_some (show (mapO (frzD h1 w.k n) ds).map (D.exv c ns) = some d' from e)
      obtain ⟨a, xs, e1, e2, e3, e4⟩ := r
      exact ⟨a, xs, e1, e2, e3, mapO_frz ih q e4⟩
    | ref m =>
      obtain ⟨hm, rfl⟩ := r
      have e : (if m < w.k then some (D.ref m) else match h1.get m with
        | some (.lst ds) => (mapO (frzD h1 w.k n) ds).map .flst
        | some (.dk kvs) => (mapO (frzD h1 w.k n) (kvs.map (·.2))).map (.fdk (kvs.map (·.1)))
        | some (.ins c fs) => (mapO (frzD h1 w.k n) (fs.map (·.2))).map (.obj c (fs.map (·.1)))
        | none => none) = some d' := e
      by_cases hk : m < w.k
      · rw [if_pos hk] at e
        cases e
        exact ⟨hk, rfl⟩
      · rw [if_neg hk] at e
        have hk : w.k ≤ m := Nat.le_of_not_lt hk
        cases q : h1.get m with
        | none => rw [q] at e; cases e
        | some o =>
          rw [q] at e
          have mk := gcW_new (w1 := w1) hk q
          obtain ⟨_, ho⟩ := s1.obj m o q
          cases o with
          | lst ds =>
            obtain ⟨es, q2, rfl⟩ := map_some e
            obtain ⟨us, h2, h3⟩ := ho
            exact ⟨_, us, rfl, mk, h2, mapO_frz ih q2 h3⟩
          | dk kvs =>
            obtain ⟨es, q2, rfl⟩ := map_some e
            obtain ⟨us, h2, h3⟩ := ho
            obtain ⟨xs, rfl, h4, h5⟩ := h3.split
            exact ⟨_, xs, rfl, mk, h2, h4, mapO_frz ih q2 h5⟩
          | ins c fs =>
            obtain ⟨es, q2, rfl⟩ := map_some e
            obtain ⟨dx, us, h2, h3⟩ := ho
            obtain ⟨xs, rfl, h4, h5⟩ := h3.split
            exact ⟨_, dx, xs, rfl, mk, h2, h4, mapO_frz ih q2 h5⟩
    | none => cases e; exact r
    | bool b => cases e; exact r
    | int b => cases e; exact r
    | str b => cases e; exact r
    | fn b => cases e; exact r
    | cl b => cases e; exact r
    | ty b => cases e; exact r
theorem getO_filter {k : Nat} : ∀ {l : List (Nat × MO)} {n : Nat} {o : MO}, getO (l.filter fun p => decide (p.1 < k)) n = some o → n < k ∧ getO l n = some o ∧ (n, o) ∈ l.filter fun p => decide (p.1 < k)
  | [], _, _, h => by cases h
  | (m, x) :: l, n, o, h => by
    rw [List.filter_cons] at h ⊢
    by_cases hk : m < k
    · have hd : decide (m < k) = true := decide_eq_true hk
      rw [if_pos hd] at h ⊢
      unfold getO at h ⊢
      by_cases e : m = n
      · rw [if_pos e] at h ⊢
        cases h
        exact ⟨e ▸ hk, rfl, by rw [e]; exact List.mem_cons_self ..⟩
      · rw [if_neg e] at h ⊢
        obtain ⟨h1, h2, h3⟩ := getO_filter h
        exact ⟨h1, h2, List.mem_cons_of_mem _ h3⟩
    · have hd : ¬ decide (m < k) = true := by simpa using hk
      rw [if_neg hd] at h ⊢
      obtain ⟨h1, h2, h3⟩ := getO_filter h
      refine ⟨h1, ?_, h3⟩
      unfold getO
      rw [if_neg (fun e : m = n => hk (by rw [e]; exact h1))]
      exact h2
theorem gcW_sim (e1 : Ext Γ w w1) (s1 : Sim Γ w1 h1) (wf : (gcH w.k h1).wfB = true) : Sim Γ (gcW w w1 h1) (gcH w.k h1) := by
  have got : ∀ n o, (gcH w.k h1).get n = some o → n < w.k ∧ h1.get n = some o ∧ bndO w.k o = true := fun n o e => by
    obtain ⟨a, b, c⟩ := getO_filter e
    unfold MH.wfB at wf
    have := List.all_eq_true.mp wf _ c
    rw [Bool.and_eq_true] at this
    exact ⟨a, b, this.2⟩
  refine ⟨rfl, fun a ha => ?_, fun n o e => ?_, fun n o e => ?_, fun n m o o' e e' q => s1.inj n m o o' (got n o e).2.1 (got m o' e').2.1 q⟩
  · rw [gcW_not]
    · exact s1.fr a ha
    · rintro ⟨m, o, hk, e, rfl⟩
      obtain ⟨u, hu, _⟩ := (s1.obj m o e).2.some
      have ha : w1.H (w1.ρ m) = none := ha
      rw [ha] at hu; cases hu
  · obtain ⟨h2, h3, _⟩ := got n o e
    show (gcW w w1 h1).M (w1.ρ n) = 0
    rw [gcW_not]
    · exact s1.np n o h3
    · rintro ⟨m, o', hk, e', z⟩
      have := s1.inj m n o' o e' h3 z
      omega
  · obtain ⟨h2, h3, hb⟩ := got n o e
    refine ⟨h2, ?_⟩
    obtain ⟨_, ho⟩ := s1.obj n o h3
    cases o with
    | lst ds =>
      obtain ⟨us, h4, h5⟩ := ho
      exact ⟨us, h4, h5.down (by unfold bndO at hb; exact hb)⟩
    | dk kvs =>
      obtain ⟨us, h4, h5⟩ := ho
      exact ⟨us, h4, h5.down (by unfold bndO at hb; exact hb)⟩
    | ins c fs =>
      obtain ⟨dx, us, h4, h5⟩ := ho
      exact ⟨dx, us, h4, h5.down (by unfold bndO at hb; exact hb)⟩
end
theorem RepP.unzip {κ : Type} {Γ : G} {w : Vw} {fs : List (κ × D)} : ∀ {ds : List D} {ns : List κ} {xs : List V}, Reps Γ w ds xs → xs.length = ns.length → RepP Γ w (ns.zip ds) (ns.zip xs) := fun r h => r.zip h
/-- what is wanted behind the gathering is had ahead of it -/
theorem gc_says {Γ : G} {w : Vw} {h : MH} {r : Res D} {Q : VK} {E : XK} (S : Sim Γ w h) (A : Aft Γ w (gcR h.next r) (Val Γ Q) (fun c fs w' _ => ∀ cls d, ExcR Γ w' c fs cls d → E cls d w'.H)) :
    Aft Γ w r (Val Γ Q) (fun c fs w' _ => ∀ cls d, ExcR Γ w' c fs cls d → E cls d w'.H) := by
  rw [S.k] at A
  cases r with
  | bad => exact A
  | ok d h1 =>
    intro w1 e1 s1 v rv
    have A : Aft Γ w (match frzD h1 w.k 60 d with | some d' => if (gcH w.k h1).wfB then .ok d' (gcH w.k h1) else .bad | none => .bad) (Val Γ Q) _ := A
    cases q : frzD h1 w.k 60 d with
    | none => rw [q] at A; exact A.elim
    | some d' =>
      rw [q] at A
      have A : Aft Γ w (if (gcH w.k h1).wfB then .ok d' (gcH w.k h1) else .bad) (Val Γ Q) _ := A
      by_cases wf : (gcH w.k h1).wfB = true
      · rw [if_pos wf] at A
        exact A (gcW w w1 h1) (gcW_ext e1 s1) (gcW_sim e1 s1 wf) v (frz_says s1 60 d d' v q rv)
      · rw [if_neg wf] at A; exact A.elim
  | exc c fs h1 =>
    intro w1 e1 s1 cls d x
    have A : Aft Γ w (match mapO (frzD h1 w.k 60) (fs.map (·.2)) with | some ds => if (gcH w.k h1).wfB then .exc c ((fs.map (·.1)).zip ds) (gcH w.k h1) else .bad | none => .bad) (Val Γ Q) _ := A
    cases q : mapO (frzD h1 w.k 60) (fs.map (·.2)) with
    | none => rw [q] at A; exact A.elim
    | some ds =>
      rw [q] at A
      have A : Aft Γ w (if (gcH w.k h1).wfB then .exc c ((fs.map (·.1)).zip ds) (gcH w.k h1) else .bad) (Val Γ Q) (fun c fs w' _ => ∀ cls d, ExcR Γ w' c fs cls d → E cls d w'.H) := A
      by_cases wf : (gcH w.k h1).wfB = true
      · rw [if_pos wf] at A
        refine A (gcW w w1 h1) (gcW_ext e1 s1) (gcW_sim e1 s1 wf) cls d ?_
        obtain ⟨x1, x2⟩ := x
        refine ⟨x1, ?_⟩
        rcases x2 with ⟨rfl, x3⟩ | ⟨a, xs, x3, x4, x5⟩
        · cases q
          exact .inl ⟨rfl, x3⟩
        · obtain ⟨ys, rfl, y2, y3⟩ := x5.split
          exact .inr ⟨a, _, x3, x4, (mapO_frz (frz_says s1 60) q y3).zip y2⟩
      · rw [if_neg wf] at A; exact A.elim
end R
namespace R
open PySem PySem.Spec PyProof.Rows L2

/-- the head, as law_call, for a law's def that asks that no repr is under way -/
theorem lawG {P : Program} {w : World} {K : PySem.W.Frag} {mg mb : Str → Option Value} {CX : CXT} {k : Nat} {fa a : Addr} {sp : SpC} {s₁ : Shared} {vs : List Value} {ns : List Int}
    (KX : K.In s₁.heap) (hns : s₁.heap.Ns mainGlobals mg) (hb : s₁.heap.Ns builtinsNs mb) (hbb : ∀ x : Str, x ≠ "__name__" → mb x = bootBuiltins x) (hlim : s₁.heap.NoLimit) (hg : s₁.gens = #[])
    (ha : s₁.heap.get? a = some { cls := .type "list", data := .seq vs.toArray }) (hi : IntsAre vs ns) (hl : ns.length ≤ sizeLine) (hr : Room k callerA)
    (F : ∀ base : Heap, K.In base → base.Ns mainGlobals mg → FnC true P w K mg base CX k fa sp)
    (hsp : ∀ H : Hp, Only H → Fz K H a (ns.map V.int) → sp [.ref a] [] H (fun v _ => v = .bl true) fun _ _ _ => False)
    (hCX : ∀ H e s', CX [] H s₁ (fun _ _ _ => False) e s' → False) :
    codeAny (model P w) callerA (.call (.ref fa) ⟨[.ref a], []⟩) (fun r s' => r = .ok (.ret (.bool true)) ∧ OldK s₁.heap s'.heap ∧ s'.os = s₁.os ∧ AllBare s'.gens) s₁ := by
  have rel := vals_ints hi
  have same := hi.length
  have main : ∀ H : Hp, Only H → Fz K H a (ns.map V.int) → HOk P w H s₁.heap → (∀ b, H b ≠ none → b = a) → (H a ≠ none → K.lookup a = none) →
      codeAny (model P w) callerA (.call (.ref fa) ⟨[.ref a], []⟩) (fun r s' => r = .ok (.ret (.bool true)) ∧ OldK s₁.heap s'.heap ∧ s'.os = s₁.os ∧ AllBare s'.gens) s₁ := by
    intro H only fz hok isA notK
    have old : ∀ {b : Addr} {o : Obj} {es : Array DictEntry} {ep : Nat}, s₁.heap.get? b = some o → o.data = .dict es ep → H b = none := fun {b o es ep} e d => by
      by_cases q : H b = none
      · exact q
      · have e' := isA b q
        subst e'
        rw [ha] at e; cases e; cases d
    have ns' : ∀ {b : Addr} {m : Str → Option Value}, s₁.heap.Ns b m → (hidT s₁.heap H).Ns b m := fun {b m} ⟨o, es, ep, e, d, r⟩ => ⟨o, es, ep, hidT_get e (old e d), d, r⟩
    have kb : K.In (hidT s₁.heap H) := fun b o e => hidT_get (KX b o e) (by
      by_cases q : H b = none
      · exact q
      · have e' := isA b q
        subst e'
        rw [notK q] at e; cases e)
    have md : Mod K mg (hidT s₁.heap H) := ⟨kb, ns' hns, ⟨mb, ns' hb, hbb⟩, let ⟨mc, h1, h2⟩ := hlim; ⟨mc, ns' h1, h2⟩⟩
    have env0 : Env0 P w K mg (hidT s₁.heap H) callerA [] s₁ H := ⟨rfl, md, fun b o e => of_hidT e, Nat.le_of_eq (hidT_size _ _), trivial, (fun b hb => by cases hb), hok, .of_eq hg⟩
    refine codeAny_mono ((F _ kb (ns' hns)).run callerA [] s₁ H [.ref a] [] [.ref a] [] _ _ (fun _ => rfl) hr env0 (.cons rfl .nil) .nil (hsp H only fz)) fun r s' h => ?_
    cases r with
    | error e => exact (hCX H e s' h).elim
    | ok fl =>
      cases fl with
      | next => exact h.elim
      | brk => exact h.elim
      | cont => exact h.elim
      | ret u =>
        obtain ⟨v, H', os, bare, un, hok', r', q⟩ := h
        have q' : v = .bl true := q
        subst q'
        obtain rfl : u = Value.bool true := r'
        refine ⟨rfl, OldK.of_keep fun b o e => ?_, os, bare⟩
        rcases only b with z | ⟨ob, xs, z⟩
        · exact un.keep b o e z (by intro t; cases t) (by simp)
        · obtain ⟨e1, _⟩ := hok b _ z
          obtain ⟨e2, _⟩ := hok' b _ (un.frzs b ob _ z)
          rw [e] at e1; cases e1
          exact e2
  by_cases hk : K.lookup a = none
  · let H : Hp := fun b => if b = a then some (.frz { cls := .type "list", data := .seq vs.toArray } (.lst (ns.map V.int))) else none
    have h1 : H a = some (.frz { cls := .type "list", data := .seq vs.toArray } (.lst (ns.map V.int))) := if_pos rfl
    have h2 : ∀ b, b ≠ a → H b = none := fun b hb => if_neg hb
    refine main H (fun b => ?_) (.inl ⟨_, h1⟩) (fun b u z => ?_) (fun b z => ?_) fun _ => hk
    · by_cases hb : b = a
      · subst hb; exact .inr ⟨_, _, h1⟩
      · exact .inl (h2 b hb)
    · by_cases hb : b = a
      · subst hb
        rw [h1] at z; cases z
        exact ⟨ha, by rw [List.length_map]; exact hl, vs, _, rel, ha⟩
      · rw [h2 b hb] at z; cases z
    · exact Classical.byContradiction fun hb => z (h2 b hb)
  · obtain ⟨o, hk'⟩ := Option.ne_none_iff_exists'.mp hk
    have e := KX a o hk'
    rw [ha] at e; cases e
    exact main (fun _ => none) (fun _ => .inl rfl) (.inr ⟨_, vs.toArray, _, hk', rfl, rfl, rfl, by rw [List.size_toArray, same]; exact hl, by simpa using rel⟩) (fun b u z => by cases z) (fun b z => absurd rfl z) fun z => absurd rfl z
theorem walkG {l : PySem.W.OpenLaw} {n k : Nat} {q : Program} {loose : List Str} {XP : (Str → Option Value) → Heap → Prop} {YP : World → Heap → Prop} {d : DefRec} {CX : World → CXT}
    (hn : l.most = some n) (hn2 : n ≤ sizeLine) (hdf : d.params.defaults = []) (hr : Room k callerA)
    (F : ∀ (w : World) (mg : Str → Option Value) (fa : Addr) (h : Heap), YP w h → h.Ns mainGlobals mg → mg d.name = some (.ref fa) →
      ∃ (K : PySem.W.Frag) (sp : SpC), K.In h ∧ (∀ (H : Hp) (a : Addr) (ns : List Int), ns.length ≤ n → Only H → Fz K H a (ns.map V.int) → sp [.ref a] [] H (fun v _ => v = .bl true) fun _ _ _ => False) ∧
        ∀ base : Heap, K.In base → base.Ns mainGlobals mg → FnC true l.prog w K mg base (CX w) k fa sp)
    (hCX : ∀ (w : World) (H : Hp) (s : Shared) (e : Value) (s' : Shared), CX w [] H s (fun _ _ _ => False) e s' → False) :
    PySem.W.WalkO q loose XP YP l.row.toRowW d [] (fun f vs => PySem.call f vs) := by
  refine Att.attach_call hn hdf fun w s₀ s₁ mg mb fa o pm cd doc a vs ns G Y ho hd hcd hmg hobj hints hlen hg => ?_
  obtain ⟨K, sp, KX, hsp, hF⟩ := F w mg fa _ Y G.T.g hmg
  exact lawG KX G.T.g G.T.b G.T.builtins G.T.nolimit hg hobj hints (Nat.le_trans hlen hn2) hr hF (fun H only fz => hsp H a ns hlen only fz) fun H e s' => hCX w H s₁ e s'

/-- a def of the text -/
structure DI where
  qual : Str
  N : List Str
  ps : List Str
  scope : Scope
  body : List Stmt
  g : Bool
  mf : MF
  sg : SigD
/-- the text's names -/
structure Pl where
  defs : List DI
  globs : List (Str × GV)
  nob : List Str
  /-- the classes that may be made: the field of the one argument -/
  mkx : List (Option (Option Str))
  /-- where lists are made that will be written: rows, columns -/
  mu : List (Nat × Nat)
def Pl.gf (p : Pl) (i : Nat) : Bool := match p.defs[i]? with
  | some d => d.g
  | none => false
def Pl.sc (p : Pl) (d : DI) : Sc := ⟨d.N, d.scope, p.globs, p.nob, p.defs.length, fun _ => true, p.gf, d.g, fun c => (p.mkx[c]?).getD none, fun pos => p.mu.contains (pos.line, pos.col)⟩
/-- the def's parameters are those of its signature -/
def SigOk (d : DI) (q : Arguments) : Prop := q.posonlyargs = [] ∧ q.args.map (·.arg) = d.sg.ps ∧ q.kwonlyargs.map (·.arg) = d.sg.ks ∧ q.vararg.isSome = d.sg.va ∧ q.kwarg.isSome = d.sg.kw ∧
  d.ps = d.sg.ps ++ d.sg.ks ++ (match q.vararg with | some a => [a.arg] | none => []) ++ (match q.kwarg with | some a => [a.arg] | none => []) ∧ d.sg.dfl.length ≤ d.sg.ps.length
/-- what the written part must say -/
structure Tx (p : Pl) (M : MP) (Γ : G) (P : Program) (w : World) (mg : Str → Option Value) : Prop where
  fns : M.fns = p.defs.map (·.mf)
  sigs : M.sigs = p.defs.map (·.sg)
  df : ∀ (i : Nat) (d : DI), p.defs[i]? = some d → ∃ (name : Str) (params : Arguments) (dvs : List V) (kws : List (Str × V)) (fd : FuncData), FunD Γ.K name d.qual params d.body d.scope dvs kws (Γ.fa i) fd ∧ SigOk d params ∧ (∀ w, Reps Γ w d.sg.dfl dvs) ∧ (∀ w, PairedN (Rep Γ w) d.sg.kwd kws)
  fs : ∀ (i : Nat) (d : DI), p.defs[i]? = some d → FnScope d.N d.ps d.scope ∧ d.mf.slots = d.N.length
  gl : ∀ x i, p.globs.lookup x = some (.fn i) → i < p.defs.length ∧ mg x = some (.ref (Γ.fa i)) ∧ PySem.W.keepIn Γ.K (.ref (Γ.fa i)) = true
  gd : ∀ x d, p.globs.lookup x = some (.dat d) → ∃ u, mg x = some u ∧ ∀ w, ∃ v, RelV v u ∧ Rep Γ w d v
  gn : ∀ x, x ∈ p.nob → mg x = none
  gc : ∀ x c, p.globs.lookup x = some (.cl c) → mg x = some (.ref (Γ.ca c)) ∧ PySem.W.keepIn Γ.K (.ref (Γ.ca c)) = true
  kit : ∀ t u b, M.kit t u = some b → PySem.W.kitOne Γ.K (Γ.tv t) (Γ.tv u) = some b
  xc : ∀ c, M.xc c = true → XcF Γ.K (Γ.ca c)
  xf : ∀ c f, M.xf c f = true → PySem.W.findIn Γ.K (.ref (Γ.ca c)) f = some none
  mk1 : ∀ c f, (p.mkx[c]?).getD none = some (some f) → ∀ X : Cx, X.prog = P → X.w = w → X.K = Γ.K → X.mg = mg → XMk X (Γ.ca c) f
  mk0 : ∀ c, (p.mkx[c]?).getD none = some none → XMk0 Γ.K (Γ.ca c)
/-- the bodies are what was compiled -/
def Pl.Comp (p : Pl) : Prop := ∀ (i : Nat) (d : DI), p.defs[i]? = some d → ∀ Γ X C W, Fit (p.sc d) Γ X C W → ∀ n, PSs X d.body (tSs Γ C W n d.mf.body)

theorem startM_slt {Γ : G} {w : Vw} {N : List Str} {ds : List D} {vs : List V} (r : Reps Γ w ds vs) : Slt Γ w (startM N.length ds) (L2.start N vs) := by
  have hl := r.length
  refine ⟨by unfold startM L2.start; simp [hl], fun i d h => ?_⟩
  unfold startM at h
  by_cases hi : i < ds.length
  · rw [List.getElem?_append_left (by simpa using hi), List.getElem?_map] at h
    cases q : ds[i]? with
    | none => rw [q] at h; cases h
    | some e =>
      rw [q] at h; cases h
      obtain ⟨v, h1, h2⟩ := r.get q
      refine ⟨v, ?_, h2⟩
      unfold L2.start
      rw [List.getElem?_append_left (by rw [List.length_map, hl]; exact hi), List.getElem?_map, h1]
      rfl
  · rw [List.getElem?_append_right (by simpa using hi)] at h
    rw [List.getElem?_replicate] at h
    split at h <;> cases h
theorem cal_kit (M : MP) (n : Nat) : (cal M n).kit = M.kit := by cases n <;> rfl
theorem cal_xc (M : MP) (n : Nat) : (cal M n).xc = M.xc := by cases n <;> rfl
theorem cal_xf (M : MP) (n : Nat) : (cal M n).xf = M.xf := by cases n <;> rfl
theorem cal_sig (M : MP) (n : Nat) : (cal M n).sig = M.sig := by cases n <;> rfl
theorem Reps.paired {Γ : G} {w : Vw} : ∀ {ds : List D} {vs : List V}, Reps Γ w ds vs → Paired (Rep Γ w) ds vs
  | [], _, h => by cases h; exact .nil
  | d :: ds, _, h => by
    obtain ⟨x, xs, rfl, r1, r2⟩ := h
    exact .cons r1 r2.paired
theorem Reps.of_paired {Γ : G} {w : Vw} : ∀ {ds : List D} {vs : List V}, Paired (Rep Γ w) ds vs → Reps Γ w ds vs
  | _, _, .nil => rfl
  | _, _, .cons r t => ⟨_, _, rfl, r, Reps.of_paired t⟩
/-- the defaults as the heap has them -/
theorem bindG {K : PySem.W.Frag} {x qual : Str} {params : Arguments} {body : List Stmt} {scope : Scope} {dvs : List V} {kws : List (Str × V)} {f : Addr} {fd : FuncData} {ps ks : List Str} (F : FunD K x qual params body scope dvs kws f fd)
    (h1 : params.posonlyargs = []) (h2 : params.args.map (·.arg) = ps) (h3 : params.kwonlyargs.map (·.arg) = ks) (h4 : params.vararg = none) (h5 : params.kwarg = none) (h6 : dvs.length ≤ ps.length) :
    ∃ (ds : List Value) (kds : List (Str × Value)), Vals dvs ds ∧ PairedN RelV kws kds ∧ ∀ (s : Shared) (pos : List Value) (kw : List (Str × Value)) (vs : List Value), K.In s.heap → bindP ⟨ps, ks, none, none⟩ ds kds pos kw = some vs → BindsTo s fd ⟨pos, kw⟩ ((ps ++ ks).zip vs) := by
  obtain ⟨oc, od, dV, kV, doc, pm, an, cdv, ct, osl, rfl, lk, hcd, hD, hK⟩ := F.ex
  obtain ⟨ds, hds, rd⟩ : ∃ ds : List Value, (∀ (h : Heap) (M : Model), K.In h → PySem.W.Looks M h (seqItems? dV) (if ds = [] then none else some ds.toArray)) ∧ Vals dvs ds := by
    rcases hD with ⟨rfl, rfl⟩ | ⟨ne, T, o, its, n, rfl, lT, oT, r⟩
    · exact ⟨[], fun h M _ => PySem.W.Looks.of_pure rfl, .nil⟩
    · refine ⟨its, fun h M X => ?_, r⟩
      have ne' : its ≠ [] := fun e => by subst e; cases r; exact ne rfl
      rw [if_neg ne']
      intro A Q E s kp q
      exact wpAny_seqItems (kp _ _ (X _ _ lT)) oT q
  obtain ⟨kds, hkd, rk⟩ : ∃ kds : List (Str × Value), (∀ n v, kds.lookup n = some v → ∃ D, kV = .ref D ∧ ∀ (h : Heap) (M : Model), K.In h → PySem.W.Looks M h (nsGet D n) (some v)) ∧ PairedN RelV kws kds := by
    rcases hK with rfl | ⟨D, rfl, hq⟩
    · exact ⟨[], (fun n v e => by cases e), .nil⟩
    · obtain ⟨us, l, r, a⟩ := kwd_vals hq
      refine ⟨(kws.map (·.1)).zip us, fun n v e => ⟨D, rfl, fun h M X => PySem.W.looks_nsIn X (a (n, v) ?_)⟩, ?_⟩
      · clear a r l hq lk hcd
        generalize (kws.map (·.1)).zip us = l at e
        induction l with
        | nil => cases e
        | cons q l ih =>
          obtain ⟨k, u⟩ := q
          rw [List.lookup_cons] at e
          cases q : n == k with
          | true => rw [q] at e; cases e; rw [beq_iff_eq.mp q]; exact List.mem_cons_self ..
          | false => rw [q] at e; exact List.mem_cons_of_mem _ (ih e)
      · clear a hq lk hcd F
        induction kws generalizing us with
        | nil => cases us with
          | nil => exact .nil
          | cons _ _ => cases l
        | cons q kws ih =>
          cases us with
          | nil => cases l
          | cons u us =>
            obtain ⟨k, v⟩ := q
            cases r with
            | cons r1 r2 => exact .cons ⟨rfl, r1⟩ (ih us (by simpa using l) r2)
  refine ⟨ds, kds, rd, rk, fun s pos kw vs X h => ?_⟩
  exact bind_gen h1 h2 h3 h4 h5 (fun M => hds _ M X) (by rw [← rd.length]; exact h6) (fun n v e => by
    obtain ⟨D, e1, l⟩ := hkd n v e
    exact ⟨D, e1, fun M => l _ M X⟩) h
theorem bindD_plain {g : SigD} {ds : List D} {kds : List (Str × D)} {args : List D} (hva : g.va = false) (hkw : g.kw = false) (h : bindD g ds kds = some args) : (args = ds ∧ kds = [] ∧ g.ks = [] ∧ ds.length = g.ps.length) ∨ bindP ⟨g.ps, g.ks, none, none⟩ g.dfl g.kwd ds kds = some args := by
  unfold bindD at h
  split at h
  · rename_i hc
    simp only [Bool.and_eq_true, decide_eq_true_eq, List.isEmpty_iff] at hc
    cases h
    exact .inl ⟨rfl, hc.1.1.1.1, hc.1.1.1.2, hc.2⟩
  · rw [hva, hkw] at h
    exact .inr h
theorem bindD_star {g : SigD} {ds : List D} {kds : List (Str × D)} {args : List D} (hva : g.va = true) (hkw : g.kw = false) (h : bindD g ds kds = some args) : kds = [] ∧ g.ks = [] ∧ g.dfl = [] ∧ g.ps.length ≤ ds.length ∧ ds.length ≤ sizeLine ∧ args = ds.take g.ps.length ++ [.tup (ds.drop g.ps.length)] := by
  unfold bindD at h
  rw [hva, hkw] at h
  simp only [Bool.not_true, Bool.and_false, Bool.false_and, Bool.false_eq_true, if_false] at h
  split at h
  · rename_i hc
    simp only [Bool.and_eq_true, decide_eq_true_eq, List.isEmpty_iff] at hc
    cases h
    exact ⟨hc.1.1.1.1, hc.1.1.1.2, hc.1.1.2, hc.1.2, hc.2, rfl⟩
  · cases h
theorem valsOf_len {α : Type} {s d : List (Str × α)} : ∀ {ns : List Str} {vs : List α}, valsOf s d ns = some vs → vs.length = ns.length
  | [], vs, h => by cases h; rfl
  | n :: ns, vs, h => by
    unfold valsOf at h
    cases q : valOf s d n with
    | none => rw [q] at h; cases h
    | some v =>
      cases q2 : valsOf s d ns with
      | none => rw [q, q2] at h; cases h
      | some vs' => rw [q, q2] at h; cases h; simp [valsOf_len q2]
theorem bindP_len {α : Type} {g : Sig} {dv : List α} {kd : List (Str × α)} {pos : List α} {kw : List (Str × α)} {a : List α} (h : bindP g dv kd pos kw = some a) : a.length = (g.ps ++ g.ks).length := by
  unfold bindP at h
  split at h
  · split at h
    · rename_i x y ex ey
      cases h
      rw [List.length_append, List.length_append, valsOf_len ex, valsOf_len ey]
    · cases h
  · cases h
theorem all_fns {p : Pl} {M : MP} {Γ : G} {P : Program} {w : World} {mg : Str → Option Value} {base : Heap} (T : Tx p M Γ P w mg) (hC : p.Comp) : ∀ (n i : Nat) (d : DI), p.defs[i]? = some d →
    FnC d.g P w Γ.K mg base (L2.CX P w) (n + 4) (Γ.fa i) (spC Γ (cal M n) i)
  | 0, i, d, hd => by
    refine ⟨fun A outer s H us kws vs kvs Q E _ _ _ _ _ h => ?_⟩
    obtain ⟨_, _, ds, kds, _, _, _, _, a⟩ := h
    unfold Cal.callf at a
    split at a <;> exact a.elim
  | n + 1, i, d, hd => by
    obtain ⟨S, hsl⟩ := T.fs i d hd
    obtain ⟨name, params, dvs, kwv, fd, FD, so, rdf, rkw⟩ := T.df i d hd
    obtain ⟨oc, od, dV, kV, doc, pm, an, cdv, ct, osl, efd, lk, hcd, hDf, hKf⟩ := FD.ex
    obtain ⟨so1, so2, so3, so4, so5, so6, so7⟩ := so
    refine ⟨fun A outer s H us kws vs kvs Q E hgd room env0 r rk h => ?_⟩
    obtain ⟨wv, h, ds, kds, rfl, sim, rds, rkds, A1⟩ := h
    have hf : M.fns[i]? = some d.mf := by rw [T.fns, List.getElem?_map, hd]; rfl
    have hsg : (cal M (n + 1)).sig i = d.sg := by
      rw [cal_sig]
      show (M.sigs[i]?).getD default = d.sg
      rw [T.sigs, List.getElem?_map, hd]; rfl
    unfold Cal.callf at A1
    rw [hsg] at A1
    -- the body
    have body : ∀ (s2 : Shared) (H2 : Hp) (xs : List V), (∃ w2 args, w2.H = H2 ∧ Sim Γ w2 h ∧ Reps Γ w2 args xs ∧ Aft Γ w2 ((cal M (n + 1)).fn i args h) (Val Γ Q) (fun c fs w' _ => ∀ cls d, ExcR Γ w' c fs cls d → E cls d w'.H)) →
        Room (n + 4) (A.deeper (envOfC d.qual d.scope s2.heap.objs.size (Γ.fa i) cdv)) → ∃ t, PSs (cxOf (L2.CX P w) P w Γ.K mg base d.N d.qual d.scope (Γ.fa i) cdv A outer s2 H2 E) d.body t ∧ t { nx := fun _ H' => Q .non H', rt := Q } (start d.N xs) H2 := by
      rintro s2 H2 xs ⟨w2, args, rfl, sim2, rargs, A2⟩ room2
      have F : Fit (p.sc d) Γ (cxOf (L2.CX P w) P w Γ.K mg base d.N d.qual d.scope (Γ.fa i) cdv A outer s2 w2.H E) (cal M n) (fun cls dd _ H => E cls dd H) := {
        K := rfl
        N := rfl
        sc := rfl
        kind := S.kind
        nd := S.nd
        calm := rfl
        tk := L2.takes_of rfl rfl rfl rfl
        po := L2.passes_of rfl
        un := by
          have := room2.un
          show (A.deeper (envOfC d.qual d.scope s2.heap.objs.size (Γ.fa i) cdv)).units + 65 < cLine
          omega
        own := fun _ _ _ => .inl rfl
        gl := fun x j hx => (T.gl x j hx).2
        gd := T.gd
        gn := T.gn
        fns := fun j hj => by
          obtain ⟨d', hd'⟩ : ∃ d', p.defs[j]? = some d' := ⟨_, List.getElem?_eq_getElem hj⟩
          have hg' : (p.sc d).gf j = d'.g := by show p.gf j = _; unfold Pl.gf; rw [hd']
          exact ⟨n + 4, by rw [hg']; exact all_fns T hC n j d' hd', room2⟩
        gi := fun x j hx => (T.gl x j hx).1
        gr := hgd
        rm := room2.mono (by omega)
        gc := T.gc
        kit := fun t u b h => T.kit t u b (by rw [← cal_kit M n]; exact h)
        xc := fun c h => T.xc c (by rw [← cal_xc M n]; exact h)
        xf := fun c f h => T.xf c f (by rw [← cal_xf M n]; exact h)
        mk1 := fun c f h => T.mk1 c f h _ rfl rfl rfl rfl
        mk0 := T.mk0 }
      refine ⟨_, hC i d hd Γ _ _ _ F 60, w2, startM d.mf.slots args, h, rfl, sim2, by rw [hsl]; exact startM_slt rargs, ?_⟩
      have A2 : Aft Γ w2 (match M.fns[i]? with | some F => runF (cal M n) F args h | none => .bad) (Val Γ Q) (fun c fs w' _ => ∀ cls d, ExcR Γ w' c fs cls d → E cls d w'.H) := A2
      rw [hf] at A2
      have A2 : Aft Γ w2 (if d.mf.gc then gcR h.next (runB (cal M n) d.mf args h) else runB (cal M n) d.mf args h) (Val Γ Q) (fun c fs w' _ => ∀ cls d, ExcR Γ w' c fs cls d → E cls d w'.H) := A2
      have A2 : Aft Γ w2 (runB (cal M n) d.mf args h) (Val Γ Q) (fun c fs w' _ => ∀ cls d, ExcR Γ w' c fs cls d → E cls d w'.H) := by
        by_cases hgc : d.mf.gc = true
        · rw [if_pos hgc] at A2; exact gc_says sim2 A2
        · rw [if_neg hgc] at A2; exact A2
      have A2 : Aft Γ w2 (match exs (ex (cal M n) 60) d.mf.body (startM d.mf.slots args) h with
        | .ok (.rt d) h => .ok d h
        | .ok (.nx _) h => .ok .none h
        | .ok (.xc c fs _) h => .exc c fs h
        | _ => .bad) (Val Γ Q) (fun c fs w' _ => ∀ cls d, ExcR Γ w' c fs cls d → E cls d w'.H) := A2
      cases q : exs (ex (cal M n) 60) d.mf.body (startM d.mf.slots args) h with
      | bad => rw [q] at A2; exact A2.elim
      | exc c fs h1 => rw [q] at A2; exact A2.elim
      | ok f h1 =>
        rw [q] at A2
        cases f with
        | rt x => exact fun w1 e1 s1 => A2 w1 e1 s1
        | nx ms => exact fun w1 e1 s1 σ _ => A2 w1 e1 s1 _ rfl
        | bk ms => exact A2.elim
        | ct ms => exact A2.elim
        | xc c fs ms => exact fun w1 e1 s1 σ cls dd _ x => A2 w1 e1 s1 cls dd x
    cases qb : bindD d.sg ds kds with
    | none => rw [qb] at A1; exact A1.elim
    | some args =>
      rw [qb] at A1
      have A1 : Aft Γ wv ((cal M (n + 1)).fn i args h) (Val Γ Q) (fun c fs w' _ => ∀ cls d, ExcR Γ w' c fs cls d → E cls d w'.H) := A1
      cases hkw : d.sg.kw with
      | true =>
        rw [hkw] at so5
        unfold bindD at qb
        rw [hkw] at qb
        simp only [Bool.not_true, Bool.and_false, Bool.false_and, Bool.false_eq_true, if_false] at qb
        split at qb <;> first | cases qb | (rename_i z; cases z)
      | false =>
        rw [hkw] at so5
        have pk : params.kwarg = none := by
          cases q : params.kwarg with
          | none => rfl
          | some a => rw [q] at so5; cases so5
        rw [pk] at so6
        cases hva : d.sg.va with
        | false =>
          rw [hva] at so4
          have pv : params.vararg = none := by
            cases q : params.vararg with
            | none => rfl
            | some a => rw [q] at so4; cases so4
          rw [pv] at so6
          have so6 : d.ps = d.sg.ps ++ d.sg.ks := by simpa using so6
          obtain ⟨dsV, kdsV, vd, vk, bnd⟩ := bindG FD so1 so2 so3 pv pk (by rw [(rdf wv).length]; exact so7)
          have KX : Γ.K.In s.heap := env0.mod.kin.keeps fun b o e => (env0.bs b o e).1
          have lift : ∀ (zs : List V) (ws : List Value), Reps Γ wv args zs → Vals zs ws → zs.length = d.ps.length → BindsTo s fd ⟨us, kws⟩ (d.ps.zip ws) → codeAny (model P w) A (.call (.ref (Γ.fa i)) ⟨us, kws⟩) (CR (L2.CX P w) outer P w wv.H s Q E) s := fun zs ws rz rw' hl bt => by
            subst efd
            refine StX.run_bnd (k := n + 4) (ps := d.ps) lk hcd S room env0 (G := fun xs H2 => xs = zs ∧ H2 = wv.H) (fun A' Ex Q' hq => ?_) (fun s2 H2 xs g room2 => ?_)
            · exact bt _ _ _ _ (hq s wv.H zs ws env0 Un.refl rfl (fun _ _ z => z) rw' hl ⟨rfl, rfl⟩)
            · obtain ⟨rfl, rfl⟩ := g
              exact body s2 wv.H xs ⟨wv, args, rfl, sim, rz, A1⟩ room2
          rcases bindD_plain hva hkw qb with ⟨rfl, rfl, hks, hl⟩ | hb
          · have ek : kvs = [] := by cases rkds; rfl
            subst ek
            have ek : kws = [] := by cases rk; rfl
            subst ek
            have lu : us.length = d.sg.ps.length := by rw [← r.length, rds.length]; exact hl
            have nd : d.sg.ps.Nodup := by
              have n1 : (d.N.take d.ps.length).Nodup := S.nd.sublist (List.take_sublist _ _)
              rw [S.pre, so6, hks, List.append_nil] at n1
              exact n1
            have bt := bnd s us [] us KX (by rw [hks]; exact bindP_all lu nd)
            rw [← so6] at bt
            exact lift vs us rds r (by rw [so6, hks, List.append_nil, rds.length]; exact hl) bt
          · obtain ⟨zs, hz, pz⟩ := bindP_rel (rdf wv).paired (rkw wv) rds.paired rkds hb
            obtain ⟨ws, hw, pw⟩ := bindP_rel (ρ := RelV) vd vk r rk hz
            have bt := bnd s us kws ws KX hw
            rw [← so6] at bt
            exact lift zs ws (Reps.of_paired pz) pw (by rw [so6]; exact bindP_len hz) bt
        | true =>
          rw [hva] at so4
          obtain ⟨rfl, hks, hdf, hle, hsz0, ea⟩ := bindD_star hva hkw qb
          obtain ⟨va, pv⟩ : ∃ a, params.vararg = some a := Option.isSome_iff_exists.mp so4
          rw [pv] at so6
          have so6 : d.ps = d.sg.ps ++ [va.arg] := by rw [hks] at so6; simpa using so6
          have ek : kvs = [] := by cases rkds; rfl
          subst ek
          have ek : kws = [] := by cases rk; rfl
          subst ek
          have hdv : dvs = [] := by
            have := rdf wv
            rw [hdf] at this
            cases this; rfl
          have hdV : dV = .none := by
            rcases hDf with ⟨_, e⟩ | ⟨ne, _⟩
            · exact e
            · exact absurd hdv ne
          have nd : d.sg.ps.Nodup := by
            have n1 : (d.N.take d.ps.length).Nodup := S.nd.sublist (List.take_sublist _ _)
            rw [S.pre, so6] at n1
            exact (List.nodup_append.mp n1).1
          have hn : wv.H s.heap.objs.size = Option.none := env0.hok.fresh (Nat.le_refl _)
          have hl1 : (us.take d.sg.ps.length).length = d.sg.ps.length := by
            rw [List.length_take, ← r.length, rds.length]; omega
          have hks' : params.kwonlyargs = [] := by
            rw [hks] at so3
            exact List.map_eq_nil_iff.mp so3
          have hsz : (vs.drop d.sg.ps.length).length ≤ sizeLine := by
            rw [(rds.drop d.sg.ps.length).length, List.length_drop]; omega
          · have r1 : Vals (vs.take d.sg.ps.length) (us.take d.sg.ps.length) := r.take _
            have r2 : Vals (vs.drop d.sg.ps.length) (us.drop d.sg.ps.length) := r.drop _
            obtain ⟨s', e', rt⟩ := sim.tup hn (rds.drop d.sg.ps.length)
            have hl2 : (us.drop d.sg.ps.length).length ≤ sizeLine := by rw [← r2.length]; exact hsz
            subst efd
            refine StX.run_bnd (k := n + 4) (ps := d.ps) lk hcd S room env0 (G := fun xs H2 => xs = vs.take d.sg.ps.length ++ [V.ref s.heap.objs.size] ∧ H2 = upd wv.H s.heap.objs.size (.tup (vs.drop d.sg.ps.length))) (fun A' Ex Q' hq => ?_) (fun s2 H2 xs g room2 => ?_)
            · have eu : us = us.take d.sg.ps.length ++ us.drop d.sg.ps.length := (List.take_append_drop _ _).symm
              rw [eu]
              refine bind_star (ps := d.sg.ps) (a := va) so1 so2 hks' pv pk hdV nd hl1 (wpAny_newTuple ?_ hl2)
              have new : ObjOk P w (upd wv.H s.heap.objs.size (.tup (vs.drop d.sg.ps.length))) (s.heap.push ({ cls := .type "tuple", data := .seq (us.drop d.sg.ps.length).toArray } : Obj)) s.heap.objs.size (.tup (vs.drop d.sg.ps.length)) := ⟨hsz, us.drop d.sg.ps.length, r2, ⟨_, Heap.get?_push_size _ rfl, rfl, _, rfl⟩⟩
              have un := StX.un_laid (fs := frs outer) (s := s) (o := ({ cls := .type "tuple", data := .seq (us.drop d.sg.ps.length).toArray } : Obj)) (u := .tup (vs.drop d.sg.ps.length)) hn
              have z := hq _ _ (vs.take d.sg.ps.length ++ [V.ref s.heap.objs.size]) (us.take d.sg.ps.length ++ [Value.ref s.heap.objs.size]) (StX.env0_laid env0 new) un rfl (fun e s' => StX.cxUp outer s wv.H _ _ E e s' un (fun b o q => Heap.get?_push_of_some _ q) rfl) (r1.append (.cons rfl .nil))
                (by rw [List.length_append, r1.length, hl1, so6, List.length_append]; rfl) ⟨rfl, rfl⟩
              rw [so6, List.zip_append hl1.symm] at z
              exact z
            · obtain ⟨rfl, rfl⟩ := g
              refine body s2 _ _ ⟨_, args, rfl, s', ?_, ?_⟩ room2
              · rw [ea]
                exact ((rds.take d.sg.ps.length).mono e').append (.cons rt .nil)
              · exact A1.mono e'
end R
namespace R
open PySem PySem.Spec PyProof.Rows L2
section
variable {S : Sc} {Γ : G} {X : Cx} {C : Cal} {W : WX}

theorem reps1 {w : Vw} {ds : List D} {x : V} (r : Reps Γ w ds [x]) : ∃ d, ds = [d] ∧ Rep Γ w d x := by
  match ds, r with
  | [d], ⟨y, ys, e, h1, h2⟩ => cases h2; cases e; exact ⟨d, rfl, h1⟩
  | [], h => cases h
  | _ :: _ :: _, ⟨y, ys, e, h1, z, zs, e2, h2, h3⟩ => cases e2; cases e
theorem prim_len (F : Fit S Γ X C W) : CallR X (.builtin "len") (rN Γ (primD .len)) := by
  intro pins s σ H xs us Q I r h
  obtain ⟨w, h, ds, Wx, rfl, S', rd, A⟩ := h
  match ds, A, rd with
  | [d], A, rd =>
    obtain ⟨x, t, rfl, rx, rt⟩ := rd
    cases rt
    have A : Aft Γ w (lenD d h) (Val Γ Q) Wx := A
    unfold lenD at A
    split at A
    · rename_i z _
      cases rx
      by_cases hz : z.length ≤ sizeLine
      · rw [if_pos hz] at A
        exact call_len_str pins s σ w.H _ us Q I r ⟨z, rfl, hz, A.val S' rfl⟩
      · rw [if_neg hz] at A; exact A.elim
    · split at A
      · rename_i es he
        obtain ⟨a, ys, rfl, h1, h2⟩ := itemsD_says S' he rx
        refine call_len_seq pins s σ w.H _ us Q I r ⟨a, ys, rfl, ?_, A.val S' (by rw [h2.length]; rfl)⟩
        rcases h1 with h1 | h1
        · exact .inr (F.K ▸ h1)
        · exact .inl (F.K ▸ h1)
      · split at A
        · rename_i kvs he
          obtain ⟨a, ys, rfl, h1, h2⟩ := dkD_says S' he rx
          exact call_lenD pins s σ w.H _ us Q I r ⟨_, ys, rfl, h1, A.val S' (by rw [h2.length]; rfl)⟩
        · exact A.elim
  | [], A, rd => exact A.elim
  | _ :: _ :: _, A, rd => exact A.elim
theorem prim_abs : CallR X (.builtin "abs") (rN Γ (primD .abs)) := by
  intro pins s σ H xs us Q I r h
  obtain ⟨w, h, ds, Wx, rfl, S', rd, A⟩ := h
  match ds, A, rd with
  | [.int i], A, rd =>
    obtain ⟨x, t, rfl, rx, rt⟩ := rd
    cases rt; cases rx
    have A : Aft Γ w (.ok (.int (if i < 0 then -i else i)) h) (Val Γ Q) Wx := A
    exact call_abs pins s σ w.H _ us Q I r ⟨i, rfl, A.val S' rfl⟩
theorem prim_int : CallR X (.type "int") (rN Γ (primD .int)) := by
  intro pins s σ H xs us Q I r h
  obtain ⟨w, h, ds, Wx, rfl, S', rd, A⟩ := h
  match ds, A, rd with
  | [d], A, rd =>
    obtain ⟨x, t, rfl, rx, rt⟩ := rd
    cases rt
    cases d with
    | int i =>
      cases rx
      have A : Aft Γ w (.ok (.int i) h) (Val Γ Q) Wx := A
      exact call_int1 pins s σ w.H _ us Q I r (.inl ⟨i, rfl, A.val S' rfl⟩)
    | bool b =>
      cases rx
      have A : Aft Γ w (.ok (.int (if b then 1 else 0)) h) (Val Γ Q) Wx := A
      exact call_int1 pins s σ w.H _ us Q I r (.inr ⟨b, rfl, A.val S' rfl⟩)
    | _ => exact A.elim
  | [], A, rd => exact A.elim
  | _ :: _ :: _, A, rd => exact A.elim
theorem prim_max2 (F : Fit S Γ X C W) : CallR X (.builtin "max") (rN Γ (primD .max2)) := by
  intro pins s σ H xs us Q I r h
  obtain ⟨w, h, ds, Wx, rfl, S', rd, A⟩ := h
  match ds, A, rd with
  | [.int i, .int j], A, rd =>
    obtain ⟨x, t, rfl, rx, y, t', rfl, ry, rt⟩ := rd
    cases rt; cases rx; cases ry
    have A : Aft Γ w (.ok (.int (if j > i then j else i)) h) (Val Γ Q) Wx := A
    exact call_max2 F.calm pins s σ w.H _ us Q I r ⟨i, j, rfl, A.val S' rfl⟩
theorem prim_min2 (F : Fit S Γ X C W) : CallR X (.builtin "min") (rN Γ (primD .min2)) := by
  intro pins s σ H xs us Q I r h
  obtain ⟨w, h, ds, Wx, rfl, S', rd, A⟩ := h
  match ds, A, rd with
  | [.int i, .int j], A, rd =>
    obtain ⟨x, t, rfl, rx, y, t', rfl, ry, rt⟩ := rd
    cases rt; cases rx; cases ry
    have A : Aft Γ w (.ok (.int (if j < i then j else i)) h) (Val Γ Q) Wx := A
    exact call_min2 F.calm pins s σ w.H _ us Q I r ⟨i, j, rfl, A.val S' rfl⟩
theorem prim_list (F : Fit S Γ X C W) : CallR X (.type "list") (rN Γ (primD .list)) := by
  intro pins s σ H xs us Q I r h
  obtain ⟨w, h, ds, Wx, rfl, S', rd, A⟩ := h
  match ds, A, rd with
  | [d], A, rd =>
    obtain ⟨x, t, rfl, rx, rt⟩ := rd
    cases rt
    have A : Aft Γ w (match itemsD d h with | some ds => newL ds h | none => .bad) (Val Γ Q) Wx := A
    cases q : itemsD d h with
    | none => rw [q] at A; exact A.elim
    | some es =>
      rw [q] at A
      obtain ⟨a, ys, rfl, h1, h2⟩ := itemsD_says S' q rx
      have A : Aft Γ w (newL es h) (Val Γ Q) Wx := A
      unfold newL at A
      split at A
      · refine call_list_of pins s σ w.H _ us Q I r ⟨a, ys, rfl, ?_, fun l hl => A.newL S' hl h2⟩
        rcases h1 with h1 | h1
        · exact .inr (F.K ▸ h1)
        · exact .inl (F.K ▸ h1)
      · exact A.elim
  | [], A, rd => exact A.elim
  | _ :: _ :: _, A, rd => exact A.elim
theorem prim_listF (F : Fit S Γ X C W) : CallR X (.type "list") (rN Γ (primD .listF)) := by
  intro pins s σ H xs us Q I r h
  obtain ⟨w, h, ds, Wx, rfl, S', rd, A⟩ := h
  match ds, A, rd with
  | [d], A, rd =>
    obtain ⟨x, t, rfl, rx, rt⟩ := rd
    cases rt
    have A : Aft Γ w (match itemsD d h with | some ds => newF ds h | none => .bad) (Val Γ Q) Wx := A
    cases q : itemsD d h with
    | none => rw [q] at A; exact A.elim
    | some es =>
      rw [q] at A
      obtain ⟨a, ys, rfl, h1, h2⟩ := itemsD_says S' q rx
      have A : Aft Γ w (newF es h) (Val Γ Q) Wx := A
      unfold newF at A
      split at A
      · refine call_list_of pins s σ w.H _ us Q I r ⟨a, ys, rfl, ?_, fun l hl => A.newF S' hl h2⟩
        rcases h1 with h1 | h1
        · exact .inr (F.K ▸ h1)
        · exact .inl (F.K ▸ h1)
      · exact A.elim
  | [], A, rd => exact A.elim
  | _ :: _ :: _, A, rd => exact A.elim
theorem prim_tuple (F : Fit S Γ X C W) : CallR X (.type "tuple") (rN Γ (primD .tuple)) := by
  intro pins s σ H xs us Q I r h
  obtain ⟨w, h, ds, Wx, rfl, S', rd, A⟩ := h
  match ds, A, rd with
  | [d], A, rd =>
    obtain ⟨x, t, rfl, rx, rt⟩ := rd
    cases rt
    have A : Aft Γ w (match itemsD d h with | some ds => .ok (.tup ds) h | none => .bad) (Val Γ Q) Wx := A
    cases q : itemsD d h with
    | none => rw [q] at A; exact A.elim
    | some es =>
      rw [q] at A
      obtain ⟨a, ys, rfl, h1, h2⟩ := itemsD_says S' q rx
      refine call_tuple_of pins s σ w.H _ us Q I r ⟨a, ys, rfl, ?_⟩
      rcases h1 with h1 | h1
      · exact .inr ⟨F.K ▸ h1, A.val S' ⟨a, ys, rfl, h1, h2⟩⟩
      · exact .inl ⟨F.K ▸ h1, fun l hl => A.newT S' hl h2⟩
  | [], A, rd => exact A.elim
  | _ :: _ :: _, A, rd => exact A.elim
theorem boolsD_says {w : Vw} : ∀ {ds : List D} {vs : List V} {bs : List Bool}, boolsD ds = some bs → Reps Γ w ds vs → vs = bs.map V.bl
  | [], vs, bs, e, r => by cases r; cases e; rfl
  | .bool b :: ds, vs, bs, e, r => by
    obtain ⟨v, vs', rfl, r1, r2⟩ := r
    have e : (boolsD ds).map (b :: ·) = some bs := e
    cases q : boolsD ds with
    | none => rw [q] at e; cases e
    | some bs' =>
      rw [q] at e; cases e
      cases r1
      rw [boolsD_says q r2]; rfl
theorem prim_all (F : Fit S Γ X C W) : CallR X (.builtin "all") (rN Γ (primD .all)) := by
  intro pins s σ H xs us Q I r h
  obtain ⟨w, h, ds, Wx, rfl, S', rd, A⟩ := h
  match ds, A, rd with
  | [d], A, rd =>
    obtain ⟨x, t, rfl, rx, rt⟩ := rd
    cases rt
    have A : Aft Γ w (match lstD d h with | some xs => (match boolsD xs with | some bs => .ok (.bool (bs.all id)) h | none => .bad) | none => .bad) (Val Γ Q) Wx := A
    split at A
    · rename_i xs hg
      split at A
      · rename_i bs hb
        obtain ⟨a, ys, rfl, h1, h2⟩ := lstD_says S' hg rx
        have e := boolsD_says hb h2
        subst e
        exact cr_all F.calm pins s σ w.H _ us Q I r ⟨_, bs, rfl, .of h1, A.val S' rfl⟩
      · exact A.elim
    · exact A.elim
  | [], A, rd => exact A.elim
  | _ :: _ :: _, A, rd => exact A.elim
theorem prim_any (F : Fit S Γ X C W) : CallR X (.builtin "any") (rN Γ (primD .any)) := by
  intro pins s σ H xs us Q I r h
  obtain ⟨w, h, ds, Wx, rfl, S', rd, A⟩ := h
  match ds, A, rd with
  | [d], A, rd =>
    obtain ⟨x, t, rfl, rx, rt⟩ := rd
    cases rt
    have A : Aft Γ w (match lstD d h with | some xs => (match boolsD xs with | some bs => .ok (.bool (bs.any id)) h | none => .bad) | none => .bad) (Val Γ Q) Wx := A
    split at A
    · rename_i xs hg
      split at A
      · rename_i bs hb
        obtain ⟨a, ys, rfl, h1, h2⟩ := lstD_says S' hg rx
        have e := boolsD_says hb h2
        subst e
        exact cr_any F.calm pins s σ w.H _ us Q I r ⟨_, bs, rfl, .of h1, A.val S' rfl⟩
      · exact A.elim
    · exact A.elim
  | [], A, rd => exact A.elim
  | _ :: _ :: _, A, rd => exact A.elim
theorem prim_repr (F : Fit S Γ X C W) (hgr : S.gr = true) : CallR X (.builtin "repr") (rN Γ (primD .repr)) := by
  intro pins s σ H xs us Q I r h
  obtain ⟨w, h, ds, Wx, rfl, S', rd, A⟩ := h
  match ds, A, rd with
  | [d], A, rd =>
    obtain ⟨x, t, rfl, rx, rt⟩ := rd
    cases rt
    have A : Aft Γ w (match deepS h d with | some p => if p.showable && !p.hasDict && decide (p.depth ≤ 60) && decide (p.shown.length ≤ sizeLine) then .ok (.str p.shown) h else .bad | none => .bad) (Val Γ Q) Wx := A
    cases q : deepS h d with
    | none => rw [q] at A; exact A.elim
    | some p =>
      rw [q] at A
      have A : Aft Γ w (if p.showable && !p.hasDict && decide (p.depth ≤ 60) && decide (p.shown.length ≤ sizeLine) then .ok (.str p.shown) h else .bad) (Val Γ Q) Wx := A
      split at A
      · rename_i hc
        simp only [Bool.and_eq_true, Bool.not_eq_true', decide_eq_true_eq] at hc
        obtain ⟨⟨⟨hs, hd⟩, hdp⟩, hz⟩ := hc
        obtain ⟨dp, _⟩ := deepS_dp S' q rx
        obtain ⟨u, rfl, ru⟩ : ∃ u, us = [u] ∧ RelV x u := by
          cases r with
          | cons ra rb => cases rb; exact ⟨_, rfl, ra⟩
        obtain ⟨as, rr⟩ := Dp.reads I p x u (F.K ▸ dp) ru
        have key : ∀ h' t tk, (∀ b o, s.heap.get? b = some o → h'.get? b = some o) → EP X pins σ Q (.str p.shown t) { s with heap := h', toks := tk } := fun h' t tk k => ⟨.str p.shown, w.H, I.kept k, ⟨t, rfl⟩, A.val S' rfl⟩
        have hun := F.un
        cases rr with
        | none => exact PySem.P.repr_of_none (key _ _ _ fun _ _ e => e)
        | bool b => exact PySem.P.repr_of_bool (key _ _ _ fun _ _ e => e)
        | int i t =>
          have hs : decide (i.natAbs.log2 < 1920) = true := hs
          exact PySem.P.repr_of_int (of_decide_eq_true hs) (key _ _ _ fun _ _ e => e)
        | str z t => exact PySem.P.repr_of_str (key _ _ _ fun _ _ e => e) hz
        | list h1 h2 h3 h4 => exact repr_of_reads' (.list h1 h2 h3 h4) hs (fun e => by rw [hd] at e; cases e) (F.gr hgr) (by omega) (fun _ _ e => e) key hz
        | tuple h1 h2 h3 h4 => exact repr_of_reads' (.tuple h1 h2 h3 h4) hs (fun e => by rw [hd] at e; cases e) (F.gr hgr) (by omega) (fun _ _ e => e) key hz
        | dict _ _ _ _ _ => cases hd
      · exact A.elim
  | [], A, rd => exact A.elim
  | _ :: _ :: _, A, rd => exact A.elim
end
end R
namespace R
open PySem PySem.Spec PyProof.Rows L2
section
variable {S : Sc} {Γ : G} {X : Cx} {C : Cal} {W : WX}
/-- an own class by its name -/
theorem e_cls {n c : Nat} {x : Str} {pos : Pos} (F : Fit S Γ X C W) (hs : S.scope.names.lookup x = some .globalImplicit) (hg : S.globs.lookup x = some (.cl c)) (hd : (x == ("__debug__" : Str)) = false) : PE X (.Name x pos) (tE Γ C W n (.lit (.cl c))) := by
  cases n with
  | zero => exact no_E
  | succ n =>
    refine ⟨fun pins s σ H Q I q => ?_⟩
    obtain ⟨w, ms, h, rfl, S', l, A⟩ := q
    have gl : Gl X x := by show X.env.scope.names.lookup x = _; rw [F.sc]; exact hs
    exact ld_glob I gl (F.gc x c hg).1 ⟨.ref (Γ.ca c), w.H, I, rfl, A.val S' rfl⟩ hd
/-- a built-in type by its name -/
theorem e_ty {n : Nat} {x : Str} {T : String} {pos : Pos} (F : Fit S Γ X C W) (hs : S.scope.names.lookup x = some .globalImplicit) (hg : x ∈ S.nob) (hv : bootBuiltins x = some (.type T)) (hn : x ≠ "__name__") (hd : (x == ("__debug__" : Str)) = false) : PE X (.Name x pos) (tE Γ C W n (.lit (.ty T))) := by
  cases n with
  | zero => exact no_E
  | succ n =>
    refine ⟨fun pins s σ H Q I q => ?_⟩
    obtain ⟨w, ms, h, rfl, S', l, A⟩ := q
    have gl : Gl X x := by show X.env.scope.names.lookup x = _; rw [F.sc]; exact hs
    exact ld_blt I gl (F.gn x hg) hv ⟨.ty T, w.H, I, rfl, A.val S' rfl⟩ hn hd

theorem xv_new {w : Vw} {h : MH} {a dx Ca : Addr} {f : Str} {v : V} {d : D} {c : Nat} (s : Sim Γ w h) (ha : w.H a = none) (hd : w.H dx = none) (ne : dx ≠ a) (r : Rep Γ w d v) (hc : Ca = Γ.ca c) :
    ∃ w', w'.H = upd (upd w.H dx (exd dx [(f, v)])) a (exo a Ca (some dx)) ∧ Ext Γ w w' ∧ Sim Γ w' h ∧ Rep Γ w' (.exv c [f] [d]) (.ref a) := by
  subst hc
  obtain ⟨s1, e1⟩ := s.more (H' := upd (upd w.H dx (exd dx [(f, v)])) a (exo a (Γ.ca c) (some dx))) fun b nb => by
    have n1 : b ≠ a := fun e => nb (by rw [e]; exact ha)
    have n2 : b ≠ dx := fun e => nb (by rw [e]; exact hd)
    rw [upd_ne n1, upd_ne n2]
  refine ⟨_, rfl, e1, s1, a, [v], rfl, .inr ⟨dx, upd_same, ?_⟩, rfl, .cons (r.mono e1) .nil⟩
  show upd (upd w.H dx (exd dx [(f, v)])) a (exo a (Γ.ca c) (some dx)) dx = _
  rw [upd_ne ne, upd_same]; rfl
theorem e_mkx {n c : Nat} {x f : Str} {e : Expr} {me : ME} {p pos : Pos} (F : Fit S Γ X C W) (hs : S.scope.names.lookup x = some .globalImplicit) (hg : S.globs.lookup x = some (.cl c)) (hd : (x == ("__debug__" : Str)) = false) (hm : S.mkx c = some (some f))
    (ha : ∀ n, PE X e (tE Γ C W n me)) (he : starEach [e] X.env = (false, eval e X.env) :: starEach [] X.env) : PE X (.Call (.Name x p) [e] [] pos) (tE Γ C W n (.mkx c f me)) := by
  cases n with
  | zero => exact no_E
  | succ n =>
    obtain ⟨h1, h2⟩ := F.gc x c hg
    have gl : Gl X x := by show X.env.scope.names.lookup x = _; rw [F.sc]; exact hs
    refine ⟨fun pins s σ H Q I q => ?_⟩
    refine wpAny_Call_Name_kw (ld_glob I gl h1 ?_ hd)
    have arg : PA X [e] (tCons (tE Γ C W n me) tNil) := pa_cons (ha n) pa_nil he
    obtain ⟨w, ms, h, rfl, S', l, A⟩ := q
    have A : Aft Γ w ((ev C n me ms h).bind fun x h => .ok (.exv c [f] [x]) h) (Val Γ Q) (WxE Γ W σ) := A
    refine PySem.W.callWith_K (h₀ := X.base) I.ok.mod.kin h2 (thn (arg.run pos pins s σ w.H (fun vs H1 => ∃ v, vs = [v] ∧ ∀ a dx, H1 a = none → H1 dx = none → dx ≠ a → Q (.ref a) (upd (upd H1 dx (exd dx [(f, v)])) a (exo a (Γ.ca c) (some dx)))) I ?_) fun us s1 hus => ?_) he rfl
    · refine tE_of S' l A fun d w1 h1 e1 s1 A1 v rv => ⟨v, rfl, fun a dx na nd ne => ?_⟩
      obtain ⟨w2, e2, x2, s2, r2⟩ := xv_new (c := c) (f := f) s1 na nd ne rv rfl
      rw [← e2]
      exact A1 w2 x2 s2 _ r2
    · obtain ⟨vs, H1, I1, r1, v, rfl, q1⟩ := hus
      refine ⟨I1.kIn, ?_⟩
      cases r1 with
      | cons ra rb =>
        cases rb
        exact xmake (F.mk1 c f hm) (F.rm.mono (by decide)) F.tk I1 ra q1
theorem e_mkx0 {n c : Nat} {x : Str} {p pos : Pos} (F : Fit S Γ X C W) (hs : S.scope.names.lookup x = some .globalImplicit) (hg : S.globs.lookup x = some (.cl c)) (hd : (x == ("__debug__" : Str)) = false) (hm : S.mkx c = some none) : PE X (.Call (.Name x p) [] [] pos) (tE Γ C W n (.mkx0 c)) := by
  cases n with
  | zero => exact no_E
  | succ n =>
    obtain ⟨h1, h2⟩ := F.gc x c hg
    have gl : Gl X x := by show X.env.scope.names.lookup x = _; rw [F.sc]; exact hs
    refine ⟨fun pins s σ H Q I q => ?_⟩
    refine wpAny_Call_Name_kw (ld_glob I gl h1 ?_ hd)
    obtain ⟨w, ms, h, rfl, S', l, A⟩ := q
    have A : Aft Γ w (.ok (.exv c [] []) h) (Val Γ Q) (WxE Γ W σ) := A
    refine PySem.W.callWith_K0 I.kIn h2 (xmake0 (F.mk0 c hm) I fun a na => ?_)
    obtain ⟨s1, e1⟩ := S'.more (H' := upd w.H a (exo a (Γ.ca c) none)) fun b nb => upd_ne fun e => nb (e ▸ na)
    exact A _ e1 s1 _ ⟨a, [], rfl, .inl ⟨rfl, upd_same⟩, rfl, .nil⟩

theorem fldD_says {w : Vw} {f : Str} {d : D} : ∀ {ns : List Str} {ds : List D} {xs : List V}, fldD ns ds f = some d → Reps Γ w ds xs → ∃ v, (ns.zip xs).lookup f = some v ∧ Rep Γ w d v
  | [], _, _, e, _ => by cases e
  | _ :: _, [], _, e, _ => by cases e
  | n :: ns, d' :: ds, xs, e, r => by
    obtain ⟨v, vs, rfl, r1, r2⟩ := r
    have e : (if n = f then some d' else fldD ns ds f) = some d := e
    rw [List.zip_cons_cons, List.lookup_cons]
    by_cases h : n = f
    · rw [if_pos h] at e; cases e
      have : (f == n) = true := by simp [h]
      rw [this]
      exact ⟨v, rfl, r1⟩
    · rw [if_neg h] at e
      have : (f == n) = false := by simpa using fun z => h z.symm
      rw [this]
      exact fldD_says e r2
theorem e_attr {n : Nat} {e : Expr} {me : ME} {f : Str} {pos : Pos} (F : Fit S Γ X C W) (ha : ∀ n, PE X e (tE Γ C W n me)) (hb : attributeBase e f X.env (eval e X.env) = eval e X.env) : PE X (.Attribute e f pos) (tE Γ C W n (.attr me f)) := by
  cases n with
  | zero => exact no_E
  | succ n =>
    refine ⟨fun pins s σ H Q I q => ?_⟩
    obtain ⟨w, ms, h, rfl, S', l, A⟩ := q
    have A : Aft Γ w ((ev C n me ms h).bind fun x h => attrD C x f h) (Val Γ Q) (WxE Γ W σ) := A
    refine attr_of hb (thn ((ha n).run pins s σ w.H (fun x H1 => ∃ w1 h1 d, w1.H = H1 ∧ Sim Γ w1 h1 ∧ Rep Γ w1 d x ∧ Aft Γ w1 (attrD C d f h1) (Val Γ Q) (WxE Γ W σ)) I (tE_of S' l A fun d w1 h1 e1 s1 A1 v rv => ⟨w1, h1, d, rfl, s1, rv, A1⟩)) fun u s1 hu => ?_)
    obtain ⟨x, H1, I1, rx, w1, h1, d, rfl, S1, rd, A1⟩ := hu
    cases d with
    | exv c ns ds =>
      have A1 : Aft Γ w1 (if C.xc c && C.xf c f then (match fldD ns ds f with | some d => .ok d h1 | none => .bad) else .bad) (Val Γ Q) (WxE Γ W σ) := A1
      split at A1
      · rename_i hc
        rw [Bool.and_eq_true] at hc
        have T := F.xc c hc.1
        have no := F.xf c f hc.2
        rw [← F.K] at T no
        cases q1 : fldD ns ds f with
        | none => rw [q1] at A1; exact A1.elim
        | some d' =>
          rw [q1] at A1
          obtain ⟨a, xs, rfl, xv, hl, rs⟩ := rd
          obtain ⟨v, lv, rv⟩ := fldD_says q1 rs
          obtain rfl : u = Value.ref a := rx
          rcases xv with ⟨z, _⟩ | ⟨dx, ea, ed⟩
          · rw [z] at lv; cases lv
          · obtain ⟨t0, at_⟩ := exo_at I1.hok ea
            obtain ⟨mA, hns, rel⟩ := exd_at I1.hok ed
            obtain ⟨od, ho, hlk⟩ := lookIn_ns hns
            obtain ⟨u', hu', ru'⟩ := RelO.some_of (v := v) (o := mA f) (by rw [← lv]; exact rel f)
            have J : PySem.W.InstAt s1.heap a { cls := .ref (Γ.ca c), dict := some dx, data := .fields #[.ref t0, .none, .none, .none, .bool false, .none] } (Γ.ca c) (some od) := ⟨at_, rfl, rfl, ho⟩
            exact PySem.HandSPX.exc_get I1.kIn J T.ga T.gg T.sb (PySem.W.findObj_own T.hd no rfl (by rw [hlk, hu'])) (handed_of ru') ⟨v, w1.H, I1.tok _, ru', A1.val S1 rv⟩
      · exact A1.elim
    | _ => exact A1.elim

/-- a value's class, for isinstance -/
theorem kit_says {pins : List (Addr × Obj)} {s : Shared} {σ : L2.St} {w : Vw} {h : MH} {d : D} {v : V} {u : Value} {t : Sum String Nat} (F : Fit S Γ X C W) (I : Inv X pins σ w.H s) (S' : Sim Γ w h) (e : tyC C d h = some t) (r : Rep Γ w d v) (ru : RelV v u) :
    ∃ P, PySem.W.KitX X.K u (Γ.tv t) P ∧ P s.heap ∧ u ≠ .builtin "__main__.__loader__#opaque" := by
  cases d with
  | none => cases r; cases e; cases ru; exact ⟨_, PySem.W.kitx_none, True.intro, fun z => nomatch z⟩
  | bool b => cases r; cases e; cases ru; exact ⟨_, PySem.W.kitx_bool, True.intro, fun z => nomatch z⟩
  | int i => cases r; cases e; obtain ⟨t, rfl⟩ := ru; exact ⟨_, PySem.W.kitx_int, True.intro, fun z => nomatch z⟩
  | str i => cases r; cases e; obtain ⟨t, rfl⟩ := ru; exact ⟨_, PySem.W.kitx_str, True.intro, fun z => nomatch z⟩
  | tup ds =>
    obtain ⟨a, xs, rfl, h1, _⟩ := r
    cases e
    obtain rfl : u = Value.ref a := ru
    rcases h1 with (h1 | ⟨o, h1⟩) | ⟨o, its, n, h1, h2, _⟩
    · obtain ⟨_, _, _, o, g1, g2, _⟩ := (show ObjOk X.prog X.w w.H s.heap a (.tup xs) from I.hok a _ h1)
      exact ⟨_, PySem.W.kitx_tuple, ⟨o, g1, g2⟩, fun z => nomatch z⟩
    · obtain ⟨_, _, _, _, o, g1, g2, _⟩ := (show ObjOk X.prog X.w w.H s.heap a (.frz o (.tup xs)) from I.hok a _ h1)
      exact ⟨_, PySem.W.kitx_tuple, ⟨o, g1, g2⟩, fun z => nomatch z⟩
    · exact ⟨_, PySem.W.kitx_tuple, ⟨o, I.kIn a o (F.K ▸ h1), h2⟩, fun z => nomatch z⟩
  | exv c ns ds =>
    obtain ⟨a, xs, rfl, xv, _⟩ := r
    obtain rfl : u = Value.ref a := ru
    have e : (if C.xc c then some (Sum.inr c) else none) = some t := e
    split at e
    · rename_i hc
      cases e
      have T := F.xc c hc
      rw [← F.K] at T
      rcases xv with ⟨_, ea⟩ | ⟨dx, ea, ed⟩
      · obtain ⟨t0, at_⟩ := exo_at I.hok ea
        exact ⟨_, PySem.W.kitx_exc T.cl T.ga T.gg T.sb T.ca T.sg T.tk T.ob, (show PySem.W.InstAt s.heap a _ (Γ.ca c) none from ⟨at_, rfl, rfl, trivial⟩), fun z => nomatch z⟩
      · obtain ⟨t0, at_⟩ := exo_at I.hok ea
        obtain ⟨mA, hns, _⟩ := exd_at I.hok ed
        obtain ⟨od, ho, _⟩ := lookIn_ns hns
        exact ⟨_, PySem.W.kitx_exc T.cl T.ga T.gg T.sb T.ca T.sg T.tk T.ob, (show PySem.W.InstAt s.heap a _ (Γ.ca c) (some od) from ⟨at_, rfl, rfl, ho⟩), fun z => nomatch z⟩
    · cases e
  | ref n =>
    obtain ⟨_, rfl⟩ := r
    obtain rfl : u = Value.ref (w.ρ n) := ru
    unfold tyC tyD at e
    cases q : h.get n with
    | none => simp only [q] at e; cases e
    | some o =>
      cases o with
      | lst xs =>
        simp only [q] at e; cases e
        obtain ⟨ys, h1, _⟩ := S'.lst q
        obtain ⟨_, _, _, _, g1⟩ := (show ObjOk X.prog X.w w.H s.heap (w.ρ n) (.lst ys) from I.hok _ _ h1)
        exact ⟨_, PySem.W.kitx_list, ⟨_, g1, rfl⟩, fun z => nomatch z⟩
      | dk kvs =>
        simp only [q] at e; cases e
        obtain ⟨_, ys, h1, _⟩ := S'.obj n _ q
        obtain ⟨_, _, vs, _, p⟩ := (show ObjOk X.prog X.w w.H s.heap (w.ρ n) (.dK ys) from I.hok _ _ h1)
        obtain ⟨o, es, ep, g1, g2, _⟩ := p
        exact ⟨_, PySem.W.kitx_dict, ⟨o, g1, g2.1⟩, fun z => nomatch z⟩
      | ins c fs => simp only [q] at e; cases e
  | scr ds =>
    obtain ⟨a, xs, rfl, h1, _⟩ := r
    cases e
    obtain rfl : u = Value.ref a := ru
    rcases h1 with ⟨o, h1⟩ | ⟨o, its, n, h1, h2, _⟩
    · obtain ⟨_, _, _, _, _, g1⟩ := (show ObjOk X.prog X.w w.H s.heap a (.frz o (.lst xs)) from I.hok a _ h1)
      exact ⟨_, PySem.W.kitx_list, ⟨_, g1, rfl⟩, fun z => nomatch z⟩
    · exact ⟨_, PySem.W.kitx_list, ⟨o, I.kIn a o (F.K ▸ h1), h2⟩, fun z => nomatch z⟩
  | flst ds =>
    obtain ⟨a, xs, rfl, _, h1, _⟩ := r
    cases e
    obtain rfl : u = Value.ref a := ru
    obtain ⟨_, _, _, _, g1⟩ := (show ObjOk X.prog X.w w.H s.heap a (.lst xs) from I.hok _ _ h1)
    exact ⟨_, PySem.W.kitx_list, ⟨_, g1, rfl⟩, fun z => nomatch z⟩
  | fdk ks ds =>
    obtain ⟨a, xs, rfl, _, h1, _⟩ := r
    cases e
    obtain rfl : u = Value.ref a := ru
    obtain ⟨_, _, vs, _, p⟩ := (show ObjOk X.prog X.w w.H s.heap a (.dK _) from I.hok _ _ h1)
    obtain ⟨o, es, ep, g1, g2, _⟩ := p
    exact ⟨_, PySem.W.kitx_dict, ⟨o, g1, g2.1⟩, fun z => nomatch z⟩
  | obj c ns ds => cases e
  | fn i => cases e
  | cl i => cases e
  | ty i => cases e
/-- isinstance(x, y) by values -/
def isiP (C : Cal) : List D → MH → Res D
  | [x, y], h => isiD C x y h
  | _, _ => .bad
theorem isi_any (F : Fit S Γ X C W) : CallR X (.builtin "isinstance") (rN Γ (isiP C)) := by
  intro pins s σ H xs us Q I r h
  obtain ⟨w, h, ds, Wx, rfl, S', rd, A⟩ := h
  match ds, A, rd with
  | [x, y], A, rd =>
    obtain ⟨v, t, rfl, rx, v2, t', rfl, ry, rt⟩ := rd
    cases rt
    obtain ⟨u1, u2, rfl, r1, r2⟩ := vals2 r
    have A : Aft Γ w (match tyC C x h, clsD y with | some t, some u => retB (C.kit t u) h | _, _ => .bad) (Val Γ Q) Wx := A
    cases q1 : tyC C x h with
    | none => rw [q1] at A; exact A.elim
    | some ty =>
      cases q2 : clsD y with
      | none => rw [q1, q2] at A; exact A.elim
      | some cl =>
        rw [q1, q2] at A
        have A : Aft Γ w (retB (C.kit ty cl) h) (Val Γ Q) Wx := A
        cases q3 : C.kit ty cl with
        | none => rw [q3] at A; exact A.elim
        | some b =>
          rw [q3] at A
          have A : Aft Γ w (.ok (.bool b) h) (Val Γ Q) Wx := A
          have e : u2 = Γ.tv cl := by
            cases y with
            | cl c => cases q2; cases ry; exact r2
            | ty t => cases q2; cases ry; exact r2
            | _ => cases q2
          subst e
          obtain ⟨P, Z, p, hx⟩ := kit_says F I S' q1 rx r1
          exact PySem.W.kia_one Z I.kIn p (F.K ▸ F.kit _ _ _ q3) hx fun tk => ⟨.bl b, w.H, I.tok tk, rfl, A.val S' rfl⟩
  | [], A, rd => exact A.elim
  | [_], A, rd => exact A.elim
  | _ :: _ :: _ :: _, A, rd => exact A.elim
theorem e_isi {n : Nat} {a b : Expr} {ma mb : ME} {p pos : Pos} (F : Fit S Γ X C W) (hs : S.scope.names.lookup ("isinstance" : Str) = some .globalImplicit) (hg : ("isinstance" : Str) ∈ S.nob) (ha : ∀ n, PE X a (tE Γ C W n ma)) (hb : ∀ n, PE X b (tE Γ C W n mb))
    (h1 : starEach [a, b] X.env = (false, eval a X.env) :: starEach [b] X.env) (h2 : starEach [b] X.env = (false, eval b X.env) :: starEach [] X.env) : PE X (.Call (.Name "isinstance" p) [a, b] [] pos) (tE Γ C W n (.isi ma mb)) := by
  cases n with
  | zero => exact no_E
  | succ n =>
    have gl : Gl X "isinstance" := by show X.env.scope.names.lookup ("isinstance" : Str) = _; rw [F.sc]; exact hs
    refine PE.imp (pe_callB (isi_any F) gl (F.gn _ hg) (by decide +kernel) (pa_cons (ha n) (pa_cons (hb n) pa_nil h2) h1) (by decide) (by decide) h1 (by rw [h2]; rfl)) fun σ H Q q => ?_
    obtain ⟨w, ms, h, rfl, S', l, A⟩ := q
    have A : Aft Γ w ((ev C n ma ms h).bind fun x h => (ev C n mb ms h).bind fun y h => isiD C x y h) (Val Γ Q) (WxE Γ W σ) := A
    refine tE_of S' l A fun x w1 h1 e1 s1 A1 v rv => tE_of s1 (l.mono e1) A1 fun y w2 h2 e2 s2 A2 u ru => ?_
    exact ⟨w2, h2, [x, y], _, rfl, s2, .cons (rv.mono e2) (.cons ru .nil), A2⟩
end
end R
namespace R
open PySem PySem.Spec PyProof.Rows L2

def notStar : Expr → Bool
  | .Starred _ _ => false
  | _ => true
theorem star_of {e : Expr} (h : notStar e = true) (es : List Expr) (env : Env) : starEach (e :: es) env = (false, eval e env) :: starEach es env := by
  cases e <;> first | rfl | cases h
theorem asgEach_of {e : Expr} (h : notStar e = true) (es : List Expr) (env : Env) : assignEach (e :: es) env = (false, assign e env) :: assignEach es env := by
  cases e <;> first | rfl | cases h
theorem noStars {pos : Pos} {env : Env} : ∀ {es : List Expr}, es.all notStar = true → (backTo pos (starEach es env)).any (·.1) = false
  | [], _ => rfl
  | e :: es, h => by
    rw [List.all_cons, Bool.and_eq_true] at h
    rw [star_of h.1]
    exact noStars h.2
def plainT : Expr → Bool
  | .UnaryOp .Not _ _ => false
  | .BoolOp _ _ _ => false
  | .IfExp _ _ _ _ => false
  | .Compare _ _ _ _ => false
  | _ => true
theorem plainT_of {e : Expr} (h : plainT e = true) (env : Env) (whole : Sem Value) : isTrue e env whole = (do let v ← whole; standAt e.pos; holding [v] (truthy v)) := by
  cases e with
  | UnaryOp op x p => cases op <;> first | rfl | cases h
  | _ => first | rfl | cases h
def notComp : Expr → Bool
  | .ListComp _ _ _ _ => false
  | .SetComp _ _ _ _ => false
  | .DictComp _ _ _ _ _ => false
  | _ => true
theorem swaps_of {e : Expr} (h : notComp e = true) (t : Option Expr) (l : Nat) (env : Env) : swapsWith e t l env = pure false := by
  cases e <;> first | rfl | cases h
def notTup : Expr → Bool
  | .Tuple _ _ _ => false
  | .List _ _ => false
  | _ => true
theorem stores_of {t e : Expr} (h : notTup t = true ∨ notTup e = true) (env : Env) : swappedStores [t] e env = pure none := by
  rcases h with h | h
  · cases t <;> first | rfl | cases h
  · cases t <;> first | rfl | (cases e <;> first | rfl | cases h)
def notSet : Expr → Bool
  | .Set _ _ _ => false
  | _ => true
theorem folded_of {e : Expr} (h : notSet e = true) (env : Env) (x : Value) : foldedSetIterable e env x = pure x := by
  cases e <;> first | rfl | cases h
def notCall0 : Expr → Bool
  | .Call (.Name _ _) [] [] _ => false
  | _ => true
theorem base_of {e : Expr} (h : notCall0 e = true) (f : Str) (env : Env) (whole : Sem Value) : attributeBase e f env whole = whole := by
  cases e with
  | Call fn args kws p =>
    cases fn with
    | Name id q =>
      cases args with
      | nil =>
        cases kws with
        | nil => cases h
        | cons _ _ => rfl
      | cons _ _ => rfl
    | _ => rfl
  | _ => rfl
def notSlice : Expr → Bool
  | .Slice _ _ _ _ => false
  | _ => true
theorem plainIx_of {e : Expr} (h : notSlice e = true) : PlainIx e := by
  intro o i
  cases e <;> first | rfl | cases h

section
variable {S : Sc}
abbrev JE (S : Sc) (e : Expr) (me : ME) : Prop := ∀ (Γ : G) (X : Cx) (C : Cal) (W : WX), Fit S Γ X C W → ∀ n, PE X e (tE Γ C W n me)
abbrev JT (S : Sc) (e : Expr) (me : ME) : Prop := ∀ (Γ : G) (X : Cx) (C : Cal) (W : WX), Fit S Γ X C W → ∀ n, PT X e (tT Γ C W n me)
abbrev JA (S : Sc) (es : List Expr) (mes : List ME) : Prop := ∀ (Γ : G) (X : Cx) (C : Cal) (W : WX), Fit S Γ X C W → ∀ n, PA X es (tA Γ C W n mes)
abbrev JAs (S : Sc) (es : List Expr) (mes : List (Bool × ME)) : Prop := ∀ (Γ : G) (X : Cx) (C : Cal) (W : WX), Fit S Γ X C W → ∀ n, PA X es (tAs Γ C W n mes)
abbrev JI (S : Sc) (tg e : Expr) (p : IK × List ME) : Prop := ∀ (Γ : G) (X : Cx) (C : Cal) (W : WX), Fit S Γ X C W → ∀ n, PI X tg e (tI Γ C W n p.1 p.2)
abbrev JG (S : Sc) (tg : Expr) (t : MT) : Prop := ∀ (Γ : G) (X : Cx) (C : Cal) (W : WX), Fit S Γ X C W → ∀ n, PG X tg (tG Γ n t)
abbrev JGs (S : Sc) (tg : List Expr) (t : List MT) : Prop := ∀ (Γ : G) (X : Cx) (C : Cal) (W : WX), Fit S Γ X C W → ∀ n, PGs X tg (tGs Γ n t)
abbrev JS (S : Sc) (st : Stmt) (m : MS) : Prop := ∀ (Γ : G) (X : Cx) (C : Cal) (W : WX), Fit S Γ X C W → ∀ n, PS X st (tS Γ C W n m)
abbrev JSs (S : Sc) (st : List Stmt) (m : List MS) : Prop := ∀ (Γ : G) (X : Cx) (C : Cal) (W : WX), Fit S Γ X C W → ∀ n, PSs X st (tSs Γ C W n m)
abbrev PEE (S : Sc) (e : Expr) := { me : ME // JE S e me }
abbrev PTT (S : Sc) (e : Expr) := { me : ME // JT S e me }

theorem bad_E {e : Expr} : JE S e .bad := fun Γ X C W F n => by
  cases n with
  | zero => exact no_E
  | succ n => exact ⟨fun pins s σ H Q I q => by obtain ⟨w, ms, h, _, _, _, A⟩ := q; exact A.elim⟩
theorem bad_T {e : Expr} : JT S e .bad := fun Γ X C W F n => by
  cases n with
  | zero => exact no_T
  | succ n => exact ⟨fun pins s σ H Q I q => by obtain ⟨w, ms, h, _, _, _, A⟩ := q; exact A.elim⟩
theorem bad_S {st : Stmt} : JS S st .bad := fun Γ X C W F n => by
  cases n with
  | zero => exact no_S
  | succ n => exact ⟨fun pins s σ H Q I q => by obtain ⟨w, ms, h, _, _, _, A⟩ := q; exact A.elim⟩
def noE (e : Expr) : PEE S e := ⟨.bad, bad_E⟩
def noT (e : Expr) : PTT S e := ⟨.bad, bad_T⟩

instance (sc : Scope) (x : Str) : Decidable (Vis sc x) := by unfold Vis; infer_instance
instance (sc : Scope) (x : Str) : Decidable (L2.Loc sc x) := by unfold L2.Loc; infer_instance

def cName (S : Sc) (x : Str) (pos : Pos) : PEE S (.Name x pos) :=
  if hd : (x == ("__debug__" : Str)) = false then
    if hcd : (x == ("__classdict__" : Str)) = false then
      if h : S.N[S.N.idxOf x]? = some x ∧ Vis S.scope x then ⟨.var (S.N.idxOf x), fun _ _ _ _ F n => e_var F h.1 h.2 hd hcd⟩
      else if hs : S.scope.names.lookup x = some .globalImplicit then
        match hg : S.globs.lookup x with
        | some (.dat d) => ⟨.lit d, fun _ _ _ _ F n => e_glob F hs hg hd⟩
        | some (.cl c) => ⟨.lit (.cl c), fun _ _ _ _ F n => e_cls F hs hg hd⟩
        | some (.fn _) => noE _
        | none => if hn : x ∈ S.nob ∧ x ≠ "__name__" then (match hv : bootBuiltins x with
          | some (.type T) => ⟨.lit (.ty T), fun _ _ _ _ F n => e_ty F hs hn.1 hv hn.2 hd⟩
          | _ => noE _) else noE _
      else noE _
    else noE _
  else noE _

structure ArgsC (S : Sc) (es : List Expr) where
  mes : List ME
  ok : JA S es mes
  ns : es.all notStar = true
  len : mes.length = es.length
def cArgs (f : (e : Expr) → PEE S e) : (es : List Expr) → Option (ArgsC S es)
  | [] => some ⟨[], fun _ _ _ _ _ _ => a_nil, rfl, rfl⟩
  | e :: es => match cArgs f es with
    | some r => if hn : notStar e = true then
        some ⟨(f e).1 :: r.mes, fun Γ X C W F n => a_cons (fun n => (f e).2 Γ X C W F n) (r.ok Γ X C W F n) (star_of hn _ _), by rw [List.all_cons, hn, r.ns]; rfl, by simp [r.len]⟩
      else none
    | none => none
def cStars (f : (e : Expr) → PEE S e) : (es : List Expr) → Option { mes : List (Bool × ME) // JAs S es mes }
  | [] => some ⟨[], fun _ _ _ _ _ _ => as_nil⟩
  | .Starred e p :: es => match cStars f es with
    | some r => some ⟨(true, (f e).1) :: r.1, fun Γ X C W F n => as_star F (fun n => (f e).2 Γ X C W F n) (r.2 Γ X C W F n)⟩
    | none => none
  | e :: es => match cStars f es with
    | some r => if hn : notStar e = true then
        some ⟨(false, (f e).1) :: r.1, fun Γ X C W F n => as_cons (fun n => (f e).2 Γ X C W F n) (r.2 Γ X C W F n) (star_of hn _ _)⟩
      else none
    | none => none

theorem mkPrim {pr : Prim} {x : Str} {id : String} {e : Expr} {es : List Expr} {p pos : Pos} (r : ArgsC S (e :: es)) (hs : S.scope.names.lookup x = some .globalImplicit) (hg : x ∈ S.nob) (hd : (x == ("__debug__" : Str)) = false) (hv : bootBuiltins x = some (.builtin id)) (hn : x ≠ "__name__")
    (hc : ∀ (Γ : G) (X : Cx) (C : Cal) (W : WX), Fit S Γ X C W → CallR X (.builtin id) (rN Γ (primD pr))) : JE S (.Call (.Name x p) (e :: es) [] pos) (.prim pr r.mes) := fun Γ X C W F n => by
  have h := r.ns
  rw [List.all_cons, Bool.and_eq_true] at h
  exact e_prim F hs hg hv (hc Γ X C W F) (fun n => r.ok Γ X C W F n) hn hd (star_of h.1 _ _) (noStars h.2)
theorem mkPrimT {pr : Prim} {x : Str} {T : String} {e : Expr} {es : List Expr} {p pos : Pos} (r : ArgsC S (e :: es)) (hs : S.scope.names.lookup x = some .globalImplicit) (hg : x ∈ S.nob) (hd : (x == ("__debug__" : Str)) = false) (hv : bootBuiltins x = some (.type T)) (hn : x ≠ "__name__")
    (hc : ∀ (Γ : G) (X : Cx) (C : Cal) (W : WX), Fit S Γ X C W → CallR X (.type T) (rN Γ (primD pr))) : JE S (.Call (.Name x p) (e :: es) [] pos) (.prim pr r.mes) := fun Γ X C W F n => by
  have h := r.ns
  rw [List.all_cons, Bool.and_eq_true] at h
  exact e_primT F hs hg hv (hc Γ X C W F) (fun n => r.ok Γ X C W F n) hn hd (star_of h.1 _ _) (noStars h.2)
def cPrim (S : Sc) (x : Str) (p : Pos) (e : Expr) (es : List Expr) (pos : Pos) (r : ArgsC S (e :: es)) (hs : S.scope.names.lookup x = some .globalImplicit) (hg : x ∈ S.nob) (hd : (x == ("__debug__" : Str)) = false) : PEE S (.Call (.Name x p) (e :: es) [] pos) :=
  if h : x = "len" then ⟨_, mkPrim (pr := .len) r hs hg hd (by rw [h]; decide +kernel) (by rw [h]; decide +kernel) fun _ _ _ _ F => prim_len F⟩
  else if h : x = "abs" then ⟨_, mkPrim (pr := .abs) r hs hg hd (by rw [h]; decide +kernel) (by rw [h]; decide +kernel) fun _ _ _ _ F => prim_abs⟩
  else if h : x = "max" then ⟨_, mkPrim (pr := .max2) r hs hg hd (by rw [h]; decide +kernel) (by rw [h]; decide +kernel) fun _ _ _ _ F => prim_max2 F⟩
  else if h : x = "min" then ⟨_, mkPrim (pr := .min2) r hs hg hd (by rw [h]; decide +kernel) (by rw [h]; decide +kernel) fun _ _ _ _ F => prim_min2 F⟩
  else if h : x = "all" then ⟨_, mkPrim (pr := .all) r hs hg hd (by rw [h]; decide +kernel) (by rw [h]; decide +kernel) fun _ _ _ _ F => prim_all F⟩
  else if h : x = "any" then ⟨_, mkPrim (pr := .any) r hs hg hd (by rw [h]; decide +kernel) (by rw [h]; decide +kernel) fun _ _ _ _ F => prim_any F⟩
  else if h : x = "repr" ∧ S.gr = true then ⟨_, mkPrim (pr := .repr) r hs hg hd (by rw [h.1]; decide +kernel) (by rw [h.1]; decide +kernel) fun _ _ _ _ F => prim_repr F h.2⟩
  else if h : x = "int" then ⟨_, mkPrimT (pr := .int) r hs hg hd (by rw [h]; decide +kernel) (by rw [h]; decide +kernel) fun _ _ _ _ F => prim_int⟩
  else if h : x = "list" ∧ S.mu pos = false then ⟨_, mkPrimT (pr := .listF) r hs hg hd (by rw [h.1]; decide +kernel) (by rw [h.1]; decide +kernel) fun _ _ _ _ F => prim_listF F⟩
  else if h : x = "list" then ⟨_, mkPrimT (pr := .list) r hs hg hd (by rw [h]; decide +kernel) (by rw [h]; decide +kernel) fun _ _ _ _ F => prim_list F⟩
  else if h : x = "tuple" then ⟨_, mkPrimT (pr := .tuple) r hs hg hd (by rw [h]; decide +kernel) (by rw [h]; decide +kernel) fun _ _ _ _ F => prim_tuple F⟩
  else noE _
def cCall (S : Sc) (f : (e : Expr) → PEE S e) (x : Str) (p : Pos) (args : List Expr) (pos : Pos) : PEE S (.Call (.Name x p) args [] pos) :=
  if hs : S.scope.names.lookup x = some .globalImplicit then
    if hd : (x == ("__debug__" : Str)) = false then
      match hg : S.globs.lookup x with
      | some (.fn i) => if hgf : (!S.gf i || S.gr) = true then (match args with
        | [] => ⟨.call i [], fun _ _ _ _ F n => e_call0 F hs hg (fun z => by simpa [z] using hgf) hd⟩
        | e :: es => match cArgs f (e :: es) with
          | some r => ⟨.call i r.mes, fun Γ X C W F n => by
                have h := r.ns
                rw [List.all_cons, Bool.and_eq_true] at h
                exact e_call F hs hg (fun z => by simpa [z] using hgf) hd (fun n => r.ok Γ X C W F n) (star_of h.1 _ _) (noStars h.2)⟩
          | none => noE _) else noE _
      | some (.cl c) => (match args with
        | [] => if hm : S.mkx c = some none then ⟨.mkx0 c, fun _ _ _ _ F n => e_mkx0 F hs hg hd hm⟩ else noE _
        | [e] => if hn : notStar e = true then (match hm : S.mkx c with
          | some (some fl) => ⟨.mkx c fl (f e).1, fun Γ X C W F n => e_mkx F hs hg hd hm (fun n => (f e).2 Γ X C W F n) (star_of hn _ _)⟩
          | _ => noE _) else noE _
        | _ => noE _)
      | _ => if hn : x ∈ S.nob then (match args with
        | [] => noE _
        | [a, b] => if hi : x = "isinstance" ∧ notStar a = true ∧ notStar b = true then ⟨.isi (f a).1 (f b).1, fun Γ X C W F n => by
              obtain ⟨rfl, h1, h2⟩ := hi
              exact e_isi F hs hn (fun n => (f a).2 Γ X C W F n) (fun n => (f b).2 Γ X C W F n) (star_of h1 _ _) (star_of h2 _ _)⟩
          else match cArgs f [a, b] with
          | some r => cPrim S x p a [b] pos r hs hn hd
          | none => noE _
        | e :: es => match cArgs f (e :: es) with
          | some r => cPrim S x p e es pos r hs hn hd
          | none => noE _) else noE _
    else noE _
  else noE _

structure TgsC (S : Sc) (es : List Expr) where
  ts : List MT
  ok : JGs S es ts
  ns : NoStar es
  len : ts.length = es.length
def cTgs (f : (e : Expr) → Option { t : MT // JG S e t }) : (es : List Expr) → Option (TgsC S es)
  | [] => some ⟨[], fun _ _ _ _ _ _ => gs_nil, .nil, rfl⟩
  | e :: es => match f e, cTgs f es with
    | some t, some r => if hn : notStar e = true then
        some ⟨t.1 :: r.ts, fun Γ X C W F n => gs_cons (t.2 Γ X C W F n) (r.ok Γ X C W F n) (asgEach_of hn), .cons (asgEach_of hn) r.ns, by simp [r.len]⟩
      else none
    | _, _ => none
def cTg (S : Sc) : Nat → (e : Expr) → Option { t : MT // JG S e t }
  | 0, _ => none
  | n + 1, e => match e with
    | .Name x pos => if h : S.N[S.N.idxOf x]? = some x ∧ L2.Loc S.scope x ∧ S.sto x = true then some ⟨.name (S.N.idxOf x), fun _ _ _ _ F _ => g_name F h.1 h.2.1 h.2.2⟩ else none
    | .Tuple es k pos => match cTgs (cTg S n) es with
      | some r => some ⟨.tup r.ts, fun Γ X C W F n => g_tup F (fun n => r.ok Γ X C W F n) r.ns r.len⟩
      | none => none
    | _ => none

def cIter (S : Sc) (f : (e : Expr) → PEE S e) (tg e : Expr) : { p : IK × List ME // JI S tg e p } :=
  let dflt : { p : IK × List ME // JI S tg e p } := ⟨(.seq, [(f e).1]), fun Γ X C W F n => i_seq F (fun n => (f e).2 Γ X C W F n)⟩
  match e with
  | .Call (.Name x p) [a] [] pos =>
    if hr : x = "range" ∧ S.scope.names.lookup ("range" : Str) = some .globalImplicit ∧ ("range" : Str) ∈ S.nob ∧ notStar a = true then
      ⟨(.range1, [(f a).1]), fun Γ X C W F n => by
        obtain ⟨rfl, h1, h2, h3⟩ := hr
        exact i_range1 F h1 h2 (fun n => a_cons (fun n => (f a).2 Γ X C W F n) a_nil (star_of h3 _ _)) (star_of h3 _ _)⟩
    else match tg with
      | .Tuple elts kk tpos => if hr : x = "enumerate" ∧ S.scope.names.lookup ("enumerate" : Str) = some .globalImplicit ∧ ("enumerate" : Str) ∈ S.nob ∧ notStar a = true then
          ⟨(.enum, [(f a).1]), fun Γ X C W F n => by
            obtain ⟨rfl, h1, h2, h3⟩ := hr
            exact i_enum F h1 h2 (fun n => a_cons (fun n => (f a).2 Γ X C W F n) a_nil (star_of h3 _ _)) (star_of h3 _ _)⟩
        else ⟨(.seq, [(f (.Call (.Name x p) [a] [] pos)).1]), fun Γ X C W F n => i_seq F (fun n => (f (.Call (.Name x p) [a] [] pos)).2 Γ X C W F n)⟩
      | _ => ⟨(.seq, [(f (.Call (.Name x p) [a] [] pos)).1]), fun Γ X C W F n => i_seq F (fun n => (f (.Call (.Name x p) [a] [] pos)).2 Γ X C W F n)⟩
  | .Call (.Name x p) [a, b] [] pos =>
    if hr : x = "range" ∧ S.scope.names.lookup ("range" : Str) = some .globalImplicit ∧ ("range" : Str) ∈ S.nob ∧ notStar a = true ∧ notStar b = true then
      ⟨(.range2, [(f a).1, (f b).1]), fun Γ X C W F n => by
        obtain ⟨rfl, h1, h2, h3, h4⟩ := hr
        exact i_range2 F h1 h2 (fun n => a_cons (fun n => (f a).2 Γ X C W F n) (a_cons (fun n => (f b).2 Γ X C W F n) a_nil (star_of h4 _ _)) (star_of h3 _ _)) (by rw [star_of h3, star_of h4]; rfl) (star_of h4 _ _)⟩
    else ⟨(.seq, [(f (.Call (.Name x p) [a, b] [] pos)).1]), fun Γ X C W F n => i_seq F (fun n => (f (.Call (.Name x p) [a, b] [] pos)).2 Γ X C W F n)⟩
  | e => ⟨(.seq, [(f e).1]), fun Γ X C W F n => i_seq F (fun n => (f e).2 Γ X C W F n)⟩

abbrev PET (S : Sc) (e : Expr) := PEE S e × PTT S e
/-- an expression whose test is its truth -/
def withT {e : Expr} (h : plainT e = true) (r : PEE S e) : PET S e := (r, ⟨r.1, fun Γ X C W F n => t_val F (fun n => r.2 Γ X C W F n) (fun whole => plainT_of h _ whole)⟩)
theorem and1 {op : BoolOp} {a : Expr} {ma : ME} {pos : Pos} (h : JE S a ma) : JE S (.BoolOp op [a] pos) ma := fun Γ X C W F n => ⟨fun pins s σ H Q I q => (h Γ X C W F n).run pins s σ H Q I q⟩
abbrev JW (S : Sc) (e : Expr) (me : ME) : Prop := ∀ (Γ : G) (X : Cx) (C : Cal) (W : WX), Fit S Γ X C W → ∀ n, PW X e (tT Γ C W n me)
def cAnd (f : (e : Expr) → PET S e) (pos : Pos) : (a : Expr) → (es : List Expr) → { me : ME // JE S (.BoolOp .And (a :: es) pos) me } × { me : ME // JW S (.BoolOp .And (a :: es) pos) me }
  | a, [] => (⟨(f a).1.1, and1 (f a).1.2⟩, ⟨(f a).2.1, fun Γ X C W F n => pw_and1 ((f a).2.2 Γ X C W F n)⟩)
  | a, b :: es =>
    let r := f a
    let t := cAnd f pos b es
    (⟨.and r.1.1 t.1.1, fun Γ X C W F n => e_and F (fun n => r.1.2 Γ X C W F n) (fun n => t.1.2 Γ X C W F n)⟩, ⟨.and r.2.1 t.2.1, fun Γ X C W F n => w_and (fun n => r.2.2 Γ X C W F n) (fun n => t.2.2 Γ X C W F n)⟩)
def cOr (f : (e : Expr) → PET S e) (pos : Pos) : (a : Expr) → (es : List Expr) → { me : ME // JE S (.BoolOp .Or (a :: es) pos) me } × { me : ME // JW S (.BoolOp .Or (a :: es) pos) me }
  | a, [] => (⟨(f a).1.1, and1 (f a).1.2⟩, ⟨(f a).2.1, fun Γ X C W F n => pw_or1 ((f a).2.2 Γ X C W F n)⟩)
  | a, b :: es =>
    let r := f a
    let t := cOr f pos b es
    (⟨.or r.1.1 t.1.1, fun Γ X C W F n => e_or F (fun n => r.1.2 Γ X C W F n) (fun n => t.1.2 Γ X C W F n)⟩, ⟨.or r.2.1 t.2.1, fun Γ X C W F n => w_or (fun n => r.2.2 Γ X C W F n) (fun n => t.2.2 Γ X C W F n)⟩)
/-- the names of a block, by slot -/
def ownOf (S : Sc) (scope : Scope) : List (Str × Nat) := (scope.names.filter fun y => (y.2 == .local || y.2 == .cell) && S.N.contains y.1).map fun y => (y.1, S.N.idxOf y.1)
structure LcC (S : Sc) (elt tg iter : Expr) (ifs : List Expr) (scope : Scope) where
  me : ME
  t : MT
  it : IK × List ME
  cs : List ME
  hi : JI S tg iter it
  ok : blkC S.N S.scope scope (ownOf S scope) = true
  hsl : ∀ i ∈ t.slots, i ∈ (ownOf S scope).map (·.2)
  hg : JG (S.blk scope) tg t
  ht : ∀ (Γ : G) (X : Cx) (C : Cal) (W : WX), Fit (S.blk scope) Γ X C W → ∀ n, PTs X ifs (tTs Γ C W n cs)
  he : JE (S.blk scope) elt me
  hs : notSet iter = true
def cLc (f : (S : Sc) → (e : Expr) → PET S e) (S : Sc) (elt tg iter : Expr) (ifs : List Expr) (scope : Scope) : Option (LcC S elt tg iter ifs scope) :=
  match cTg (S.blk scope) 10 tg with
  | none => none
  | some t => if ok : blkC S.N S.scope scope (ownOf S scope) = true ∧ notSet iter = true ∧ (∀ i ∈ t.1.slots, i ∈ (ownOf S scope).map (·.2)) then
      match ifs with
      | [] => some ⟨(f (S.blk scope) elt).1.1, t.1, (cIter S (fun e => (f S e).1) tg iter).1, [], (cIter S (fun e => (f S e).1) tg iter).2, ok.1, ok.2.2, t.2, fun _ _ _ _ _ _ => ts_nil, (f (S.blk scope) elt).1.2, ok.2.1⟩
      | [c] => some ⟨(f (S.blk scope) elt).1.1, t.1, (cIter S (fun e => (f S e).1) tg iter).1, [(f (S.blk scope) c).2.1], (cIter S (fun e => (f S e).1) tg iter).2, ok.1, ok.2.2, t.2, fun Γ X C W F n => ts_one fun n => (f (S.blk scope) c).2.2 Γ X C W F n, (f (S.blk scope) elt).1.2, ok.2.1⟩
      | _ => none
    else none
def cmp : Nat → (S : Sc) → (e : Expr) → PET S e
  | 0, S, e => (noE e, noT e)
  | n + 1, S, e => match e with
    | .Name x pos => withT rfl (cName S x pos)
    | .Constant (.int i) j pos => withT rfl ⟨.lit (.int i), fun _ _ _ _ F n => e_int⟩
    | .Constant (.bool b) j pos => withT rfl ⟨.lit (.bool b), fun _ _ _ _ F n => e_bool⟩
    | .Constant .none j pos => withT rfl ⟨.lit .none, fun _ _ _ _ F n => e_none⟩
    | .Constant (.str x) j pos => withT rfl ⟨.lit (.str x), fun _ _ _ _ F n => e_str⟩
    | .BinOp a op b pos =>
      let ra := cmp n S a
      let rb := cmp n S b
      withT rfl ⟨.bin op ra.1.1 rb.1.1, fun Γ X C W F n => e_bin F (fun n => ra.1.2 Γ X C W F n) (fun n => rb.1.2 Γ X C W F n)⟩
    | .UnaryOp .USub a pos =>
      let ra := cmp n S a
      withT rfl ⟨.neg ra.1.1, fun Γ X C W F n => e_neg (fun n => ra.1.2 Γ X C W F n)⟩
    | .UnaryOp .Not a pos =>
      let ra := cmp n S a
      (⟨.not ra.1.1, fun Γ X C W F n => e_not F (fun n => ra.1.2 Γ X C W F n)⟩, ⟨.not ra.2.1, fun Γ X C W F n => t_not (fun n => ra.2.2 Γ X C W F n)⟩)
    | .BoolOp .And (a :: es) pos => let r := cAnd (cmp n S) pos a es; (r.1, ⟨r.2.1, fun Γ X C W F n => (r.2.2 Γ X C W F n).pt⟩)
    | .BoolOp .Or (a :: es) pos => let r := cOr (cmp n S) pos a es; (r.1, ⟨r.2.1, fun Γ X C W F n => (r.2.2 Γ X C W F n).pt⟩)
    | .Compare a [op] [b] pos => if hm : behindInMarks op b = false then
        let ra := cmp n S a
        let rb := cmp n S b
        (⟨.cmp op ra.1.1 rb.1.1, fun Γ X C W F n => e_cmp F hm (fun n => ra.1.2 Γ X C W F n) (fun n => rb.1.2 Γ X C W F n)⟩, ⟨.cmp op ra.1.1 rb.1.1, fun Γ X C W F n => t_cmp F hm (fun n => ra.1.2 Γ X C W F n) (fun n => rb.1.2 Γ X C W F n)⟩)
      else (noE _, noT _)
    | .Compare a [op, op'] [b, c] pos => if hm : lastMarks [op, op'] [b, c] = false then
        let ra := cmp n S a
        let rb := cmp n S b
        let rc := cmp n S c
        (⟨.cmp2 op op' ra.1.1 rb.1.1 rc.1.1, fun Γ X C W F n => e_cmp2 F hm (fun n => ra.1.2 Γ X C W F n) (fun n => rb.1.2 Γ X C W F n) (fun n => rc.1.2 Γ X C W F n)⟩, ⟨.cmp2 op op' ra.1.1 rb.1.1 rc.1.1, fun Γ X C W F n => t_cmp2 F hm (fun n => ra.1.2 Γ X C W F n) (fun n => rb.1.2 Γ X C W F n) (fun n => rc.1.2 Γ X C W F n)⟩)
      else (noE _, noT _)
    | .IfExp c a b pos =>
      let rc := cmp n S c
      let ra := cmp n S a
      let rb := cmp n S b
      (⟨.ite rc.2.1 ra.1.1 rb.1.1, fun Γ X C W F n => e_ite (fun n => rc.2.2 Γ X C W F n) (fun n => ra.1.2 Γ X C W F n) (fun n => rb.1.2 Γ X C W F n)⟩, noT _)
    | .Tuple es k pos => match cStars (fun e => (cmp n S e).1) es with
      | some r => withT rfl ⟨.tup r.1, fun Γ X C W F n => e_tup (fun n => r.2 Γ X C W F n)⟩
      | none => (noE _, noT _)
    | .List es pos => match cStars (fun e => (cmp n S e).1) es with
      | some r => withT rfl ⟨.lst (!S.mu pos) r.1, fun Γ X C W F n => e_lst (fun n => r.2 Γ X C W F n)⟩
      | none => (noE _, noT _)
    | .Subscript a (.Slice none none none p2) pos => let ra := cmp n S a; withT rfl ⟨.sl ra.1.1 none none, fun Γ X C W F n => e_sl F (fun n => ra.1.2 Γ X C W F n) (fun n => o_none) (fun n => o_none)⟩
    | .Subscript a (.Slice (some l) none none p2) pos =>
      let ra := cmp n S a
      let rl := cmp n S l
      withT rfl ⟨.sl ra.1.1 (some rl.1.1) none, fun Γ X C W F n => e_sl F (fun n => ra.1.2 Γ X C W F n) (fun n => o_some fun n => rl.1.2 Γ X C W F n) (fun n => o_none)⟩
    | .Subscript a (.Slice none (some u) none p2) pos =>
      let ra := cmp n S a
      let ru := cmp n S u
      withT rfl ⟨.sl ra.1.1 none (some ru.1.1), fun Γ X C W F n => e_sl F (fun n => ra.1.2 Γ X C W F n) (fun n => o_none) (fun n => o_some fun n => ru.1.2 Γ X C W F n)⟩
    | .Subscript a (.Slice (some l) (some u) none p2) pos =>
      let ra := cmp n S a
      let rl := cmp n S l
      let ru := cmp n S u
      withT rfl ⟨.sl ra.1.1 (some rl.1.1) (some ru.1.1), fun Γ X C W F n => e_sl F (fun n => ra.1.2 Γ X C W F n) (fun n => o_some fun n => rl.1.2 Γ X C W F n) (fun n => o_some fun n => ru.1.2 Γ X C W F n)⟩
    | .Subscript a b pos => if hb : notSlice b = true then
        let ra := cmp n S a
        let rb := cmp n S b
        withT rfl ⟨.ix ra.1.1 rb.1.1, fun Γ X C W F n => e_ix F (plainIx_of hb) (fun n => ra.1.2 Γ X C W F n) (fun n => rb.1.2 Γ X C W F n)⟩
      else (noE _, noT _)
    | .Call (.Name x p) args [] pos => withT rfl (cCall S (fun e => (cmp n S e).1) x p args pos)
    | .Attribute a f pos => if hb : notCall0 a = true then
        let ra := cmp n S a
        withT rfl ⟨.attr ra.1.1 f, fun Γ X C W F n => e_attr F (fun n => ra.1.2 Γ X C W F n) (base_of hb _ _ _)⟩
      else (noE _, noT _)
    | .ListComp elt [⟨tg, iter, ifs, 0⟩] scope pos => match cLc (cmp n) S elt tg iter ifs scope with
      | some r => withT rfl ⟨.lc (!S.mu pos) r.me r.t r.it.1 r.it.2 r.cs ((ownOf S scope).map (·.2)), fun Γ X C W F n => e_lcE F (fun n => r.hi Γ X C W F n) r.ok r.hsl (fun X' F' n => r.hg Γ X' C W0 F' n) (fun X' F' n => r.ht Γ X' C W0 F' n) (fun X' F' n => r.he Γ X' C W0 F' n) (fun x => folded_of r.hs _ x)⟩
      | none => (noE _, noT _)
    | e => (noE e, noT e)
end
end R
namespace R
open PySem PySem.Spec PyProof.Rows L2
section
variable {S : Sc}
abbrev PSS (S : Sc) (st : Stmt) := { m : MS // JS S st m }
def noS (st : Stmt) : PSS S st := ⟨.bad, bad_S⟩
def cSs (f : (st : Stmt) → PSS S st) : (sts : List Stmt) → { m : List MS // JSs S sts m }
  | [] => ⟨[], fun _ _ _ _ _ _ => ss_nil⟩
  | st :: sts => let r := f st; let t := cSs f sts; ⟨r.1 :: t.1, fun Γ X C W F n => ss_cons (fun n => r.2 Γ X C W F n) (fun n => t.2 Γ X C W F n)⟩
theorem sole_of {t e : Expr} (h : notComp e = true) (l : Nat) (env : Env) : swapsWithSole [t] e l env = pure false := swaps_of h (some t) l env
theorem sub_assign {o i : Expr} {pos' : Pos} (h : notSlice i = true) (env : Env) (v : Value) : assign (.Subscript o i pos') env v = (do
      let ov ← holding [v] (eval o env)
      let iv ← holding [v, ov] (eval i env)
      standAt pos'
      holding [v, ov, iv] (setItem ov iv v)
      release [v, ov, iv] []) := by
  cases i <;> first | rfl | cases h
theorem js_retN {pos : Pos} : JS S (.Return none pos) (.ret (.lit .none)) := fun Γ X C W F n => by
  cases n with
  | zero => exact no_S
  | succ n => exact s_retN
def cAsg (S : Sc) (k : Nat) (tg e : Expr) (pos : Pos) : PSS S (.Assign [tg] e pos) :=
  if hc : notComp e = true then
    match tg with
    | .Subscript o i pos' => if hi : notSlice i = true then
        let ro := cmp k S o
        let ri := cmp k S i
        let re := cmp k S e
        ⟨.setIx ro.1.1 ri.1.1 re.1.1, fun Γ X C W F n => s_setIx (fun n => re.1.2 Γ X C W F n) (fun n => ro.1.2 Γ X C W F n) (fun n => ri.1.2 Γ X C W F n) (sole_of hc _ _) (stores_of (.inl rfl) _) (fun v => sub_assign hi _ v)⟩
      else noS _
    | tg => match cTg S 10 tg with
      | some t => if h : (notTup tg = true ∨ notTup e = true) ∧ notStar tg = true then
          let re := cmp k S e
          ⟨.asg t.1 re.1.1, fun Γ X C W F n => s_asg (fun n => re.1.2 Γ X C W F n) (fun n => t.2 Γ X C W F n) (sole_of hc _ _) (stores_of h.1 _) (by rw [asgEach_of h.2]; rfl)⟩
        else noS _
      | none => noS _
  else match tg, e with
    | .Name y py, .ListComp elt [⟨tg, iter, ifs, 0⟩] scope pos' =>
      if h : S.N[S.N.idxOf y]? = some y ∧ S.scope.names.lookup y = some .local ∧ (py.line == pos'.line) = true ∧ (scope.names.any fun (n, k) => n == y && (k == .local || k == .cell)) = false then
        match cLc (cmp k) S elt tg iter ifs scope with
        | some r => ⟨.asg (.name (S.N.idxOf y)) (.lc (!S.mu pos') r.me r.t r.it.1 r.it.2 r.cs ((ownOf S scope).map (·.2))), fun Γ X C W F n => s_setLc F h.1 h.2.1 h.2.2.1 h.2.2.2 (fun n => r.hi Γ X C W F n) r.ok r.hsl (fun X' F' n => r.hg Γ X' C W0 F' n) (fun X' F' n => r.ht Γ X' C W0 F' n) (fun X' F' n => r.he Γ X' C W0 F' n) (fun x => folded_of r.hs _ x)⟩
        | none => noS _
      else noS _
    | _, _ => noS _
def cS : Nat → (S : Sc) → (st : Stmt) → PSS S st
  | 0, S, st => noS st
  | k + 1, S, st => match st with
    | .Pass pos => ⟨.pass, fun _ _ _ _ _ _ => s_pass⟩
    | .Break pos => ⟨.brk, fun _ _ _ _ _ _ => s_brk⟩
    | .Continue pos => ⟨.cont, fun _ _ _ _ _ _ => s_cont⟩
    | .Return none pos => ⟨.ret (.lit .none), js_retN⟩
    | .Return (some e) pos => let r := cmp k S e; ⟨.ret r.1.1, fun Γ X C W F n => s_ret (fun n => r.1.2 Γ X C W F n)⟩
    | .Expr (.Constant (.str x) j p) pos => ⟨.pass, fun _ _ _ _ _ _ => s_doc⟩
    | .Expr e pos => if hc : notComp e = true then let r := cmp k S e; ⟨.expr r.1.1, fun Γ X C W F n => s_expr (fun n => r.1.2 Γ X C W F n) (swaps_of hc _ _ _)⟩ else noS _
    | .If c a b pos =>
      let rc := cmp k S c
      let ra := cSs (cS k S) a
      let rb := cSs (cS k S) b
      ⟨.ite rc.2.1 ra.1 rb.1, fun Γ X C W F n => s_if (fun n => rc.2.2 Γ X C W F n) (fun n => ra.2 Γ X C W F n) (fun n => rb.2 Γ X C W F n)⟩
    | .For tg iter body [] pos => match cTg S 10 tg with
      | some t => if hs : notSet iter = true then
          let ri := cIter S (fun e => (cmp k S e).1) tg iter
          let rb := cSs (cS k S) body
          ⟨.for_ t.1 ri.1.1 ri.1.2 rb.1, fun Γ X C W F n => s_for F (fun n => ri.2 Γ X C W F n) (fun n => t.2 Γ X C W F n) (fun n => rb.2 Γ X C W F n) (fun x => folded_of hs _ x)⟩
        else noS _
      | none => noS _
    | .Assign [tg] e pos => cAsg S k tg e pos
    | st => noS st
/-- a def's body -/
def cBody (S : Sc) (body : List Stmt) : { m : List MS // JSs S body m } := cSs (cS 40 S) body
end
end R
namespace R
open PySem PySem.Spec PyProof.Rows L2

def faOf (K : PySem.W.Frag) (x : Str) : Addr := He.ga K x
def fdOf (K : PySem.W.Frag) (a : Addr) : FuncData := match K.lookup a with
  | some ⟨_, _, .func fd, _⟩ => fd
  | _ => default
def bodyOf (fd : FuncData) : List Stmt := match fd.body with
  | .stmts b => b
  | _ => []
/-- is at a a def of the text with this name -/
def fnB (K : PySem.W.Frag) (a : Addr) (qual : Str) : Bool := match K.lookup a with
  | some ⟨_, _, .func fd, _⟩ => (match fd.body with | .stmts _ => true | _ => false) && decide (fd.qualname = qual) && decide (fd.globals = mainGlobals) && fd.closure.isEmpty && decide (fd.builtins = builtinsNs) && PySem.W.codeIn K fd.code qual
  | _ => false
theorem fnB_ok {K : PySem.W.Frag} {a : Addr} {qual : Str} (h : fnB K a qual = true) : ∃ (oc : Value) (od : Option Addr) (osl : Array (Option Value)),
    K.lookup a = some ⟨oc, od, .func (PySem.W.fnOf (fdOf K a).name qual (fdOf K a).params (bodyOf (fdOf K a)) (fdOf K a).scope (fdOf K a).defaults (fdOf K a).kwdefaults (fdOf K a).doc (fdOf K a).pyModule (fdOf K a).annotations (fdOf K a).code (fdOf K a).closureTuple), osl⟩ ∧
    PySem.W.codeIn K (fdOf K a).code qual = true ∧ fdOf K a = PySem.W.fnOf (fdOf K a).name qual (fdOf K a).params (bodyOf (fdOf K a)) (fdOf K a).scope (fdOf K a).defaults (fdOf K a).kwdefaults (fdOf K a).doc (fdOf K a).pyModule (fdOf K a).annotations (fdOf K a).code (fdOf K a).closureTuple := by
  unfold fnB at h
  split at h
  · rename_i oc od fd osl lk
    have e : fdOf K a = fd := by unfold fdOf; rw [lk]
    rw [e]
    simp only [Bool.and_eq_true, decide_eq_true_eq] at h
    obtain ⟨⟨⟨⟨⟨h1, h2⟩, h3⟩, h4⟩, h5⟩, h6⟩ := h
    obtain ⟨nm, qn, par, body, sc, gl, cl, df, kd, doc, pm, an, cd, ct, bl⟩ := fd
    dsimp only at h1 h2 h3 h4 h5 h6
    subst h2 h3 h5
    have h4 : cl = [] := by cases cl with | nil => rfl | cons _ _ => cases h4
    subst h4
    cases body with
    | stmts b => exact ⟨oc, od, osl, lk, h6, rfl⟩
    | _ => cases h1
  · cases h
def nodupB : List Str → Bool
  | [] => true
  | x :: xs => !xs.contains x && nodupB xs
theorem nodupB_ok : ∀ {l : List Str}, nodupB l = true → l.Nodup
  | [], _ => .nil
  | x :: xs, h => by
    have h : (!xs.contains x && nodupB xs) = true := h
    simp only [Bool.and_eq_true, Bool.not_eq_true', List.contains_eq_mem, decide_eq_false_iff_not] at h
    exact List.nodup_cons.mpr ⟨h.1, nodupB_ok h.2⟩
def scB (N ps : List Str) (sc : Scope) : Bool := decide (sc.kind = .function) && !sc.isCoroutine && !sc.isGenerator && nodupB N && decide (N.take ps.length = ps) && (ps.all fun x => decide (L2.Loc sc x)) && (sc.names.all fun y => decide (y.2 ≠ .free))
theorem scB_ok {N ps : List Str} {sc : Scope} (h : scB N ps sc = true) : FnScope N ps sc := by
  unfold scB at h
  simp only [Bool.and_eq_true, decide_eq_true_eq, Bool.not_eq_true', List.all_eq_true] at h
  obtain ⟨⟨⟨⟨⟨⟨h1, h2⟩, h3⟩, h4⟩, h5⟩, h6⟩, h7⟩ := h
  exact ⟨h1, h2, h3, nodupB_ok h4, h5, fun x hx => h6 x hx, h7⟩


def relDs (f : D → Value → Bool) : List D → List Value → Bool
  | [], [] => true
  | d :: ds, u :: us => f d u && relDs f ds us
  | _, _ => false
def relDB (Γ : G) : Nat → D → Value → Bool
  | 0, _, _ => false
  | n + 1, d, u => match d, u with
    | .none, .none => true
    | .bool b, .bool c => b == c
    | .int i, .int j _ => decide (i = j)
    | .str x, .str y _ => decide (x = y)
    | .tup ds, .ref a => (match Γ.K.lookup a with
      | some ⟨.type c, _, .seq its _, _⟩ => decide (c = "tuple") && decide (its.size ≤ sizeLine) && relDs (relDB Γ n) ds its.toList
      | _ => false)
    | .fn i, .ref a => decide (a = Γ.fa i)
    | .cl c, .ref a => decide (a = Γ.ca c)
    | .ty t, .type s => decide (t = s)
    | _, _ => false
theorem relDs_ok {Γ : G} {f : D → Value → Bool} (hf : ∀ d u, f d u = true → ∃ v, RelV v u ∧ ∀ w, Rep Γ w d v) : ∀ {ds : List D} {us : List Value}, relDs f ds us = true → ∃ vs, Vals vs us ∧ ∀ w, Reps Γ w ds vs
  | [], [], _ => ⟨[], .nil, fun _ => rfl⟩
  | [], _ :: _, h => by cases h
  | _ :: _, [], h => by cases h
  | d :: ds, u :: us, h => by
    have h : (f d u && relDs f ds us) = true := h
    rw [Bool.and_eq_true] at h
    obtain ⟨v, r1, r2⟩ := hf d u h.1
    obtain ⟨vs, r3, r4⟩ := relDs_ok hf h.2
    exact ⟨v :: vs, .cons r1 r3, fun w => ⟨v, vs, rfl, r2 w, r4 w⟩⟩
theorem relDB_ok {Γ : G} : ∀ (n : Nat) (d : D) (u : Value), relDB Γ n d u = true → ∃ v, RelV v u ∧ ∀ w, Rep Γ w d v
  | 0, _, _, h => by cases h
  | n + 1, d, u, h => by
    unfold relDB at h
    split at h
    · exact ⟨.non, rfl, fun _ => rfl⟩
    · rename_i b c
      have e : b = c := by simpa using h
      subst e
      exact ⟨.bl b, rfl, fun _ => rfl⟩
    · rename_i i j t
      have e : i = j := of_decide_eq_true h
      subst e
      exact ⟨.int i, ⟨t, rfl⟩, fun _ => rfl⟩
    · rename_i i j t
      have e : i = j := of_decide_eq_true h
      subst e
      exact ⟨.str i, ⟨t, rfl⟩, fun _ => rfl⟩
    · rename_i ds a
      split at h
      · rename_i c od its m sl lk
        simp only [Bool.and_eq_true, decide_eq_true_eq] at h
        obtain ⟨⟨rfl, h2⟩, h3⟩ := h
        obtain ⟨vs, r1, r2⟩ := relDs_ok (Γ := Γ) (relDB_ok n) h3
        exact ⟨.ref a, rfl, fun w => ⟨a, vs, rfl, .inr ⟨_, its, m, lk, rfl, rfl, h2, r1⟩, r2 w⟩⟩
      · cases h
    · rename_i i a
      have e : a = Γ.fa i := of_decide_eq_true h
      exact ⟨.ref a, rfl, fun _ => by rw [e]; rfl⟩
    · rename_i i a
      have e : a = Γ.ca i := of_decide_eq_true h
      exact ⟨.ref a, rfl, fun _ => by rw [e]; rfl⟩
    · rename_i t u
      have e : t = u := of_decide_eq_true h
      subst e
      exact ⟨.ty t, rfl, fun _ => rfl⟩
    · cases h
def dflD (Γ : G) (dV : Value) (ds : List D) : Bool := match ds with
  | [] => (match dV with
    | .none => true
    | _ => false)
  | ds => (match dV with
    | .ref T => (match Γ.K.lookup T with
      | some ⟨_, _, .seq its _, _⟩ => relDs (relDB Γ 9) ds its.toList
      | _ => false)
    | _ => false)
theorem dflD_ok {Γ : G} {dV : Value} {ds : List D} (h : dflD Γ dV ds = true) : ∃ dvs, DflV Γ.K dV dvs ∧ ∀ w, Reps Γ w ds dvs := by
  unfold dflD at h
  split at h
  · split at h
    · exact ⟨[], .inl ⟨rfl, rfl⟩, fun _ => rfl⟩
    · cases h
  · rename_i ne
    split at h
    · rename_i T
      split at h
      · rename_i oc od its n sl lk
        obtain ⟨vs, r1, r2⟩ := relDs_ok (Γ := Γ) (relDB_ok 9) h
        refine ⟨vs, .inr ⟨fun e => ?_, T, _, its.toList, n, rfl, lk, by simp, r1⟩, r2⟩
        subst e
        have := (r2 ⟨fun _ => 0, 0, fun _ => none, fun _ => 0⟩).length
        cases ds with
        | nil => exact ne rfl
        | cons _ _ => cases this
      · cases h
    · cases h
def kwdD (Γ : G) (kV : Value) (kws : List (Str × D)) : Bool := match kws with
  | [] => true
  | kws => (match kV with
    | .ref D => kws.all fun q => (match PySem.W.nsIn Γ.K D q.1 with
      | some (some u) => relDB Γ 9 q.2 u
      | _ => false)
    | _ => false)
theorem kwdD_ok {Γ : G} {kV : Value} {kws : List (Str × D)} (h : kwdD Γ kV kws = true) : ∃ kvs, KwdV Γ.K kV kvs ∧ ∀ w, PairedN (Rep Γ w) kws kvs := by
  unfold kwdD at h
  split at h
  · exact ⟨[], .inl rfl, fun _ => .nil⟩
  · split at h
    · rename_i D
      suffices key : ∀ l : List (Str × R.D), (l.all fun q => (match PySem.W.nsIn Γ.K D q.1 with | some (some u) => relDB Γ 9 q.2 u | _ => false)) = true → ∃ kvs : List (Str × V), (∀ q ∈ kvs, ∃ u, PySem.W.nsIn Γ.K D q.1 = some (some u) ∧ RelV q.2 u) ∧ ∀ w, PairedN (Rep Γ w) l kvs by
        obtain ⟨kvs, k1, k2⟩ := key _ h
        exact ⟨kvs, .inr ⟨D, rfl, k1⟩, k2⟩
      intro l
      induction l with
      | nil => exact fun _ => ⟨[], (fun q hq => by cases hq), fun _ => .nil⟩
      | cons p l ih =>
        intro h
        rw [List.all_cons, Bool.and_eq_true] at h
        obtain ⟨kvs, k1, k2⟩ := ih h.2
        obtain ⟨x, d⟩ := p
        have h1 := h.1
        split at h1
        · rename_i u eu
          obtain ⟨v, r1, r2⟩ := relDB_ok 9 d u h1
          refine ⟨(x, v) :: kvs, fun q hq => ?_, fun w => .cons ⟨rfl, r2 w⟩ (k2 w)⟩
          rcases List.mem_cons.mp hq with rfl | hq
          · exact ⟨u, eu, r1⟩
          · exact k1 q hq
        · cases h1
    · cases h
/-- a def: where it stands, its qualified name, its text, its slots, its parameters, does it ask that no repr is under way, what it was compiled to, its signature -/
structure PD where
  at_ : Str × Option Str
  qual : Str
  st : Stmt
  N : List Str
  ps : List Str
  g : Bool
  mf : MF
  sg : SigD
/-- a class of errors: its name, its base, the field of its one argument -/
structure PC where
  name : Str
  base : String
  fld : Option Str
structure Plan where
  defs : List PD
  cls : List PC
  dats : List (Str × D)
  nob : List Str
  /-- by the class: which own classes, which built-in ones it is under -/
  kit : List (List Bool × List (String × Bool))
  mu : List (Nat × Nat)
def PD.name (d : PD) : Str := match d.st with
  | .FunctionDef n _ _ _ _ _ _ _ _ _ => n
  | _ => ""
def PD.val (d : PD) : He.FnW := some (d.name, d.qual, defArgs d.st, .stmts (defBody d.st), defScope d.st, mainGlobals, [], builtinsNs)
def Plan.Γ (p : Plan) (K : PySem.W.Frag) : G := ⟨K, fun i => He.fAd K ((p.defs.map (·.at_))[i]?.getD ("", none)), fun c => faOf K ((p.cls.map (·.name))[c]?.getD "")⟩
def globsF : Nat → List PD → List (Str × GV)
  | _, [] => []
  | i, d :: ds => match d.at_.2 with
    | none => (d.at_.1, .fn i) :: globsF (i + 1) ds
    | some _ => globsF (i + 1) ds
def globsC : Nat → List PC → List (Str × GV)
  | _, [] => []
  | i, d :: ds => (d.name, .cl i) :: globsC (i + 1) ds
def Plan.globs (p : Plan) : List (Str × GV) := globsF 0 p.defs ++ (globsC 0 p.cls ++ p.dats.map fun q => (q.1, .dat q.2))
def PD.di (d : PD) : DI := ⟨d.qual, d.N, d.ps, defScope d.st, defBody d.st, d.g, d.mf, d.sg⟩
def Plan.pl (p : Plan) : Pl := ⟨p.defs.map PD.di, p.globs, p.nob, p.cls.map fun c => some c.fld, p.mu⟩
def kitF (tab : List (List Bool × List (String × Bool))) (t u : Sum String Nat) : Option Bool := match t, u with
  | .inr c, .inr k => (tab[c]?).bind fun r => r.1[k]?
  | .inr c, .inl T => (tab[c]?).bind fun r => r.2.lookup T
  | _, _ => none
def kitB1 (f : Nat → Option Bool) : Nat → List Bool → Bool
  | _, [] => true
  | k, b :: bs => decide (f k = some b) && kitB1 f (k + 1) bs
theorem kitB1_ok {f : Nat → Option Bool} : ∀ {k : Nat} {bs : List Bool}, kitB1 f k bs = true → ∀ (i : Nat) (b : Bool), bs[i]? = some b → f (k + i) = some b
  | k, [], _, i, b, e => by cases e
  | k, x :: bs, h, 0, b, e => by
    have h : (decide (f k = some x) && kitB1 f (k + 1) bs) = true := h
    rw [Bool.and_eq_true] at h
    cases e
    exact of_decide_eq_true h.1
  | k, x :: bs, h, i + 1, b, e => by
    have h : (decide (f k = some x) && kitB1 f (k + 1) bs) = true := h
    rw [Bool.and_eq_true] at h
    have r := kitB1_ok h.2 i b e
    rw [show k + (i + 1) = k + 1 + i by omega]
    exact r
def kitRow (p : Plan) (K : PySem.W.Frag) (c : Nat) (r : List Bool × List (String × Bool)) : Bool :=
  kitB1 (fun k => PySem.W.kitOne K ((p.Γ K).tv (.inr c)) ((p.Γ K).tv (.inr k))) 0 r.1 && r.2.all fun e => decide (PySem.W.kitOne K ((p.Γ K).tv (.inr c)) (.type e.1) = some e.2)
def kitRows (p : Plan) (K : PySem.W.Frag) : Nat → List (List Bool × List (String × Bool)) → Bool
  | _, [] => true
  | c, r :: rs => kitRow p K c r && kitRows p K (c + 1) rs
theorem kitRows_ok {p : Plan} {K : PySem.W.Frag} : ∀ {c : Nat} {rs : List (List Bool × List (String × Bool))}, kitRows p K c rs = true → ∀ i r, rs[i]? = some r → kitRow p K (c + i) r = true
  | c, [], _, i, r, e => by cases e
  | c, x :: rs, h, 0, r, e => by
    have h : (kitRow p K c x && kitRows p K (c + 1) rs) = true := h
    rw [Bool.and_eq_true] at h
    cases e
    exact h.1
  | c, x :: rs, h, i + 1, r, e => by
    have h : (kitRow p K c x && kitRows p K (c + 1) rs) = true := h
    rw [Bool.and_eq_true] at h
    have q := kitRows_ok h.2 i r e
    rw [show c + (i + 1) = c + 1 + i by omega]
    exact q
theorem lookup_mem {T : String} {b : Bool} : ∀ {l : List (String × Bool)}, l.lookup T = some b → (T, b) ∈ l
  | [], h => by cases h
  | (k, x) :: l, h => by
    rw [List.lookup_cons] at h
    cases q : T == k with
    | true => rw [q] at h; cases h; rw [beq_iff_eq.mp q]; exact List.mem_cons_self ..
    | false => rw [q] at h; exact List.mem_cons_of_mem _ (lookup_mem h)
def Plan.mp (p : Plan) : MP := ⟨p.defs.map (·.mf), p.defs.map (·.sg), fun _ _ => none, fun _ _ => none, fun _ => none, kitF p.kit, fun c => decide (c < p.cls.length), fun c f => match p.cls[c]? with
  | some x => decide (x.fld = some f)
  | none => false⟩
def isRefB (K : PySem.W.Frag) (x : Str) : Bool := match PySem.W.nsIn K mainGlobals x with
  | some (some (.ref _)) => true
  | _ => false
theorem isRefB_ok {K : PySem.W.Frag} {x : Str} (h : isRefB K x = true) : PySem.W.nsIn K mainGlobals x = some (some (.ref (faOf K x))) := by
  unfold isRefB at h
  unfold faOf He.ga
  split at h
  · rename_i a e; rw [e]
  · cases h
def xcB (K : PySem.W.Frag) (C : Addr) : Bool := (PySem.W.clsIn K C).isSome && decide (PySem.W.findIn K (.ref C) "__getattribute__" = some (some (.builtin "BaseException.__getattribute__"))) && decide (PySem.W.findIn K (.ref C) "__getattr__" = some none) && decide (PySem.W.subIn K (.ref C) (.type "BaseException") = some true) &&
  PySem.W.hasDictIn K C && decide (PySem.W.findIn K (.ref C) "__class__" = some (some (.builtin "object.__class__"))) && decide (PySem.W.specialIn K (.builtin "object.__class__") "__get__" = some (some (.builtin "getset_descriptor.__get__"))) && decide (PySem.W.takesIn K (.builtin "object.__class__") = some true) && decide (PySem.W.mroIn K C (.type "object") = some true)
theorem xcB_ok {K : PySem.W.Frag} {C : Addr} (h : xcB K C = true) : XcF K C := by
  unfold xcB at h
  simp only [Bool.and_eq_true, decide_eq_true_eq] at h
  obtain ⟨⟨⟨⟨⟨⟨⟨⟨h1, h2⟩, h3⟩, h4⟩, h5⟩, h6⟩, h7⟩, h8⟩, h9⟩ := h
  exact ⟨h1, h2, h3, h4, h5, h6, h7, h8, h9⟩
def xstB (K : PySem.W.Frag) (C : Addr) (tail : List Value) : Bool := (match PySem.W.clsIn K C with
  | some cd => cd.hasDict && (match cd.mro with | .ref _ :: bm => PySem.W.excTail tail bm | _ => false)
  | none => false) && decide (PySem.W.findIn K (.ref C) "__setattr__" = some (some (.builtin "object.__setattr__")))
theorem xstB_ok {K : PySem.W.Frag} {C : Addr} {b : PySem.RX.XBase} (B : b.Ok) (h : xstB K C b.tail = true) : XSt K C := by
  unfold xstB at h
  rw [Bool.and_eq_true] at h
  refine ⟨?_, of_decide_eq_true h.2⟩
  have h1 := h.1
  split at h1
  · rename_i cd e
    rw [Bool.and_eq_true] at h1
    refine ⟨cd, e, ?_, ?_, fun self => ?_, h1.1⟩
    all_goals
      have h2 := h1.2
      split at h2
      · rename_i C' bm em
        have ht : PySem.W.excTail b.tail (.ref C' :: bm) = true := h2
        rw [em]
        first
          | rfl
          | exact (PySem.W.excTail_contains _ _ ht).trans B.ob
          | exact PySem.W.excTail_pass self (B.pass self) _ ht
      · cases h2
  · cases h1
/-- self.f = p -/
def initM : List Stmt → Option (Str × Str × Str)
  | [.Assign [.Attribute (.Name self _) f _] (.Name p _) _] => some (self, f, p)
  | _ => none
theorem initM_ok {body : List Stmt} {s f p : Str} (h : initM body = some (s, f, p)) : initForm body f s p := by
  unfold initM at h
  split at h
  · cases h; exact ⟨_, _, _, _, rfl⟩
  · cases h
def iniOf (K : PySem.W.Frag) (C : Addr) : Addr := match PySem.W.findIn K (.ref C) "__init__" with
  | some (some (.ref a)) => a
  | _ => 0
def okName (x : Str) : Bool := decide ((x == ("__debug__" : Str)) = false) && decide ((x == ("__classdict__" : Str)) = false)
/-- plain parameters s, p -/
def plain2 (q : Arguments) (s p : Str) : Bool := q.posonlyargs.isEmpty && decide (q.args.map (·.arg) = [s, p]) && q.kwonlyargs.isEmpty && q.vararg.isNone && q.kwarg.isNone && decide (s ≠ p)
/-- the class of errors c -/
def clsB (K : PySem.W.Frag) (c : PC) : Bool :=
  let C := faOf K c.name
  let b := PySem.RX.xbase c.base
  isRefB K c.name && PySem.W.keepIn K (.ref C) && xcB K C && PySem.W.excInitIn K C b.tail b.newId && (match c.fld with
    | none => b.same && decide (PySem.W.findIn K (.ref C) "__init__" = some (some (.builtin b.ini)))
    | some f => xstB K C b.tail && decide (PySem.W.findIn K (.ref C) f = some none) && decide (PySem.W.findIn K (.ref C) "__init__" = some (some (.ref (iniOf K C)))) && decide (PySem.W.typeIn K (.ref (iniOf K C)) = some (.type "function")) && fnB K (iniOf K C) (fdOf K (iniOf K C)).qualname &&
      (match initM (bodyOf (fdOf K (iniOf K C))) with
        | some (s, f', p) => decide (f' = f) && scB [s, p] [s, p] (fdOf K (iniOf K C)).scope && decide (Vis (fdOf K (iniOf K C)).scope s) && decide (Vis (fdOf K (iniOf K C)).scope p) && okName s && okName p && plain2 (fdOf K (iniOf K C)).params s p && decide ((fdOf K (iniOf K C)).defaults = .none)
        | none => false))
/-- of a def, what hangs on the heap -/
def defB (p : Plan) (K : PySem.W.Frag) (d : PD) : Bool := PySem.W.keepIn K (.ref (He.fAd K d.at_)) && (match d.at_.2 with
    | none => isRefB K d.at_.1
    | some _ => true) && (match K.lookup (He.fAd K d.at_) with
  | some ⟨_, _, .func fd, _⟩ => PySem.W.codeIn K fd.code d.qual && dflD (p.Γ K) fd.defaults d.sg.dfl && kwdD (p.Γ K) fd.kwdefaults d.sg.kwd
  | _ => false)
/-- what does not -/
def optN : Option Arg → List Str
  | some a => [a.arg]
  | none => []
def sigB (d : PD) : Bool := (defArgs d.st).posonlyargs.isEmpty && decide ((defArgs d.st).args.map (·.arg) = d.sg.ps) && decide ((defArgs d.st).kwonlyargs.map (·.arg) = d.sg.ks) && decide ((defArgs d.st).vararg.isSome = d.sg.va) && decide ((defArgs d.st).kwarg.isSome = d.sg.kw) &&
  decide (d.ps = d.sg.ps ++ d.sg.ks ++ optN (defArgs d.st).vararg ++ optN (defArgs d.st).kwarg) && decide (d.sg.dfl.length ≤ d.sg.ps.length)
def Plan.stat (p : Plan) : Bool := p.defs.all fun d => scB d.N d.ps (defScope d.st) && decide (d.mf.slots = d.N.length) && sigB d
def Plan.chk (p : Plan) (K : PySem.W.Frag) : Bool := p.defs.all (defB p K) && p.cls.all (clsB K) && (p.nob.all fun x => decide (PySem.W.nsIn K mainGlobals x = some none)) && kitRows p K 0 p.kit &&
  p.dats.all fun q => match PySem.W.nsIn K mainGlobals q.1 with
    | some (some u) => relDB (p.Γ K) 9 q.2 u
    | _ => false
/-- what the end leans on -/
abbrev AlR : Type := Bool × List He.FnW
def Plan.obs (p : Plan) (K : PySem.W.Frag) : AlR := (p.chk K, p.defs.map fun d => He.fnW K d.at_)
def Plan.valR (p : Plan) : AlR := (true, p.defs.map PD.val)
def Plan.Says (p : Plan) (K : PySem.W.Frag) : Prop := p.obs K = p.valR
def Plan.obsG (p : Plan) (n : Nat) (g : Addr → Option Obj) : AlR := p.obs (He.frG g (He.asD g n))
def Plan.hook (p : Plan) (n : Nat) : PySem.W.Hook where
  α := AlR
  obs := fun s => p.obsG n s.heap.get?
  val := fun _ => p.valR
  says := fun _ h => ∃ K : PySem.W.Frag, K.In h ∧ p.Says K
  of := fun _ _ e => ⟨_, He.frG_in, e⟩
  keeps := fun _ _ _ ⟨K, hK, c⟩ k => ⟨K, PySem.W.Frag.In.keeps hK k, c⟩
def Plan.ob (p : Plan) (n : Nat) (s : PySem.W.SharedT) : AlR := p.obsG n (HandSHeadRun.getT s)
theorem Plan.ob_eq (p : Plan) (n : Nat) (s : PySem.W.SharedT) : p.ob n s = (p.hook n).obs s.abs := by
  have e : HandSHeadRun.getT s = s.abs.heap.get? := funext (HandSHeadRun.getT_eq s)
  show p.obsG n (HandSHeadRun.getT s) = p.obsG n s.abs.heap.get?
  rw [e]
theorem globsF_says {x : Str} {v : GV} : ∀ {n : Nat} {ds : List PD}, (globsF n ds).lookup x = some v → ∃ (i : Nat) (d : PD), ds[i]? = some d ∧ d.at_ = (x, none) ∧ v = .fn (n + i)
  | n, [], h => by cases h
  | n, d :: ds, h => by
    unfold globsF at h
    cases q0 : d.at_.2 with
    | some m =>
      rw [q0] at h
      obtain ⟨i, e, h1, h2, h3⟩ := globsF_says h
      exact ⟨i + 1, e, h1, h2, by rw [h3]; congr 1; omega⟩
    | none =>
      rw [q0] at h
      have h : List.lookup x ((d.at_.1, GV.fn n) :: globsF (n + 1) ds) = some v := h
      rw [List.lookup_cons] at h
      cases q : x == d.at_.1 with
      | true => rw [q] at h; cases h; exact ⟨0, d, rfl, Prod.ext (beq_iff_eq.mp q).symm q0, rfl⟩
      | false =>
        rw [q] at h
        obtain ⟨i, e, h1, h2, h3⟩ := globsF_says h
        exact ⟨i + 1, e, h1, h2, by rw [h3]; congr 1; omega⟩
theorem globsC_says {x : Str} {v : GV} : ∀ {n : Nat} {ds : List PC}, (globsC n ds).lookup x = some v → ∃ (i : Nat) (d : PC), ds[i]? = some d ∧ d.name = x ∧ v = .cl (n + i)
  | n, [], h => by cases h
  | n, d :: ds, h => by
    have h : List.lookup x ((d.name, GV.cl n) :: globsC (n + 1) ds) = some v := h
    rw [List.lookup_cons] at h
    cases q : x == d.name with
    | true => rw [q] at h; cases h; exact ⟨0, d, rfl, (beq_iff_eq.mp q).symm, rfl⟩
    | false =>
      rw [q] at h
      obtain ⟨i, e, h1, h2, h3⟩ := globsC_says h
      exact ⟨i + 1, e, h1, h2, by rw [h3]; congr 1; omega⟩
theorem globsD_says {x : Str} {v : GV} : ∀ {ds : List (Str × D)}, (ds.map fun q => (q.1, GV.dat q.2)).lookup x = some v → ∃ d, (x, d) ∈ ds ∧ v = .dat d
  | [], h => by cases h
  | (y, d) :: ds, h => by
    rw [List.map_cons, List.lookup_cons] at h
    cases q : x == y with
    | true => rw [q] at h; cases h; exact ⟨d, by rw [beq_iff_eq.mp q]; exact List.mem_cons_self .., rfl⟩
    | false =>
      rw [q] at h
      obtain ⟨e, h1, h2⟩ := globsD_says h
      exact ⟨e, List.mem_cons_of_mem _ h1, h2⟩
theorem lookup_app {α : Type} {x : Str} : ∀ {l m : List (Str × α)} {v : α}, (l ++ m).lookup x = some v → l.lookup x = some v ∨ m.lookup x = some v
  | [], m, v, h => .inr h
  | (k, u) :: l, m, v, h => by
    have h : List.lookup x ((k, u) :: (l ++ m)) = some v := h
    rw [List.lookup_cons] at h ⊢
    cases q : x == k with
    | true => rw [q] at h; exact .inl h
    | false => rw [q] at h; exact lookup_app h
theorem Plan.tx {p : Plan} {K : PySem.W.Frag} {h : Heap} {mg : Str → Option Value} {P : Program} {w : World} (X : K.In h) (G : h.Ns mainGlobals mg) (st : p.stat = true) (c : p.Says K) : Tx p.pl p.mp (p.Γ K) P w mg := by
  have cv : p.defs.map (fun d => He.fnW K d.at_) = p.defs.map PD.val := congrArg (fun z : AlR => z.2) c
  have c : p.chk K = true := congrArg (fun z : AlR => z.1) c
  unfold Plan.chk at c
  simp only [Bool.and_eq_true, List.all_eq_true, decide_eq_true_eq] at c
  obtain ⟨⟨⟨⟨c1, c2⟩, c3⟩, c4⟩, c5⟩ := c
  have atF : ∀ (i : Nat) (d : PD), p.defs[i]? = some d → (p.Γ K).fa i = He.fAd K d.at_ := fun i d e => by
    show He.fAd K ((p.defs.map (·.at_))[i]?.getD ("", none)) = _
    rw [List.getElem?_map, e]; rfl
  have atC : ∀ (i : Nat) (d : PC), p.cls[i]? = some d → (p.Γ K).ca i = faOf K d.name := fun i d e => by
    show faOf K ((p.cls.map (·.name))[i]?.getD "") = _
    rw [List.getElem?_map, e]; rfl
  have cls : ∀ (i : Nat) (d : PC), p.cls[i]? = some d → clsB K d = true := fun i d e => c2 d (List.mem_of_getElem? e)
  have di : ∀ (i : Nat) (d : DI), p.pl.defs[i]? = some d → ∃ d', p.defs[i]? = some d' ∧ d = PD.di d' := fun i d e => by
    have e : (p.defs.map PD.di)[i]? = some d := e
    rw [List.getElem?_map] at e
    cases q : p.defs[i]? with
    | none => rw [q] at e; cases e
    | some d' => rw [q] at e; cases e; exact ⟨d', rfl, rfl⟩
  have stat : ∀ d ∈ p.defs, scB d.N d.ps (defScope d.st) = true ∧ d.mf.slots = d.N.length ∧ sigB d = true := fun d hd => by
    unfold Plan.stat at st
    have := List.all_eq_true.mp st d hd
    simp only [Bool.and_eq_true, decide_eq_true_eq] at this
    exact ⟨this.1.1, this.1.2, this.2⟩
  refine ⟨by show p.defs.map (·.mf) = (p.defs.map PD.di).map (·.mf); rw [List.map_map]; rfl, by show p.defs.map (·.sg) = (p.defs.map PD.di).map (·.sg); rw [List.map_map]; rfl, fun i d e => ?_, fun i d e => ?_, fun x i e => ?_, fun x d e => ?_, fun x hx => PySem.W.mg_none_of X G (c3 x hx), fun x c e => ?_, fun t u b e => ?_, fun c e => ?_, fun c f e => ?_, fun c f e Xc h1 h2 h3 h4 => ?_, fun c e => ?_⟩
  · obtain ⟨d', q, rfl⟩ := di i d e
    have m := List.mem_of_getElem? q
    have k1 := c1 d' m
    unfold defB at k1
    simp only [Bool.and_eq_true] at k1
    obtain ⟨⟨k1, k2⟩, k3⟩ := k1
    rw [atF i d' q]
    have ev : He.fnW K d'.at_ = PD.val d' := by
      have e2 : (p.defs.map fun d => He.fnW K d.at_)[i]? = (p.defs.map PD.val)[i]? := by rw [cv]
      rw [List.getElem?_map, List.getElem?_map, q] at e2
      exact Option.some.inj e2
    unfold He.fnW at ev
    split at k3
    · rename_i oc od fd osl lk
      rw [lk] at ev
      obtain ⟨n1, n2, n3, n4, n5, n6, n7, n8, n9, n10, n11, n12, n13, n14, n15⟩ := fd
      have e2 : (some (n1, n2, n3, n4, n5, n6, n7, n15) : He.FnW) = some (d'.name, d'.qual, defArgs d'.st, .stmts (defBody d'.st), defScope d'.st, mainGlobals, [], builtinsNs) := ev
      simp only [Option.some.injEq, Prod.mk.injEq] at e2
      obtain ⟨z1, z2, z3, z4, z5, z6, z7, z8⟩ := e2
      subst z1 z2 z3 z4 z5 z6 z7 z8
      simp only [Bool.and_eq_true] at k3
      obtain ⟨⟨k3, k4⟩, k5⟩ := k3
      obtain ⟨dvs, r1, r2⟩ := dflD_ok k4
      obtain ⟨kvs, r3, r4⟩ := kwdD_ok k5
      refine ⟨d'.name, defArgs d'.st, dvs, kvs, _, ⟨⟨oc, od, n8, n9, n10, n11, n12, n13, n14, osl, rfl, lk, k3, r1, r3⟩, k1⟩, ?_, r2, r4⟩
      have sg := (stat d' m).2.2
      unfold sigB at sg
      simp only [Bool.and_eq_true, decide_eq_true_eq, List.isEmpty_iff] at sg
      obtain ⟨⟨⟨⟨⟨⟨s1, s2⟩, s3⟩, s4⟩, s5⟩, s6⟩, s7⟩ := sg
      refine ⟨s1, s2, s3, s4, s5, ?_, s7⟩
      show d'.ps = _
      rw [s6]
      cases (defArgs d'.st).vararg <;> cases (defArgs d'.st).kwarg <;> rfl
    · cases k3
  · obtain ⟨d', q, rfl⟩ := di i d e
    obtain ⟨k4, k5, _⟩ := stat d' (List.mem_of_getElem? q)
    exact ⟨scB_ok k4, k5⟩
  · rcases lookup_app e with e | e
    · obtain ⟨j, d, h1, h2, h3⟩ := globsF_says e
      have h3 : i = j := by cases h3; omega
      subst h3
      have k1 := c1 d (List.mem_of_getElem? h1)
      unfold defB at k1
      rw [h2] at k1
      simp only [Bool.and_eq_true] at k1
      obtain ⟨⟨k1, k2⟩, k3⟩ := k1
      rw [atF i d h1, h2]
      refine ⟨?_, PySem.W.mg_of X G (isRefB_ok k2), k1⟩
      show i < (p.defs.map PD.di).length
      rw [List.length_map]
      exact (List.getElem?_eq_some_iff.mp h1).1
    · rcases lookup_app e with e | e
      · obtain ⟨j, d, h1, h2, h3⟩ := globsC_says e; cases h3
      · obtain ⟨d, h1, h2⟩ := globsD_says e; cases h2
  · rcases lookup_app e with e | e
    · obtain ⟨j, d', h1, h2, h3⟩ := globsF_says e; cases h3
    · rcases lookup_app e with e | e
      · obtain ⟨j, d', h1, h2, h3⟩ := globsC_says e; cases h3
      · obtain ⟨d', h1, h2⟩ := globsD_says e
        cases h2
        have := c5 (x, d) h1
        dsimp only at this
        split at this
        · rename_i u eu
          obtain ⟨v, r1, r2⟩ := relDB_ok 9 d u this
          exact ⟨u, PySem.W.mg_of X G eu, fun w => ⟨v, r1, r2 w⟩⟩
        · cases this
  · rcases lookup_app e with e | e
    · obtain ⟨j, d', h1, h2, h3⟩ := globsF_says e; cases h3
    · rcases lookup_app e with e | e
      · obtain ⟨j, d, h1, h2, h3⟩ := globsC_says e
        have h3 : c = j := by cases h3; omega
        subst h3
        have k := cls c d h1
        unfold clsB at k
        simp only [Bool.and_eq_true] at k
        rw [atC c d h1, ← h2]
        exact ⟨PySem.W.mg_of X G (isRefB_ok k.1.1.1.1), k.1.1.1.2⟩
      · obtain ⟨d', h1, h2⟩ := globsD_says e; cases h2
  · have e : kitF p.kit t u = some b := e
    cases t with
    | inl _ => cases e
    | inr c =>
      cases u with
      | inr k =>
        obtain ⟨r, h1, h2⟩ := Option.bind_eq_some_iff.mp (show ((p.kit)[c]?).bind (fun r => r.1[k]?) = some b from e)
        have q := kitRows_ok c4 c r h1
        unfold kitRow at q
        rw [Bool.and_eq_true] at q
        have z := kitB1_ok q.1 k b h2
        rw [Nat.zero_add, Nat.zero_add] at z
        exact z
      | inl T =>
        obtain ⟨r, h1, h2⟩ := Option.bind_eq_some_iff.mp (show ((p.kit)[c]?).bind (fun r => r.2.lookup T) = some b from e)
        have q := kitRows_ok c4 c r h1
        unfold kitRow at q
        rw [Bool.and_eq_true, List.all_eq_true] at q
        have z := q.2 _ (lookup_mem h2)
        rw [Nat.zero_add] at z
        exact of_decide_eq_true z
  · have e : decide (c < p.cls.length) = true := e
    have e := of_decide_eq_true e
    have k := cls c _ (List.getElem?_eq_getElem e)
    unfold clsB at k
    simp only [Bool.and_eq_true] at k
    rw [atC c _ (List.getElem?_eq_getElem e)]
    exact xcB_ok k.1.1.2
  · have e : (match p.cls[c]? with | some x => decide (x.fld = some f) | none => false) = true := e
    cases q : p.cls[c]? with
    | none => rw [q] at e; cases e
    | some d =>
      rw [q] at e
      have e := of_decide_eq_true e
      have k := cls c d q
      unfold clsB at k
      simp only [Bool.and_eq_true, e, decide_eq_true_eq] at k
      rw [atC c d q]
      exact k.2.1.1.1.1.2
  · have e : ((p.cls.map fun c => some c.fld)[c]?).getD none = some (some f) := e
    rw [List.getElem?_map] at e
    cases q : p.cls[c]? with
    | none => rw [q] at e; cases e
    | some d =>
      rw [q] at e
      have e : some d.fld = some (some f) := e
      have e := Option.some.inj e
      have k := cls c d q
      unfold clsB at k
      simp only [Bool.and_eq_true, e, decide_eq_true_eq] at k
      obtain ⟨⟨⟨⟨k1, k2⟩, k3⟩, k4⟩, ⟨⟨⟨⟨⟨k5, k6⟩, k7⟩, k8⟩, k9⟩, k10⟩⟩ := k
      rw [atC c d q]
      have B := PySem.RX.xbase_ok d.base
      cases qi : initM (bodyOf (fdOf K (iniOf K (faOf K d.name)))) with
      | none => rw [qi] at k10; cases k10
      | some r =>
        obtain ⟨sf, f', pp⟩ := r
        rw [qi] at k10
        simp only [Bool.and_eq_true, decide_eq_true_eq] at k10
        obtain ⟨⟨⟨⟨⟨⟨⟨m1, m2⟩, m3⟩, m4⟩, m5⟩, m6⟩, m7⟩, m8⟩ := k10
        unfold plain2 at m7
        simp only [Bool.and_eq_true, decide_eq_true_eq, List.isEmpty_iff, Option.isNone_iff_eq_none] at m7
        obtain ⟨⟨⟨⟨⟨q1, q2⟩, q3⟩, q4⟩, q5⟩, q6⟩ := m7
        subst m1
        unfold okName at m5 m6
        simp only [Bool.and_eq_true, decide_eq_true_eq] at m5 m6
        obtain ⟨oc, od, osl, lk, cd, ef⟩ := fnB_ok k9
        have K' : Xc.K = K := h3
        have b' : Binds K (fdOf K (iniOf K (faOf K d.name))) [sf, pp] [] := by
          intro s us _ hl
          rw [List.append_nil] at hl ⊢
          have := bind_gen (s := s) (fd := fdOf K (iniOf K (faOf K d.name))) (ps := [sf, pp]) (ks := []) (ds := []) (kds := []) (pos := us) (kw := []) (vs := us) q1 q2 (by rw [q3]; rfl) q4 q5 (fun M => by rw [m8]; exact PySem.W.Looks.of_pure rfl) (by simp) (fun n v e => by cases e) (bindP_all hl (by simp [q6]))
          simpa using this
        rw [ef] at b'
        have T := xstB_ok B k5
        refine ⟨⟨_, B, by rw [K']; exact k4⟩, iniOf K (faOf K d.name), _, [sf, pp], by rw [K']; exact k7, by rw [K']; exact k8, ?_, by rw [K']; exact b'⟩
        rw [K', h1, h2, h4]
        exact ok_init lk cd (scB_ok m2) (initM_ok qi) m3 m4 m5 m6 T k6
  · have e : ((p.cls.map fun c => some c.fld)[c]?).getD none = some none := e
    rw [List.getElem?_map] at e
    cases q : p.cls[c]? with
    | none => rw [q] at e; cases e
    | some d =>
      rw [q] at e
      have e : some d.fld = some none := e
      have e := Option.some.inj e
      have k := cls c d q
      unfold clsB at k
      simp only [Bool.and_eq_true, e, decide_eq_true_eq] at k
      rw [atC c d q]
      exact ⟨_, _, _, _, (PySem.RX.xbase_ok d.base).fac0 k.2.1, k.2.2, k.1.2⟩
end R
namespace R
open PySem PySem.Spec PyProof.Rows L2
def compD (p : Plan) : List PD → Prop
  | [] => True
  | d :: ds => (cBody (p.pl.sc d.di) (defBody d.st)).1 = d.mf.body ∧ compD p ds
theorem compD_mem {p : Plan} {d : PD} : ∀ {ds : List PD}, compD p ds → d ∈ ds → (cBody (p.pl.sc d.di) (defBody d.st)).1 = d.mf.body
  | x :: ds, h, m => by
    rcases List.mem_cons.mp m with e | m
    · subst e; exact h.1
    · exact compD_mem h.2 m
theorem compD_ok {p : Plan} (h : compD p p.defs) : p.pl.Comp := fun i d hd Γ X C W F n => by
  have hd : (p.defs.map PD.di)[i]? = some d := hd
  rw [List.getElem?_map] at hd
  cases q : p.defs[i]? with
  | none => rw [q] at hd; cases hd
  | some d' =>
    rw [q] at hd; cases hd
    have e := compD_mem h (List.mem_of_getElem? q)
    have r := (cBody (p.pl.sc d'.di) (defBody d'.st)).2 Γ X C W F n
    rw [e] at r
    exact r
theorem reps_ints {Γ : G} {w : Vw} : ∀ ns : List Int, Reps Γ w (ns.map D.int) (ns.map V.int)
  | [] => rfl
  | n :: ns => ⟨.int n, ns.map V.int, rfl, rfl, reps_ints ns⟩
theorem sim0 {Γ : G} {H : Hp} : Sim Γ ⟨fun _ => 0, 0, H, fun _ => 0⟩ ⟨0, []⟩ := ⟨rfl, fun _ _ => rfl, (fun n o e => by cases e), (fun n o e => by cases e), (fun n m o o' e => by cases e)⟩
theorem law_walk {l : PySem.W.OpenLaw} {q : Program} {loose : List Str} {XP : (Str → Option Value) → Heap → Prop} {d : DefRec} (p : Plan) (m i n : Nat) (D0 : PD)
    (hn : l.most = some 63) (hdf : d.params.defaults = []) (hr : Room (n + 4) callerA)
    (hi : p.defs[i]? = some D0) (hg : D0.g = true) (hlk : p.globs.lookup d.name = some (.fn i))
    (st : p.stat = true) (cm : compD p p.defs)
    (spec : ∀ ns : List Int, ns.length ≤ 63 → ∃ h, (cal p.mp n).callf i [.scr (ns.map .int)] [] ⟨0, []⟩ = .ok (.bool true) h) :
    PySem.W.WalkO q loose XP (p.hook m).says l.row.toRowW d [] (fun f vs => PySem.call f vs) := by
  refine walkG (n := 63) (k := n + 4) (CX := fun w => L2.CX l.prog w) hn (by decide) hdf hr (fun w mg fa h Y G hmg => ?_) (fun w H s e s' c => ?_)
  · obtain ⟨K, KX, says⟩ := Y
    have T : Tx p.pl p.mp (p.Γ K) l.prog w mg := Plan.tx KX G st says
    have hd' : p.pl.defs[i]? = some D0.di := by
      show (p.defs.map PD.di)[i]? = _
      rw [List.getElem?_map, hi]; rfl
    obtain ⟨_, hm, _⟩ := T.gl d.name i hlk
    have efa : fa = (p.Γ K).fa i := by
      rw [hmg] at hm; cases hm; rfl
    refine ⟨K, spC (p.Γ K) (cal p.mp n) i, KX, fun H a ns hl only fz => ?_, fun base _ _ => ?_⟩
    · obtain ⟨h', e⟩ := spec ns hl
      refine ⟨⟨fun _ => 0, 0, H, fun _ => 0⟩, ⟨0, []⟩, [.scr (ns.map .int)], [], rfl, sim0, ⟨.ref a, [], rfl, ⟨a, ns.map V.int, rfl, fz, reps_ints ns⟩, rfl⟩, .nil, ?_⟩
      rw [e]
      intro w' _ _ v hv
      exact hv
    · have f := all_fns (P := l.prog) (w := w) (base := base) T (compD_ok cm) n i _ hd'
      have eg : D0.di.g = true := hg
      rw [eg] at f
      rw [efa]
      exact f
  · obtain ⟨_, _, _, _, _, _, _, _, _, _, _, _, z⟩ := c
    exact z
end R
namespace R
open PySem
section
variable {C : Cal} {n i f : Nat} {ms : MSt} {h : MH} {a b c : ME} {es : List ME} {d : D} {op : Operator} {cop : CmpOp} {s : MS} {ss : List MS}
theorem ev_lit : ev C (n + 1) (.lit d) ms h = .ok d h := rfl
theorem ev_var (e : ms[i]? = some (some d)) : ev C (n + 1) (.var i) ms h = .ok d h := by
  show (match ms[i]? with | some (some d) => Res.ok d h | _ => .bad) = _
  rw [e]
theorem ev_var' : ev C (n + 1) (.var i) ms h = (match ms[i]? with | some (some d) => Res.ok d h | _ => .bad) := rfl
theorem ev_bin : ev C (n + 1) (.bin op a b) ms h = (ev C n a ms h).bind fun x h => (ev C n b ms h).bind fun y h => binD op x y h := rfl
theorem ev_cmp : ev C (n + 1) (.cmp cop a b) ms h = (ev C n a ms h).bind fun x h => (ev C n b ms h).bind fun y h => cmpD cop x y h := rfl
theorem ev_ix : ev C (n + 1) (.ix a b) ms h = (ev C n a ms h).bind fun x h => (ev C n b ms h).bind fun y h => ixD x y h := rfl
theorem ev_prim {p : Prim} : ev C (n + 1) (.prim p es) ms h = (evs (fun e h => ev C n e ms h) es h).bind fun ds h => primD p ds h := rfl
theorem ev_call : ev C (n + 1) (.call f es) ms h = (evs (fun e h => ev C n e ms h) es h).bind fun ds h => C.callf f ds [] h := rfl
theorem ev_ite : ev C (n + 1) (.ite c a b) ms h = (ev C n c ms h).bind fun x h => (truR x h).bind fun t h => if t then ev C n a ms h else ev C n b ms h := rfl
theorem ev_lst {fz : Bool} {es : List (Bool × ME)} : ev C (n + 1) (.lst fz es) ms h = (evStar (fun e h => ev C n e ms h) es h).bind fun ds h => if fz then newF ds h else newL ds h := rfl
theorem evs_nil {g : ME → MH → Res D} : evs g [] h = .ok [] h := rfl
theorem evs_cons {g : ME → MH → Res D} : evs g (a :: es) h = (g a h).bind fun d h => (evs g es h).bind fun ds h => .ok (d :: ds) h := rfl
theorem bind_ok {α β : Type} {x : α} {g : α → MH → Res β} : (Res.ok x h).bind g = g x h := rfl
theorem cat_ok {α : Type} {x : α} {g : α → MH → Res Flow} : (Res.ok x h).cat ms g = g x h := rfl
theorem exs_nil {g : MS → MSt → MH → Res Flow} : exs g [] ms h = .ok (.nx ms) h := rfl
theorem exs_cons {g : MS → MSt → MH → Res Flow} : exs g (s :: ss) ms h = (g s ms h).bind fun r h => match r with
    | .nx ms => exs g ss ms h
    | .rt d => .ok (.rt d) h
    | .bk ms => .ok (.bk ms) h
    | .ct ms => .ok (.ct ms) h
    | .xc c fs ms => .ok (.xc c fs ms) h := rfl
theorem ex_asg {t : MT} : ex C (n + 1) (.asg t a) ms h = (ev C n a ms h).cat ms fun d h => match asgT n t d h ms with
      | some ms' => .ok (.nx ms') h
      | none => .bad := rfl
theorem ex_setIx : ex C (n + 1) (.setIx a b c) ms h = (ev C n c ms h).cat ms fun x h => (ev C n a ms h).cat ms fun y h => (ev C n b ms h).cat ms fun z h => (setIxD y z x h).cat ms fun _ h => .ok (.nx ms) h := rfl
theorem ex_ret : ex C (n + 1) (.ret a) ms h = (ev C n a ms h).cat ms fun d h => .ok (.rt d) h := rfl
theorem ex_ite {p q : List MS} : ex C (n + 1) (.ite a p q) ms h = (ev C n a ms h).cat ms fun x h => (truR x h).cat ms fun t h => if t then exs (ex C n) p ms h else exs (ex C n) q ms h := rfl
theorem asgT_name : asgT (n + 1) (.name i) d h ms = some (ms.set i (some d)) := rfl
theorem truR_bool {t : Bool} : truR (.bool t) h = .ok t h := rfl
theorem ix_list {r : Nat} {xs : List D} {j : Int} {y : D} (e : h.get r = some (.lst xs)) (e2 : L2.atI xs j = some y) : ixD (.ref r) (.int j) h = .ok y h := by
  have e1 : dkD (.ref r) h = none := by
    show (match h.get r with | some (.dk kvs) => some kvs | _ => Option.none) = _
    rw [e]
  have e3 : itemsD (.ref r) h = some xs := by
    show (match h.get r with | some (.lst xs) => some xs | _ => Option.none) = _
    rw [e]
  unfold ixD
  rw [e1]
  show (match itemsD (.ref r) h with | some ds => (match L2.atI ds j with | some d => Res.ok d h | Option.none => .bad) | Option.none => .bad) = _
  rw [e3]
  show (match L2.atI xs j with | some d => Res.ok d h | Option.none => .bad) = _
  rw [e2]
theorem setIx_list {r j : Nat} {xs : List D} {k : Int} {y : D} (e : h.get r = some (.lst xs)) (e2 : L2.ixN xs.length k = some j) : setIxD (.ref r) (.int k) y h = .ok () (h.set r (.lst (xs.set j y))) := by
  show (match h.get r with
    | some (.lst xs) => (match L2.ixN xs.length k with | some j => Res.ok () (h.set r (.lst (xs.set j y))) | none => .bad)
    | _ => .bad) = _
  rw [e]
  show (match L2.ixN xs.length k with | some j => Res.ok () (h.set r (.lst (xs.set j y))) | none => .bad) = _
  rw [e2]
theorem get_set_same {r : Nat} {o o' : MO} (e : h.get r = some o) : (h.set r o').get r = some o' := by rw [MH.get_set, if_pos rfl, e]; rfl
end
theorem prim_int' {i : Int} {h : MH} : primD .int [.int i] h = .ok (.int i) h := rfl
/-- the draws of a cell -/
def bagO (d m k : Int) : MO := .lst [.int d, .int m, .int k]
/-- _law_take -/
def takeF : MF := ⟨4, [(.ite (.cmp .Gt (.ix (.var 0) (.lit (.int 0))) (.lit (.int 0))) [(.asg (.name 3) (.bin .Mod (.prim .int [(.ix (.var 0) (.lit (.int 0)))]) (.var 1))), (.setIx (.var 0) (.lit (.int 0)) (.bin .FloorDiv (.ix (.var 0) (.lit (.int 0))) (.var 1))), (.ret (.var 3))] []), (.setIx (.var 0) (.lit (.int 2)) (.bin .Add (.ix (.var 0) (.lit (.int 2))) (.lit (.int 1)))), (.asg (.name 2) (.bin .Mod (.prim .int [(.bin .Pow (.bin .Add (.ix (.var 0) (.lit (.int 1))) (.bin .Mult (.lit (.int 1000003)) (.ix (.var 0) (.lit (.int 2))))) (.lit (.int 3)))]) (.lit (.int 2305843009213693921)))), (.asg (.name 2) (.bin .Mod (.prim .int [(.bin .Pow (.bin .Add (.var 2) (.bin .Mult (.lit (.int 15485863)) (.ix (.var 0) (.lit (.int 2))))) (.lit (.int 2)))]) (.lit (.int 2305843009213693951)))), (.ret (.bin .Mod (.prim .int [(.bin .FloorDiv (.var 2) (.lit (.int 2048)))]) (.var 1)))], false⟩
theorem take_big (C : Cal) (h : MH) (r : Nat) (d m k many : Int) (hg : h.get r = some (bagO d m k)) (hd : 0 < d) (h1 : 0 < many) (h2 : many < 1073741824) :
    runF C takeF [.ref r, .int many] h = .ok (.int (d % many)) (h.set r (bagO (d / many) m k)) := by
  unfold bagO at hg
  have i0 : ixD (.ref r) (.int 0) h = .ok (.int d) h := ix_list hg rfl
  have st : ∀ y, setIxD (.ref r) (.int 0) y h = .ok () (h.set r (.lst [y, .int m, .int k])) := fun y => setIx_list (j := 0) hg rfl
  have hgt : cmpD .Gt (.int d) (.int 0) h = .ok (.bool true) h := by
    show Res.ok (D.bool (decide (d > 0))) h = _
    rw [decide_eq_true hd]
  have hmod : binD .Mod (.int d) (.int many) h = .ok (.int (d % many)) h := by
    show (if 0 < many then Res.ok (D.int (d % many)) h else .bad) = _
    rw [if_pos h1]
  have hdiv : binD .FloorDiv (.int d) (.int many) h = .ok (.int (d / many)) h := by
    show (if decide (0 < many) && ltB 30 many then Res.ok (D.int (d / many)) h else .bad) = _
    rw [decide_eq_true h1, (ltB_iff (k := 30) (by decide)).mpr (by omega)]; rfl
  have e1 : exs (ex C 60) takeF.body (startM takeF.slots [.ref r, .int many]) h = .ok (.rt (.int (d % many))) (h.set r (bagO (d / many) m k)) := by
    show exs (ex C 60) takeF.body [some (.ref r), some (.int many), none, none] h = _
    unfold takeF
    simp only [exs_cons, exs_nil, ex_ite, ex_asg, ex_setIx, ex_ret, ev_cmp, ev_bin, ev_prim, ev_ix, ev_lit, ev_var', evs_cons, evs_nil, bind_ok, cat_ok, List.getElem?_cons_zero, List.getElem?_cons_succ, i0, hgt, truR_bool, if_true, prim_int', hmod, hdiv, asgT_name, List.set_cons_zero, List.set_cons_succ, st]
    rfl
  unfold runF runB
  rw [e1]
  rfl
/-- the draw from the mixed numbers -/
def mixI (m k many : Int) : Int := ((((m + 1000003 * k) ^ 3 % 2305843009213693921 + 15485863 * k) ^ 2 % 2305843009213693951) / 2048) % many
theorem smallI_of {a : Int} (h1 : -18446744073709551616 < a) (h2 : a < 18446744073709551616) : smallI a = true := by
  exact (ltB_iff (k := 64) (by decide)).mpr (by omega)
theorem mul_small {a b : Int} {h : MH} (h1 : -18446744073709551616 < a) (h2 : a < 18446744073709551616) : binD .Mult (.int a) (.int b) h = .ok (.int (a * b)) h := by
  show (if smallI a || smallI b then Res.ok (D.int (a * b)) h else .bad) = _
  rw [smallI_of h1 h2]; rfl
theorem mod_pos {a b : Int} {h : MH} (h1 : 0 < b) : binD .Mod (.int a) (.int b) h = .ok (.int (a % b)) h := by
  show (if 0 < b then Res.ok (D.int (a % b)) h else .bad) = _
  rw [if_pos h1]
theorem fdiv_pos {a b : Int} {h : MH} (h1 : 0 < b) (h2 : b < 1073741824) : binD .FloorDiv (.int a) (.int b) h = .ok (.int (a / b)) h := by
  show (if decide (0 < b) && ltB 30 b then Res.ok (D.int (a / b)) h else .bad) = _
  rw [decide_eq_true h1, (ltB_iff (k := 30) (by decide)).mpr (by omega)]; rfl
theorem pow_small {a b : Int} {h : MH} (h1 : 0 ≤ b) (h2 : b ≤ 500000) (h3 : a.natAbs < 2 ^ 64) : binD .Pow (.int a) (.int b) h = .ok (.int (a ^ b.toNat)) h := by
  show (if decide (0 ≤ b) && ltB 19 b && ltB 64 a then Res.ok (D.int (a ^ b.toNat)) h else .bad) = _
  rw [decide_eq_true h1, (ltB_iff (k := 19) (by decide)).mpr (by omega), (ltB_iff (k := 64) (by decide)).mpr h3]; rfl
theorem add_int {a b : Int} {h : MH} : binD .Add (.int a) (.int b) h = .ok (.int (a + b)) h := rfl
theorem take_small (C : Cal) (h : MH) (r : Nat) (d m k many : Int) (hg : h.get r = some (bagO d m k)) (hd : ¬ 0 < d) (h1 : 0 < many) (h2 : many < 1073741824) (hm0 : 0 ≤ m) (hm : m < 2305843009213693951) (hk0 : 0 ≤ k) (hk : k < 1000000) :
    runF C takeF [.ref r, .int many] h = .ok (.int (mixI m (k + 1) many)) (h.set r (bagO d m (k + 1))) := by
  unfold bagO at hg
  have i0 : ixD (.ref r) (.int 0) h = .ok (.int d) h := ix_list hg rfl
  have i2 : ixD (.ref r) (.int 2) h = .ok (.int k) h := ix_list hg rfl
  have hgt : cmpD .Gt (.int d) (.int 0) h = .ok (.bool false) h := by
    show Res.ok (D.bool (decide (d > 0))) h = _
    rw [decide_eq_false hd]
  have st : ∀ y, setIxD (.ref r) (.int 2) y h = .ok () (h.set r (.lst [.int d, .int m, y])) := fun y => setIx_list (j := 2) hg rfl
  have g1 : (h.set r (.lst [.int d, .int m, .int (k + 1)])).get r = some (.lst [.int d, .int m, .int (k + 1)]) := get_set_same hg
  have j1 : ixD (.ref r) (.int 1) (h.set r (.lst [.int d, .int m, .int (k + 1)])) = .ok (.int m) _ := ix_list g1 rfl
  have j2 : ixD (.ref r) (.int 2) (h.set r (.lst [.int d, .int m, .int (k + 1)])) = .ok (.int (k + 1)) _ := ix_list g1 rfl
  have p1 : ∀ h', binD .Pow (.int (m + 1000003 * (k + 1))) (.int 3) h' = .ok (.int ((m + 1000003 * (k + 1)) ^ 3)) h' := fun h' => pow_small (by decide) (by decide) (by omega)
  have hx0 : 0 ≤ (m + 1000003 * (k + 1)) ^ 3 % 2305843009213693921 := Int.emod_nonneg _ (by decide)
  have hx1 : (m + 1000003 * (k + 1)) ^ 3 % 2305843009213693921 < 2305843009213693921 := Int.emod_lt_of_pos _ (by decide)
  have p2 : ∀ h', binD .Pow (.int ((m + 1000003 * (k + 1)) ^ 3 % 2305843009213693921 + 15485863 * (k + 1))) (.int 2) h' = .ok (.int (((m + 1000003 * (k + 1)) ^ 3 % 2305843009213693921 + 15485863 * (k + 1)) ^ 2)) h' := fun h' => pow_small (by decide) (by decide) (by
    generalize (m + 1000003 * (k + 1)) ^ 3 % 2305843009213693921 = x at hx0 hx1
    omega)
  have e1 : exs (ex C 60) takeF.body (startM takeF.slots [.ref r, .int many]) h = .ok (.rt (.int (mixI m (k + 1) many))) (h.set r (bagO d m (k + 1))) := by
    show exs (ex C 60) takeF.body [some (.ref r), some (.int many), none, none] h = _
    unfold takeF
    simp only [exs_cons, exs_nil, ex_ite, ex_asg, ex_setIx, ex_ret, ev_cmp, ev_bin, ev_prim, ev_ix, ev_lit, ev_var', evs_cons, evs_nil, bind_ok, cat_ok, List.getElem?_cons_zero, List.getElem?_cons_succ, i0, i2, hgt, truR_bool, Bool.false_eq_true, if_false, prim_int', add_int, st, j1, j2, asgT_name, List.set_cons_zero, List.set_cons_succ,
      mul_small (a := 1000003) (by decide) (by decide), mul_small (a := 15485863) (by decide) (by decide), p1, p2, mod_pos (b := 2305843009213693921) (by decide), mod_pos (b := 2305843009213693951) (by decide), mod_pos h1, fdiv_pos (b := 2048) (by decide) (by decide)]
    rfl
  unfold runF runB
  rw [e1]
  rfl
/-- what a draw does: a number below many, the cell's list changed -/
theorem take_says (C : Cal) (h : MH) (r : Nat) (d m k many : Int) (hg : h.get r = some (bagO d m k)) (h1 : 0 < many) (h2 : many < 1073741824) (hm0 : 0 ≤ m) (hm : m < 2305843009213693951) (hk0 : 0 ≤ k) (hk : k < 1000000) :
    ∃ j d' k', 0 ≤ j ∧ j < many ∧ 0 ≤ k' ∧ k' ≤ k + 1 ∧ runF C takeF [.ref r, .int many] h = .ok (.int j) (h.set r (bagO d' m k')) := by
  by_cases hd : 0 < d
  · exact ⟨_, _, _, Int.emod_nonneg _ (by omega), Int.emod_lt_of_pos _ h1, hk0, by omega, take_big C h r d m k many hg hd h1 h2⟩
  · exact ⟨_, _, _, Int.emod_nonneg _ (by omega), Int.emod_lt_of_pos _ h1, by omega, Int.le_refl _, take_small C h r d m k many hg hd h1 h2 hm0 hm hk0 hk⟩
/-- _law_bag -/
def bagF : MF := ⟨4, [(.asg (.name 2) (.ite (.cmp .Lt (.var 1) (.prim .len [(.var 0)])) (.ix (.var 0) (.var 1)) (.lit (.int 0)))), (.asg (.name 3) (.ite (.cmp .GtE (.prim .abs [(.var 2)]) (.bin .Pow (.lit (.int 10)) (.lit (.int 18)))) (.prim .abs [(.var 2)]) (.lit (.int 0)))), (.ret (.lst false [(false, (.var 3)), (false, (.bin .Mod (.bin .Mult (.prim .int [(.bin .Add (.bin .Add (.bin .Mod (.prim .int [(.var 2)]) (.lit (.int 2305843009213693951))) (.bin .Mult (.lit (.int 9973)) (.var 1))) (.lit (.int 95)))]) (.lit (.int 5915587))) (.lit (.int 2305843009213693951)))), (false, (.lit (.int 0)))]))], false⟩
theorem prim_len' {ds : List D} {h : MH} : primD .len [.scr ds] h = .ok (.int ds.length) h := rfl
theorem prim_abs' {i : Int} {h : MH} : primD .abs [.int i] h = .ok (.int (if i < 0 then -i else i)) h := rfl
theorem cmp_lt {a b : Int} {h : MH} : cmpD .Lt (.int a) (.int b) h = .ok (.bool (decide (a < b))) h := rfl
theorem cmp_ge {a b : Int} {h : MH} : cmpD .GtE (.int a) (.int b) h = .ok (.bool (decide (a ≥ b))) h := rfl
theorem pow_10 {h : MH} : binD .Pow (.int 10) (.int 18) h = .ok (.int (10 ^ (18 : Int).toNat)) h := pow_small (by decide) (by decide) (by decide)
theorem new_3 {a b c : D} {h : MH} : newL [a, b, c] h = .ok (.ref h.next) (h.push (.lst [a, b, c])) := by
  unfold newL
  rw [if_pos (by show 3 ≤ sizeLine; rw [sizeLine_eq]; omega)]
theorem at_ints {ns : List Int} {at_ : Int} (h0 : 0 ≤ at_) (h1 : at_ < ns.length) : ∃ c, L2.atI (ns.map D.int) at_ = some (.int c) := by
  unfold L2.atI L2.ixN
  rw [List.length_map, if_pos h0, if_pos h1]
  have h2 : at_.toNat < ns.length := by omega
  refine ⟨ns[at_.toNat], ?_⟩
  show (ns.map D.int)[at_.toNat]? = _
  rw [List.getElem?_map, List.getElem?_eq_getElem h2]; rfl
theorem ix_scr {ds : List D} {j : Int} {y : D} {h : MH} (e : L2.atI ds j = some y) : ixD (.scr ds) (.int j) h = .ok y h := by
  show (match L2.atI ds j with | some d => Res.ok d h | Option.none => .bad) = _
  rw [e]
theorem bag_says (C : Cal) (h : MH) (ns : List Int) (at_ : Int) (h0 : 0 ≤ at_) (h1 : at_ < 1000000) : ∃ d m, 0 ≤ m ∧ m < 2305843009213693951 ∧ runF C bagF [.scr (ns.map .int), .int at_] h = .ok (.ref h.next) (h.push (bagO d m 0)) := by
  have key : ∀ c : Int, ∃ d m, 0 ≤ m ∧ m < 2305843009213693951 ∧ exs (ex C 60) (bagF.body.drop 1) [some (.scr (ns.map .int)), some (.int at_), some (.int c), none] h = .ok (.rt (.ref h.next)) (h.push (bagO d m 0)) := fun c => by
    refine ⟨if decide ((if c < 0 then -c else c) ≥ 10 ^ (18 : Int).toNat) = true then (if c < 0 then -c else c) else 0, (c % 2305843009213693951 + 9973 * at_ + 95) * 5915587 % 2305843009213693951, Int.emod_nonneg _ (by decide), Int.emod_lt_of_pos _ (by decide), ?_⟩
    have hx0 : 0 ≤ c % 2305843009213693951 := Int.emod_nonneg _ (by decide)
    have hx1 : c % 2305843009213693951 < 2305843009213693951 := Int.emod_lt_of_pos _ (by decide)
    have p1 : ∀ h', binD .Mult (.int (c % 2305843009213693951 + 9973 * at_ + 95)) (.int 5915587) h' = .ok (.int ((c % 2305843009213693951 + 9973 * at_ + 95) * 5915587)) h' := fun h' => mul_small (by omega) (by omega)
    unfold bagF
    by_cases hc : (if c < 0 then -c else c) ≥ 10 ^ (18 : Int).toNat
    · simp only [List.drop_succ_cons, List.drop_zero, exs_cons, exs_nil, ex_asg, ex_ret, ev_ite, ev_cmp, ev_bin, ev_prim, ev_lit, ev_var', ev_lst, evStar, evs_cons, evs_nil, bind_ok, cat_ok, List.getElem?_cons_zero, List.getElem?_cons_succ, truR_bool, prim_int', prim_abs', add_int, cmp_ge, pow_10, decide_eq_true hc, if_true, asgT_name, List.set_cons_zero, List.set_cons_succ,
        mul_small (a := 9973) (by decide) (by decide), p1, mod_pos (b := 2305843009213693951) (by decide), Bool.false_eq_true, if_false, new_3]
      rfl
    · simp only [List.drop_succ_cons, List.drop_zero, exs_cons, exs_nil, ex_asg, ex_ret, ev_ite, ev_cmp, ev_bin, ev_prim, ev_lit, ev_var', ev_lst, evStar, evs_cons, evs_nil, bind_ok, cat_ok, List.getElem?_cons_zero, List.getElem?_cons_succ, truR_bool, prim_int', prim_abs', add_int, cmp_ge, pow_10, decide_eq_false hc, Bool.false_eq_true, if_false, asgT_name, List.set_cons_zero, List.set_cons_succ,
        mul_small (a := 9973) (by decide) (by decide), p1, mod_pos (b := 2305843009213693951) (by decide), new_3]
      rfl
  have fst : ∃ c : Int, ex C 60 (bagF.body.head!) [some (.scr (ns.map .int)), some (.int at_), none, none] h = .ok (.nx [some (.scr (ns.map .int)), some (.int at_), some (.int c), none]) h := by
    unfold bagF
    by_cases hc : at_ < (ns.map D.int).length
    · obtain ⟨c, ec⟩ := at_ints (ns := ns) h0 (by rw [List.length_map] at hc; exact hc)
      refine ⟨c, ?_⟩
      simp only [List.head!, ex_asg, ev_ite, ev_cmp, ev_prim, ev_ix, ev_lit, ev_var', evs_cons, evs_nil, bind_ok, cat_ok, List.getElem?_cons_zero, List.getElem?_cons_succ, truR_bool, prim_len', cmp_lt, decide_eq_true hc, if_true, ix_scr ec, asgT_name, List.set_cons_zero, List.set_cons_succ]
    · refine ⟨0, ?_⟩
      simp only [List.head!, ex_asg, ev_ite, ev_cmp, ev_prim, ev_ix, ev_lit, ev_var', evs_cons, evs_nil, bind_ok, cat_ok, List.getElem?_cons_zero, List.getElem?_cons_succ, truR_bool, prim_len', cmp_lt, decide_eq_false hc, Bool.false_eq_true, if_false, asgT_name, List.set_cons_zero, List.set_cons_succ]
  obtain ⟨c, e1⟩ := fst
  obtain ⟨d, m, q1, q2, e2⟩ := key c
  refine ⟨d, m, q1, q2, ?_⟩
  have e3 : exs (ex C 60) bagF.body (startM bagF.slots [.scr (ns.map .int), .int at_]) h = .ok (.rt (.ref h.next)) (h.push (bagO d m 0)) := by
    show (ex C 60 (bagF.body.head!) [some (.scr (ns.map .int)), some (.int at_), none, none] h).bind _ = _
    rw [e1]
    exact e2
  unfold runF runB
  rw [e3]
  rfl
theorem callf_plain {C : Cal} {i : Nat} {ds : List D} {h : MH} (hk : (C.sig i).ks = []) (hv : (C.sig i).va = false) (hw : (C.sig i).kw = false) (hl : ds.length = (C.sig i).ps.length) : C.callf i ds [] h = C.fn i ds h := by
  unfold Cal.callf bindD
  rw [hk, hv, hw, decide_eq_true hl]
  rfl
def BagO (o : MO) (n : Nat) : Prop := ∃ d m k : Int, o = bagO d m k ∧ 0 ≤ m ∧ m < 2305843009213693951 ∧ 0 ≤ k ∧ k + n < 1000000
theorem BagO.le {o : MO} {n m : Nat} (h : BagO o n) (hm : m ≤ n) : BagO o m := by
  obtain ⟨d, x, k, h1, h2, h3, h4, h5⟩ := h
  exact ⟨d, x, k, h1, h2, h3, h4, by omega⟩
theorem take_bag (C : Cal) {h : MH} {r n : Nat} {o : MO} (many : Int) (hg : h.get r = some o) (B : BagO o (n + 1)) (h1 : 0 < many) (h2 : many < 1073741824) :
    ∃ (j : Nat) (o' : MO), (j : Int) < many ∧ BagO o' n ∧ runF C takeF [.ref r, .int many] h = .ok (.int j) (h.set r o') := by
  obtain ⟨d, m, k, rfl, b1, b2, b3, b4⟩ := B
  obtain ⟨j, d', k', q1, q2, q3, q4, e⟩ := take_says C h r d m k many hg h1 h2 b1 b2 b3 (by omega)
  refine ⟨j.toNat, bagO d' m k', by omega, ⟨d', m, k', rfl, b1, b2, q3, by omega⟩, ?_⟩
  rw [show ((j.toNat : Nat) : Int) = j by omega]
  exact e
theorem bag_bag (C : Cal) (h : MH) (ns : List Int) (at_ : Int) (h0 : 0 ≤ at_) (h1 : at_ < 1000000) : ∃ o, BagO o 999999 ∧ runF C bagF [.scr (ns.map .int), .int at_] h = .ok (.ref h.next) (h.push o) := by
  obtain ⟨d, m, q1, q2, e⟩ := bag_says C h ns at_ h0 h1
  exact ⟨_, ⟨d, m, 0, rfl, q1, q2, by decide, by decide⟩, e⟩
/-- _law_of, the t-th def the draw -/
def ofF (t : Nat) : MF := ⟨2, [(.ret (.ix (.var 1) (.call t [(.var 0), (.prim .len [(.var 1)])])))], false⟩
theorem atI_nat {xs : List D} {j : Nat} {x : D} (e : xs[j]? = some x) : L2.atI xs j = some x := by
  obtain ⟨hj, _⟩ := List.getElem?_eq_some_iff.mp e
  unfold L2.atI L2.ixN
  rw [if_pos (by omega), if_pos (by omega)]
  simpa using e
/-- a drawn item of a list that nobody writes -/
theorem of_bag (C C' : Cal) (t : Nat) (hC : ∀ a b h, C.callf t [a, b] [] h = runF C' takeF [a, b] h) {h : MH} {b n : Nat} {o : MO} (xs : List D) (hg : h.get b = some o) (B : BagO o (n + 1)) (hx : 0 < xs.length) (hz : xs.length < 1073741824) :
    ∃ (j : Nat) (x : D) (o' : MO), xs[j]? = some x ∧ BagO o' n ∧ runF C (ofF t) [.ref b, .flst xs] h = .ok x (h.set b o') := by
  obtain ⟨j, o', q1, q2, e⟩ := take_bag C' xs.length hg B (by omega) (by omega)
  have hj : j < xs.length := by omega
  refine ⟨j, xs[j], o', List.getElem?_eq_getElem hj, q2, ?_⟩
  have ea := atI_nat (List.getElem?_eq_getElem hj)
  have el : primD .len [.flst xs] h = .ok (.int xs.length) h := rfl
  have ei : ixD (.flst xs) (.int j) (h.set b o') = .ok xs[j] (h.set b o') := by
    show (match L2.atI xs j with | some d => Res.ok d (h.set b o') | Option.none => .bad) = _
    rw [ea]
  have e1 : exs (ex C 60) (ofF t).body (startM (ofF t).slots [.ref b, .flst xs]) h = .ok (.rt xs[j]) (h.set b o') := by
    show exs (ex C 60) (ofF t).body [some (.ref b), some (.flst xs)] h = _
    unfold ofF
    simp only [exs_cons, ex_ret, ev_ix, ev_call, ev_prim, ev_var', evs_cons, evs_nil, bind_ok, cat_ok, List.getElem?_cons_zero, List.getElem?_cons_succ, el, hC, e, ei]
  unfold runF runB
  rw [e1]
  rfl
theorem MH.push_set {h : MH} {o o' : MO} : (h.push o).set h.next o' = h.push o' := by
  show (⟨h.next + 1, setO ((h.next, o) :: h.objs) h.next o'⟩ : MH) = ⟨h.next + 1, (h.next, o') :: h.objs⟩
  unfold setO
  rw [if_pos rfl]
theorem setO_setO : ∀ (l : List (Nat × MO)) (n : Nat) (a b : MO), setO (setO l n a) n b = setO l n b
  | [], _, _, _ => rfl
  | (m, x) :: r, n, a, b => by
    have c : ∀ (y o : MO) (t : List (Nat × MO)), setO ((m, y) :: t) n o = if m = n then (m, o) :: t else (m, y) :: setO t n o := fun _ _ _ => rfl
    rw [c, c]
    by_cases e : m = n
    · rw [if_pos e, if_pos e, c, if_pos e]
    · rw [if_neg e, if_neg e, c, if_neg e, setO_setO r n a b]
theorem MH.set_set {h : MH} {n : Nat} {a b : MO} : (h.set n a).set n b = h.set n b := by
  show (⟨h.next, setO (setO h.objs n a) n b⟩ : MH) = ⟨h.next, setO h.objs n b⟩
  rw [setO_setO]
theorem MH.get_push_new {h : MH} {o : MO} : (h.push o).get h.next = some o := by rw [MH.get_push, if_pos rfl]
theorem ex_for {C : Cal} {n : Nat} {t : MT} {k : IK} {its : List ME} {body : List MS} {ms : MSt} {h : MH} : ex C (n + 1) (.for_ t k its body) ms h = (evs (fun e h => ev C n e ms h) its h).cat ms fun ds h => match iterOf k ds h with
      | none => .bad
      | some it => forL it (turnF (asgT n) (exs (ex C n) body) t) (it.len h + 1) 0 ms h := rfl
theorem iter_range1 {j : Int} {h : MH} (h0 : 0 ≤ j) (h1 : j < 1000000) : iterOf .range1 [.int j] h = some (.rng 0 j.toNat) := by
  have e : ltB 61 j = true := (ltB_iff (by decide)).mpr (by omega)
  unfold iterOf
  simp only [e, if_true]
theorem rng_at {lo : Int} {n i : Nat} {h : MH} (hi : i < n) : (MIt.rng lo n).at i h = some (some (.int (lo + i))) := by
  show some (if i < n then some (D.int (lo + i)) else none) = _
  rw [if_pos hi]
theorem rng_end {lo : Int} {n : Nat} {h : MH} : (MIt.rng lo n).at n h = some none := by
  show some (if n < n then some (D.int (lo + n)) else none) = _
  rw [if_neg (Nat.lt_irrefl _)]
theorem forL_inv {it : MIt} {turn : D → MSt → MH → Res Flow} (P : Nat → MSt → MH → Prop) {N : Nat} (step : ∀ i ms h, P i ms h → i < N → ∃ d ms' h', it.at i h = some (some d) ∧ turn d ms h = .ok (.nx ms') h' ∧ P (i + 1) ms' h') (fin : ∀ ms h, P N ms h → it.at N h = some none) :
    ∀ (k i : Nat) (ms : MSt) (h : MH), i + k = N → P i ms h → ∃ ms' h', forL it turn (k + 1) i ms h = .ok (.nx ms') h' ∧ P N ms' h'
  | 0, i, ms, h, e, p => by
    have e : i = N := by omega
    subst e
    refine ⟨ms, h, ?_, p⟩
    rw [forL, fin ms h p]
  | k + 1, i, ms, h, e, p => by
    obtain ⟨d, ms1, h1, e1, e2, p1⟩ := step i ms h p (by omega)
    obtain ⟨ms2, h2, e3, p2⟩ := forL_inv P step fin k (i + 1) ms1 h1 (by omega) p1
    refine ⟨ms2, h2, ?_, p2⟩
    rw [← e3, forL, e1]
    show (turn d ms h).bind _ = _
    rw [e2]
    rfl
end R
namespace R.Law
open PySem R
def st (i : Nat) : Stmt := (PySem.Challenge.pw_oldpages_k06_errors_alone.main.body)[i]?.getD (.Pass ⟨0, 0, 0, 0⟩)
def s0_0 : MS := (.asg (.name 2) (.ite (.cmp .Lt (.var 1) (.prim .len [(.var 0)])) (.ix (.var 0) (.var 1)) (.lit (.int 0))))
def s0_1 : MS := (.asg (.name 3) (.ite (.cmp .GtE (.prim .abs [(.var 2)]) (.bin .Pow (.lit (.int 10)) (.lit (.int 18)))) (.prim .abs [(.var 2)]) (.lit (.int 0))))
def s0_2 : MS := (.ret (.lst false [(false, (.var 3)), (false, (.bin .Mod (.bin .Mult (.prim .int [(.bin .Add (.bin .Add (.bin .Mod (.prim .int [(.var 2)]) (.lit (.int 2305843009213693951))) (.bin .Mult (.lit (.int 9973)) (.var 1))) (.lit (.int 95)))]) (.lit (.int 5915587))) (.lit (.int 2305843009213693951)))), (false, (.lit (.int 0)))]))
def m0 : MF := ⟨4, [s0_0, s0_1, s0_2], false⟩
def s1_0 : MS := (.ite (.cmp .Gt (.ix (.var 0) (.lit (.int 0))) (.lit (.int 0))) [(.asg (.name 3) (.bin .Mod (.prim .int [(.ix (.var 0) (.lit (.int 0)))]) (.var 1))), (.setIx (.var 0) (.lit (.int 0)) (.bin .FloorDiv (.ix (.var 0) (.lit (.int 0))) (.var 1))), (.ret (.var 3))] [])
def s1_1 : MS := (.setIx (.var 0) (.lit (.int 2)) (.bin .Add (.ix (.var 0) (.lit (.int 2))) (.lit (.int 1))))
def s1_2 : MS := (.asg (.name 2) (.bin .Mod (.prim .int [(.bin .Pow (.bin .Add (.ix (.var 0) (.lit (.int 1))) (.bin .Mult (.lit (.int 1000003)) (.ix (.var 0) (.lit (.int 2))))) (.lit (.int 3)))]) (.lit (.int 2305843009213693921))))
def s1_3 : MS := (.asg (.name 2) (.bin .Mod (.prim .int [(.bin .Pow (.bin .Add (.var 2) (.bin .Mult (.lit (.int 15485863)) (.ix (.var 0) (.lit (.int 2))))) (.lit (.int 2)))]) (.lit (.int 2305843009213693951))))
def s1_4 : MS := (.ret (.bin .Mod (.prim .int [(.bin .FloorDiv (.var 2) (.lit (.int 2048)))]) (.var 1)))
def m1 : MF := ⟨4, [s1_0, s1_1, s1_2, s1_3, s1_4], false⟩
def s2_0 : MS := (.ret (.ix (.var 1) (.call 1 [(.var 0), (.prim .len [(.var 1)])])))
def m2 : MF := ⟨2, [s2_0], false⟩
def s3_0 : MS := (.asg (.name 1) (.lst true [(false, (.mkx 0 "field" (.var 0))), (false, (.mkx 1 "index" (.var 0))), (false, (.mkx 2 "index" (.var 0))), (false, (.mkx 3 "index" (.var 0))), (false, (.mkx 4 "index" (.var 0))), (false, (.mkx 5 "name" (.var 0)))]))
def s3_1 : MS := (.ret (.bin .Add (.var 1) (.lst true [(false, (.mkx 6 "number" (.var 0))), (false, (.mkx 7 "index" (.var 0))), (false, (.mkx 8 "value" (.var 0))), (false, (.mkx 12 "most" (.var 0)))])))
def m3 : MF := ⟨2, [s3_0, s3_1], false⟩
def s4_0 : MS := (.asg (.name 1) (.lst true [(false, (.isi (.var 0) (.lit (.cl 0)))), (false, (.isi (.var 0) (.lit (.cl 1)))), (false, (.isi (.var 0) (.lit (.cl 2))))]))
def s4_1 : MS := (.asg (.name 1) (.bin .Add (.var 1) (.lst true [(false, (.isi (.var 0) (.lit (.cl 3)))), (false, (.isi (.var 0) (.lit (.cl 4)))), (false, (.isi (.var 0) (.lit (.cl 5))))])))
def s4_2 : MS := (.asg (.name 1) (.bin .Add (.var 1) (.lst true [(false, (.isi (.var 0) (.lit (.cl 6)))), (false, (.isi (.var 0) (.lit (.cl 7)))), (false, (.isi (.var 0) (.lit (.cl 8))))])))
def s4_3 : MS := (.asg (.name 1) (.bin .Add (.var 1) (.lst true [(false, (.isi (.var 0) (.lit (.cl 12)))), (false, (.isi (.var 0) (.lit (.cl 10))))])))
def s4_4 : MS := (.ret (.bin .Add (.var 1) (.lst true [(false, (.isi (.var 0) (.lit (.cl 9)))), (false, (.isi (.var 0) (.lit (.cl 11))))])))
def m4 : MF := ⟨2, [s4_0, s4_1, s4_2, s4_3, s4_4], false⟩
def s5_0 : MS := (.asg (.name 1) (.lst true [(false, (.isi (.var 0) (.lit (.ty "ValueError")))), (false, (.isi (.var 0) (.lit (.ty "KeyError")))), (false, (.isi (.var 0) (.lit (.ty "IndexError"))))]))
def s5_1 : MS := (.asg (.name 1) (.bin .Add (.var 1) (.lst true [(false, (.isi (.var 0) (.lit (.ty "LookupError")))), (false, (.isi (.var 0) (.lit (.ty "RuntimeError")))), (false, (.isi (.var 0) (.lit (.ty "TypeError"))))])))
def s5_2 : MS := (.ret (.bin .Add (.var 1) (.lst true [(false, (.isi (.var 0) (.lit (.ty "OverflowError")))), (false, (.isi (.var 0) (.lit (.ty "ArithmeticError"))))])))
def m5 : MF := ⟨2, [s5_0, s5_1, s5_2], false⟩
def s6_0 : MS := (.ret (.lc true (.cmp .In (.var 1) (.var 0)) (.name 1) .range1 [(.lit (.int 8))] [] [1]))
def m6 : MF := ⟨2, [s6_0], false⟩
def s7_0 : MS := (.asg (.name 1) (.bin .Add (.bin .Mult (.lst true [(false, (.lst true [(false, (.lit (.int 0)))]))]) (.lit (.int 5))) (.lst true [(false, (.lst true [(false, (.lit (.int 1))), (false, (.lit (.int 3)))])), (false, (.lst true [(false, (.lit (.int 2))), (false, (.lit (.int 3)))])), (false, (.lst true [(false, (.lit (.int 3)))])), (false, (.lst true [(false, (.lit (.int 3)))])), (false, (.lst true [(false, (.lit (.int 6))), (false, (.lit (.int 7)))])), (false, (.lst true [(false, (.lit (.int 4)))])), (false, (.lst true [(false, (.lit (.int 4)))])), (false, (.lst true [(false, (.lit (.int 5)))]))])))
def fb7_0 : List MS := [(.ite (.cmp .NotEq (.call 4 [(.ix (.var 5) (.var 7))]) (.lc true (.cmp .Eq (.var 8) (.var 7)) (.name 8) .range1 [(.lit (.int 13))] [] [8])) [(.ret (.lit (.bool false)))] []), (.ite (.cmp .NotEq (.call 5 [(.ix (.var 5) (.var 7))]) (.call 6 [(.ix (.var 1) (.var 7))])) [(.ret (.lit (.bool false)))] [])]
def fb7_1 : List MS := [(.asg (.name 3) (.call 0 [(.var 0), (.var 2)])), (.asg (.name 4) (.call 2 [(.var 3), (.lst true [(false, (.lit .none)), (false, (.lit (.int 0))), (false, (.neg (.lit (.int 1)))), (false, (.lit (.str "a"))), (false, (.tup [(false, (.lit (.str "a"))), (false, (.lit (.int 1)))])), (false, (.lst true [(false, (.lit (.str "x")))])), (false, (.lit (.bool true))), (false, (.bin .Pow (.lit (.int 10)) (.lit (.int 30)))), (false, (.lit (.str "")))])])), (.asg (.name 5) (.call 3 [(.var 4)])), (.asg (.name 6) (.lst true [(false, (.attr (.ix (.var 5) (.lit (.int 0))) "field")), (false, (.attr (.ix (.var 5) (.lit (.int 1))) "index")), (false, (.attr (.ix (.var 5) (.lit (.int 2))) "index")), (false, (.attr (.ix (.var 5) (.lit (.int 3))) "index")), (false, (.attr (.ix (.var 5) (.lit (.int 4))) "index"))])), (.asg (.name 6) (.bin .Add (.var 6) (.lst true [(false, (.attr (.ix (.var 5) (.lit (.int 5))) "name")), (false, (.attr (.ix (.var 5) (.lit (.int 6))) "number")), (false, (.attr (.ix (.var 5) (.lit (.int 7))) "index")), (false, (.attr (.ix (.var 5) (.lit (.int 8))) "value")), (false, (.attr (.ix (.var 5) (.lit (.int 9))) "most"))]))), (.ite (.cmp .NotEq (.prim .repr [(.var 6)]) (.prim .repr [(.bin .Mult (.lst true [(false, (.var 4))]) (.lit (.int 10)))])) [(.ret (.lit (.bool false)))] []), (.asg (.name 5) (.bin .Add (.var 5) (.lst true [(false, (.mkx0 10)), (false, (.mkx0 9)), (false, (.mkx0 11))]))), (.for_ (.name 7) .range1 [(.lit (.int 13))] fb7_0)]
def s7_1 : MS := (.for_ (.name 2) .range1 [(.prim .max2 [(.lit (.int 1)), (.prim .min2 [(.lit (.int 2)), (.prim .len [(.var 0)])])])] fb7_1)
def s7_2 : MS := (.ret (.lit (.bool true)))
def m7 : MF := ⟨9, [s7_0, s7_1, s7_2], false⟩
def d0 : PD := ⟨("_law_bag", none), "_law_bag", st 15, ["_law_script", "_law_at", "_law_cell", "_law_digits"], ["_law_script", "_law_at"], false, m0, ⟨["_law_script", "_law_at"], [], false, false, [], []⟩⟩
def d1 : PD := ⟨("_law_take", none), "_law_take", st 16, ["_law_bag_here", "_law_many", "_law_mixed", "_law_digit"], ["_law_bag_here", "_law_many"], false, m1, ⟨["_law_bag_here", "_law_many"], [], false, false, [], []⟩⟩
def d2 : PD := ⟨("_law_of", none), "_law_of", st 17, ["_law_bag_here", "_law_some"], ["_law_bag_here", "_law_some"], false, m2, ⟨["_law_bag_here", "_law_some"], [], false, false, [], []⟩⟩
def d3 : PD := ⟨("_law_made", none), "_law_made", st 18, ["_law_value", "_law_found"], ["_law_value"], false, m3, ⟨["_law_value"], [], false, false, [], []⟩⟩
def d4 : PD := ⟨("_law_kinds", none), "_law_kinds", st 19, ["_law_error", "_law_found"], ["_law_error"], false, m4, ⟨["_law_error"], [], false, false, [], []⟩⟩
def d5 : PD := ⟨("_law_bases", none), "_law_bases", st 20, ["_law_error", "_law_found"], ["_law_error"], false, m5, ⟨["_law_error"], [], false, false, [], []⟩⟩
def d6 : PD := ⟨("_law_due_bases", none), "_law_due_bases", st 21, ["_law_spots", "_law_spot"], ["_law_spots"], false, m6, ⟨["_law_spots"], [], false, false, [], []⟩⟩
def d7 : PD := ⟨("law", none), "law", st 22, ["_law_script", "_law_bases_here", "_law_at", "_law_bag_here", "_law_value", "_law_errors", "_law_fields", "_law_spot", "_law_one"], ["_law_script"], true, m7, ⟨["_law_script"], [], false, false, [], []⟩⟩
def plan : Plan := ⟨[d0, d1, d2, d3, d4, d5, d6, d7],
  [⟨"BadText", "ValueError", (some "field")⟩, ⟨"BadFile", "ValueError", (some "index")⟩, ⟨"BadDeed", "ValueError", (some "index")⟩, ⟨"BadRow", "ValueError", (some "index")⟩, ⟨"BadChange", "ValueError", (some "index")⟩, ⟨"NoFile", "KeyError", (some "name")⟩, ⟨"NoPage", "IndexError", (some "number")⟩, ⟨"NoText", "LookupError", (some "index")⟩, ⟨"NoSight", "LookupError", (some "value")⟩, ⟨"Unlike", "RuntimeError", none⟩, ⟨"NothingToUndo", "RuntimeError", none⟩, ⟨"NoCommand", "TypeError", none⟩, ⟨"TooMany", "OverflowError", (some "most")⟩],
  [],
  ["ArithmeticError", "IndexError", "KeyError", "LookupError", "OverflowError", "RuntimeError", "TypeError", "ValueError", "abs", "int", "isinstance", "len", "max", "min", "range", "repr"],
  [([true, false, false, false, false, false, false, false, false, false, false, false, false], [("ValueError", true), ("KeyError", false), ("IndexError", false), ("LookupError", false), ("RuntimeError", false), ("TypeError", false), ("OverflowError", false), ("ArithmeticError", false), ("int", false)]), ([false, true, false, false, false, false, false, false, false, false, false, false, false], [("ValueError", true), ("KeyError", false), ("IndexError", false), ("LookupError", false), ("RuntimeError", false), ("TypeError", false), ("OverflowError", false), ("ArithmeticError", false), ("int", false)]), ([false, false, true, false, false, false, false, false, false, false, false, false, false], [("ValueError", true), ("KeyError", false), ("IndexError", false), ("LookupError", false), ("RuntimeError", false), ("TypeError", false), ("OverflowError", false), ("ArithmeticError", false), ("int", false)]), ([false, false, false, true, false, false, false, false, false, false, false, false, false], [("ValueError", true), ("KeyError", false), ("IndexError", false), ("LookupError", false), ("RuntimeError", false), ("TypeError", false), ("OverflowError", false), ("ArithmeticError", false), ("int", false)]), ([false, false, false, false, true, false, false, false, false, false, false, false, false], [("ValueError", true), ("KeyError", false), ("IndexError", false), ("LookupError", false), ("RuntimeError", false), ("TypeError", false), ("OverflowError", false), ("ArithmeticError", false), ("int", false)]), ([false, false, false, false, false, true, false, false, false, false, false, false, false], [("ValueError", false), ("KeyError", true), ("IndexError", false), ("LookupError", true), ("RuntimeError", false), ("TypeError", false), ("OverflowError", false), ("ArithmeticError", false), ("int", false)]), ([false, false, false, false, false, false, true, false, false, false, false, false, false], [("ValueError", false), ("KeyError", false), ("IndexError", true), ("LookupError", true), ("RuntimeError", false), ("TypeError", false), ("OverflowError", false), ("ArithmeticError", false), ("int", false)]), ([false, false, false, false, false, false, false, true, false, false, false, false, false], [("ValueError", false), ("KeyError", false), ("IndexError", false), ("LookupError", true), ("RuntimeError", false), ("TypeError", false), ("OverflowError", false), ("ArithmeticError", false), ("int", false)]), ([false, false, false, false, false, false, false, false, true, false, false, false, false], [("ValueError", false), ("KeyError", false), ("IndexError", false), ("LookupError", true), ("RuntimeError", false), ("TypeError", false), ("OverflowError", false), ("ArithmeticError", false), ("int", false)]), ([false, false, false, false, false, false, false, false, false, true, false, false, false], [("ValueError", false), ("KeyError", false), ("IndexError", false), ("LookupError", false), ("RuntimeError", true), ("TypeError", false), ("OverflowError", false), ("ArithmeticError", false), ("int", false)]), ([false, false, false, false, false, false, false, false, false, false, true, false, false], [("ValueError", false), ("KeyError", false), ("IndexError", false), ("LookupError", false), ("RuntimeError", true), ("TypeError", false), ("OverflowError", false), ("ArithmeticError", false), ("int", false)]), ([false, false, false, false, false, false, false, false, false, false, false, true, false], [("ValueError", false), ("KeyError", false), ("IndexError", false), ("LookupError", false), ("RuntimeError", false), ("TypeError", true), ("OverflowError", false), ("ArithmeticError", false), ("int", false)]), ([false, false, false, false, false, false, false, false, false, false, false, false, true], [("ValueError", false), ("KeyError", false), ("IndexError", false), ("LookupError", false), ("RuntimeError", false), ("TypeError", false), ("OverflowError", true), ("ArithmeticError", true), ("int", false)])],
  [(52, 11)]⟩
theorem c0 : (cBody (plan.pl.sc d0.di) (L2.defBody d0.st)).1 = d0.mf.body := by kernel_rfl
theorem c1 : (cBody (plan.pl.sc d1.di) (L2.defBody d1.st)).1 = d1.mf.body := by kernel_rfl
theorem c2 : (cBody (plan.pl.sc d2.di) (L2.defBody d2.st)).1 = d2.mf.body := by kernel_rfl
theorem c3 : (cBody (plan.pl.sc d3.di) (L2.defBody d3.st)).1 = d3.mf.body := by kernel_rfl
theorem c4 : (cBody (plan.pl.sc d4.di) (L2.defBody d4.st)).1 = d4.mf.body := by kernel_rfl
theorem c5 : (cBody (plan.pl.sc d5.di) (L2.defBody d5.st)).1 = d5.mf.body := by kernel_rfl
theorem c6 : (cBody (plan.pl.sc d6.di) (L2.defBody d6.st)).1 = d6.mf.body := by kernel_rfl
theorem c7 : (cBody (plan.pl.sc d7.di) (L2.defBody d7.st)).1 = d7.mf.body := by kernel_rfl
theorem comp : compD plan plan.defs := ⟨c0, c1, c2, c3, c4, c5, c6, c7, trivial⟩
theorem stat : plan.stat = true := by decide +kernel
end R.Law
-- def 0 _law_bag
-- def 1 _law_take
-- def 2 _law_of
-- def 3 _law_made
-- def 4 _law_kinds
-- def 5 _law_bases
-- def 6 _law_due_bases
-- def 7 law
-- class 0 BadText
-- class 1 BadFile
-- class 2 BadDeed
-- class 3 BadRow
-- class 4 BadChange
-- class 5 NoFile
-- class 6 NoPage
-- class 7 NoText
-- class 8 NoSight
-- class 9 Unlike
-- class 10 NothingToUndo
-- class 11 NoCommand
-- class 12 TooMany
namespace R.Law
open PySem R
abbrev C9 : Cal := cal plan.mp 9
abbrev C8 : Cal := cal plan.mp 8
abbrev tb : List MS := fb7_1
def items : List D := [.none, .int 0, .int (-1), .str "a", .tup [.str "a", .int 1], .flst [.str "x"], .bool true, .int (10 ^ 30), .str ""]
def bA : D := .flst [.flst [.int 0], .flst [.int 0], .flst [.int 0], .flst [.int 0], .flst [.int 0], .flst [.int 1, .int 3], .flst [.int 2, .int 3], .flst [.int 3], .flst [.int 3], .flst [.int 6, .int 7], .flst [.int 4], .flst [.int 4], .flst [.int 5]]
theorem f0 (a b : D) (h : MH) : C9.callf 0 [a, b] [] h = runF C8 bagF [a, b] h := rfl
theorem f2 (a b : D) (h : MH) : C9.callf 2 [a, b] [] h = runF C8 (ofF 1) [a, b] h := rfl
theorem f1 (a b : D) (h : MH) : C8.callf 1 [a, b] [] h = runF (cal plan.mp 7) takeF [a, b] h := rfl
def its9 : ME := match fb7_1 with
  | _ :: .asg _ (.call _ [_, l]) :: _ => l
  | _ => .bad
def msOf : Res Flow → MSt
  | .ok (.nx ms) _ => ms
  | _ => []
/-- the rest of a turn, by the drawn value -/
def restR (x0 x1 x2 x3 x5 x6 x7 x8 : Option D) (x : D) (h : MH) : Res Flow := exs (ex C9 59) (tb.drop 2) [x0, x1, x2, x3, some x, x5, x6, x7, x8] h
def msR (x0 x1 : Option D) (r : Res Flow) : MSt := [x0, x1, (msOf r)[2]?.getD none, (msOf r)[3]?.getD none, (msOf r)[4]?.getD none, (msOf r)[5]?.getD none, (msOf r)[6]?.getD none, (msOf r)[7]?.getD none, (msOf r)[8]?.getD none]
theorem rest_ok (x0 x2 x3 x5 x6 x7 x8 : Option D) (j : Nat) (x : D) (e : items[j]? = some x) (h : MH) : ∃ y2 y3 y4 y5 y6 y7 y8, restR x0 (some bA) x2 x3 x5 x6 x7 x8 x h = .ok (.nx [x0, some bA, y2, y3, y4, y5, y6, y7, y8]) h := by
  have key : restR x0 (some bA) x2 x3 x5 x6 x7 x8 x h = .ok (.nx (msR x0 (some bA) (restR x0 (some bA) x2 x3 x5 x6 x7 x8 x h))) h := by
    match j, e with
    | 0, e => cases e; kernel_rfl
    | 1, e => cases e; kernel_rfl
    | 2, e => cases e; kernel_rfl
    | 3, e => cases e; kernel_rfl
    | 4, e => cases e; kernel_rfl
    | 5, e => cases e; kernel_rfl
    | 6, e => cases e; kernel_rfl
    | 7, e => cases e; kernel_rfl
    | 8, e => cases e; kernel_rfl
    | n + 9, e => cases e
  exact ⟨_, _, _, _, _, _, _, key⟩
end R.Law
namespace R.Law
open PySem R
/-- a turn -/
theorem turn_ok (ns : List Int) (at_ : Int) (h0 : 0 ≤ at_) (h1 : at_ < 1000000) (h : MH) (x3 x4 x5 x6 x7 x8 : Option D) :
    ∃ h' y2 y3 y4 y5 y6 y7 y8, exs (ex C9 59) tb [some (.scr (ns.map .int)), some bA, some (.int at_), x3, x4, x5, x6, x7, x8] h = .ok (.nx [some (.scr (ns.map .int)), some bA, y2, y3, y4, y5, y6, y7, y8]) h' := by
  obtain ⟨o, B, e⟩ := bag_bag C8 h ns at_ h0 h1
  have hit : ∀ ms h, ev C9 57 its9 ms h = .ok (.flst items) h := fun ms h => by kernel_rfl
  obtain ⟨j, x, o', r1, r2, e2⟩ := of_bag C8 (cal plan.mp 7) 1 f1 items (MH.get_push_new (h := h)) B (by decide) (by decide)
  obtain ⟨y2, y3, y4, y5, y6, y7, y8, e3⟩ := rest_ok (some (.scr (ns.map .int))) (some (.int at_)) (some (.ref h.next)) x5 x6 x7 x8 j x r1 ((h.push o).set h.next o')
  refine ⟨(h.push o).set h.next o', y2, y3, y4, y5, y6, y7, y8, ?_⟩
  rw [← e3]
  have htb : tb = .asg (.name 3) (.call 0 [.var 0, .var 2]) :: .asg (.name 4) (.call 2 [.var 3, its9]) :: tb.drop 2 := rfl
  rw [htb]
  simp only [exs_cons, ex_asg, ev_call, ev_var', evs_cons, evs_nil, bind_ok, cat_ok, List.getElem?_cons_zero, List.getElem?_cons_succ, f0, e, asgT_name, List.set_cons_zero, List.set_cons_succ, hit, f2, e2]
  rfl
end R.Law
namespace R.Law
open PySem R
def mx : ME := .prim .max2 [(.lit (.int 1)), (.prim .min2 [(.lit (.int 2)), (.prim .len [(.var 0)])])]
def ms0 (ns : List Int) : MSt := [some (.scr (ns.map .int)), some bA, none, none, none, none, none, none, none]
theorem fst (ns : List Int) : ex C9 60 s7_0 (startM 9 [.scr (ns.map .int)]) ⟨0, []⟩ = .ok (.nx (ms0 ns)) ⟨0, []⟩ := by kernel_rfl
theorem mx_ok (ns : List Int) : ∃ m : Nat, m ≤ 2 ∧ (∀ C n, ev C (n + 4) mx (ms0 ns) ⟨0, []⟩ = .ok (.int m) ⟨0, []⟩) := by
    refine ⟨max 1 (min 2 ns.length), by omega, fun C n => ?_⟩
    have e1 : primD .len [.scr (ns.map .int)] ⟨0, []⟩ = .ok (.int ns.length) ⟨0, []⟩ := by
      show Res.ok (D.int (ns.map D.int).length) _ = _
      rw [List.length_map]
    unfold mx ms0
    simp only [ev_prim, evs_cons, evs_nil, ev_lit, ev_var', bind_ok, List.getElem?_cons_zero, e1]
    show Res.ok (D.int (if (if (ns.length : Int) < 2 then (ns.length : Int) else 2) > 1 then (if (ns.length : Int) < 2 then (ns.length : Int) else 2) else 1)) _ = _
    congr 2
    split <;> split <;> omega
theorem loop (ns : List Int) (m : Nat) (hm : m ≤ 2) : ∃ ms' h', forL (.rng 0 m) (turnF (asgT 59) (exs (ex C9 59) tb) (.name 2)) (m + 1) 0 (ms0 ns) ⟨0, []⟩ = .ok (.nx ms') h' := by
  obtain ⟨ms', h', e, _⟩ := forL_inv (it := .rng 0 m) (turn := turnF (asgT 59) (exs (ex C9 59) tb) (.name 2)) (N := m) (fun _ ms _ => ∃ x2 x3 x4 x5 x6 x7 x8, ms = [some (.scr (ns.map .int)), some bA, x2, x3, x4, x5, x6, x7, x8])
    (fun i ms h p hi => by
      obtain ⟨x2, x3, x4, x5, x6, x7, x8, rfl⟩ := p
      obtain ⟨h1, y2, y3, y4, y5, y6, y7, y8, e1⟩ := turn_ok ns (0 + (i : Int)) (by omega) (by omega) h x3 x4 x5 x6 x7 x8
      exact ⟨_, _, h1, rng_at hi, e1, y2, y3, y4, y5, y6, y7, y8, rfl⟩) (fun _ _ _ => rng_end) m 0 (ms0 ns) ⟨0, []⟩ (by omega) ⟨none, none, none, none, none, none, none, rfl⟩
  exact ⟨ms', h', e⟩
theorem hbody : m7.body = [s7_0, .for_ (.name 2) .range1 [mx] tb, .ret (.lit (.bool true))] := rfl
theorem last (ms : MSt) (h : MH) : exs (ex C9 60) [.ret (.lit (.bool true))] ms h = .ok (.rt (.bool true)) h := by
  rw [exs_cons, ex_ret, ev_lit]
  rfl
theorem run (ns : List Int) : ∃ h, exs (ex C9 60) m7.body (startM 9 [.scr (ns.map .int)]) ⟨0, []⟩ = .ok (.rt (.bool true)) h := by
  obtain ⟨m, hm, em⟩ := mx_ok ns
  obtain ⟨ms', h', e⟩ := loop ns m hm
  refine ⟨h', ?_⟩
  have e2 : ex C9 60 (.for_ (.name 2) .range1 [mx] tb) (ms0 ns) ⟨0, []⟩ = .ok (.nx ms') h' := by
    rw [ex_for, evs_cons, em C9 55]
    simp only [bind_ok, evs_nil, cat_ok, iter_range1 (j := (m : Int)) (by omega) (by omega), Int.toNat_natCast]
    exact e
  rw [hbody, exs_cons, fst, bind_ok]
  show exs (ex C9 60) [.for_ (.name 2) .range1 [mx] tb, .ret (.lit (.bool true))] (ms0 ns) ⟨0, []⟩ = _
  rw [exs_cons, e2, bind_ok]
  exact last ms' h'
theorem spec (ns : List Int) (hl : ns.length ≤ 63) : ∃ h, (cal plan.mp 10).callf 7 [.scr (ns.map .int)] [] ⟨0, []⟩ = .ok (.bool true) h := by
  obtain ⟨h', e⟩ := run ns
  refine ⟨h', ?_⟩
  have hf : (cal plan.mp 10).callf 7 [.scr (ns.map .int)] [] ⟨0, []⟩ = runF C9 m7 [.scr (ns.map .int)] ⟨0, []⟩ := rfl
  rw [hf]
  have hr : runF C9 m7 [.scr (ns.map .int)] ⟨0, []⟩ = (match exs (ex C9 60) m7.body (startM 9 [.scr (ns.map .int)]) ⟨0, []⟩ with
  | .ok (.rt d) h => .ok d h
  | .ok (.nx _) h => .ok .none h
  | .ok (.xc c fs _) h => .exc c fs h
  | _ => .bad) := rfl
  rw [hr, e]
end R.Law
namespace R.Law
open PySem PySem.W PySem.Calls PyProof.Rows R
abbrev Rw : OpenRow := OpenLaw.row PySem.Challenge.rw_oldpages_k06_errors_alone
abbrev qv : Program := view Rw.prog [22]
def names0 : List PySem.Str := ["BadText", "BadFile", "BadDeed", "BadRow", "BadChange", "NoFile", "NoPage", "NoText", "NoSight", "Unlike", "NothingToUndo", "NoCommand", "TooMany", "_law_bag", "_law_take", "_law_of", "_law_made", "_law_kinds", "_law_bases", "_law_due_bases"]
def names : List PySem.Str := names0
theorem headRun (w : World) : HandSHeadRun.RunEq Rw qv (plan.hook 5) (plan.ob 5) 4000 names w := by
  intro os
  kernel_rfl
theorem roomL : L2.Room (10 + 4) callerA := ⟨rfl, by decide, by decide⟩
end R.Law
open PySem PySem.W PySem.Calls PyProof.Rows
theorem PySem.Challenge.cw_oldpages_k06_errors_alone_holds : PySem.Challenge.rw_oldpages_k06_errors_alone.Holds := by
  w_on; o_law
  refine HandSHeadRun.head_any (r := OpenLaw.row PySem.Challenge.rw_oldpages_k06_errors_alone) (q := R.Law.qv) (H := R.Law.plan.hook 5) (ob := R.Law.plan.ob 5) (M := 4000) (loose := R.Law.names) (d := HandSHeadRun.topDef (OpenLaw.row PySem.Challenge.rw_oldpages_k06_errors_alone).prog 22) (kwd := []) (R.Law.plan.ob_eq 5)
    (by kernel_rfl) (fun s => by kernel_rfl) R.Law.headRun (by kernel_rfl) (by kernel_rfl) (by kernel_rfl) (by rfl) (by first | assumption | decide +kernel) (by decide +kernel) ⟨rfl, rfl, rfl, rfl, rfl, by decide +kernel⟩ ?hw ?hc
  case hw => w_witness2
  case hc =>
    refine R.law_walk (l := PySem.Challenge.rw_oldpages_k06_errors_alone) R.Law.plan 5 7 10 R.Law.d7 rfl (by kernel_rfl) R.Law.roomL rfl rfl (by kernel_rfl) R.Law.stat R.Law.comp R.Law.spec
