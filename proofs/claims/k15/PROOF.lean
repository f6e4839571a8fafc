import PyProof.Rows.All
import Wide.All
import OpenK.AllK
import Wide.FinOn
import HandS.ForMost
import HandS.ForExc
import HandS.IsInst
import HandS.TupAny
import HandS.Deep
import HandS.Conv
import HandS.Star
import HandS.CallSlots
import HandS.SortInts
import HandS.TupMul
import HandS.TupLen
import HandS.Flow
import HandS.SetFor
import HandS.Defaults
import HandS.Comp
import HandS.NoneIn
import HandS.Zip
import KE.GoesMore
import HandS.Style
import KE.KStateDown
import HandS.WordsExc
import HandS.HeadEnd
import HandS.HeadHook1
import HandS.HeadHook2
import PySem.Challenge.RW_pullsafe_k15_webs_and_habits_told_apart
import Lean
import HandS.Head0
import HandS.Head1
import HandS.Head2
set_option Elab.async false
set_option linter.all false
set_option maxRecDepth 100000
set_option maxHeartbeats 4000000
/-! Mp1: data values, the data heap, how they lie in the abstract heap. -/
namespace Mp
open PySem PySem.Spec PyProof.Rows L2

/-- data: tuples and frozen lists by value, changing things by address -/
inductive D where
  | non | bl (b : Bool) | int (i : Int) | str (x : Str) | tup (ds : List D) | lst (ds : List D) | scr (ns : List Int) | ref (a : Addr)
  deriving Inhabited

mutual
def D.decEq : (a b : D) → Decidable (a = b)
  | .non, .non => .isTrue rfl
  | .bl a, .bl b => if h : a = b then .isTrue (by rw [h]) else .isFalse (fun e => h (D.bl.inj e))
  | .int a, .int b => if h : a = b then .isTrue (by rw [h]) else .isFalse (fun e => h (D.int.inj e))
  | .str a, .str b => if h : a = b then .isTrue (by rw [h]) else .isFalse (fun e => h (D.str.inj e))
  | .tup a, .tup b => match D.decEqs a b with
    | .isTrue h => .isTrue (by rw [h])
    | .isFalse h => .isFalse (fun e => h (D.tup.inj e))
  | .lst a, .lst b => match D.decEqs a b with
    | .isTrue h => .isTrue (by rw [h])
    | .isFalse h => .isFalse (fun e => h (D.lst.inj e))
  | .scr a, .scr b => if h : a = b then .isTrue (by rw [h]) else .isFalse (fun e => h (D.scr.inj e))
  | .ref a, .ref b => if h : a = b then .isTrue (by rw [h]) else .isFalse (fun e => h (D.ref.inj e))
  | .non, .bl _ | .non, .int _ | .non, .str _ | .non, .tup _ | .non, .lst _ | .non, .scr _ | .non, .ref _ => .isFalse (fun e => nomatch e)
  | .bl _, .non | .bl _, .int _ | .bl _, .str _ | .bl _, .tup _ | .bl _, .lst _ | .bl _, .scr _ | .bl _, .ref _ => .isFalse (fun e => nomatch e)
  | .int _, .non | .int _, .bl _ | .int _, .str _ | .int _, .tup _ | .int _, .lst _ | .int _, .scr _ | .int _, .ref _ => .isFalse (fun e => nomatch e)
  | .str _, .non | .str _, .bl _ | .str _, .int _ | .str _, .tup _ | .str _, .lst _ | .str _, .scr _ | .str _, .ref _ => .isFalse (fun e => nomatch e)
  | .tup _, .non | .tup _, .bl _ | .tup _, .int _ | .tup _, .str _ | .tup _, .lst _ | .tup _, .scr _ | .tup _, .ref _ => .isFalse (fun e => nomatch e)
  | .lst _, .non | .lst _, .bl _ | .lst _, .int _ | .lst _, .str _ | .lst _, .tup _ | .lst _, .scr _ | .lst _, .ref _ => .isFalse (fun e => nomatch e)
  | .scr _, .non | .scr _, .bl _ | .scr _, .int _ | .scr _, .str _ | .scr _, .tup _ | .scr _, .lst _ | .scr _, .ref _ => .isFalse (fun e => nomatch e)
  | .ref _, .non | .ref _, .bl _ | .ref _, .int _ | .ref _, .str _ | .ref _, .tup _ | .ref _, .lst _ | .ref _, .scr _ => .isFalse (fun e => nomatch e)
def D.decEqs : (a b : List D) → Decidable (a = b)
  | [], [] => .isTrue rfl
  | [], _ :: _ => .isFalse (fun e => nomatch e)
  | _ :: _, [] => .isFalse (fun e => nomatch e)
  | x :: xs, y :: ys => match D.decEq x y with
    | .isTrue h => match D.decEqs xs ys with
      | .isTrue h2 => .isTrue (by rw [h, h2])
      | .isFalse h2 => .isFalse (fun e => h2 (List.cons.inj e).2)
    | .isFalse h => .isFalse (fun e => h (List.cons.inj e).1)
end
instance : DecidableEq D := D.decEq

/-- what changes -/
inductive O where
  | lst (ds : List D) | dK (lk : Bool) (kvs : List (Key × D)) | dT (lk : Bool) (kvs : List (List Int × D)) | ins (C : Str) (fs : List (Str × D))

abbrev Hs := Addr → Option O
def hput (S : Hs) (a : Addr) (o : O) : Hs := fun b => if b = a then some o else S b
def hdel (S : Hs) (a : Addr) : Hs := fun b => if b = a then none else S b
@[simp] theorem hput_same {S : Hs} {a : Addr} {o : O} : hput S a o a = some o := by unfold hput; rw [if_pos rfl]
theorem hput_ne {S : Hs} {a b : Addr} {o : O} (h : b ≠ a) : hput S a o b = S b := by unfold hput; rw [if_neg h]
@[simp] theorem hdel_same {S : Hs} {a : Addr} : hdel S a a = none := by unfold hdel; rw [if_pos rfl]
theorem hdel_ne {S : Hs} {a b : Addr} (h : b ≠ a) : hdel S a b = S b := by unfold hdel; rw [if_neg h]
@[simp] theorem hput_hput {S : Hs} {a : Addr} {o u : O} : hput (hput S a o) a u = hput S a u := by
  funext b; unfold hput; split <;> rfl
theorem hdel_hput {S : Hs} {a : Addr} {o : O} (h : S a = none) : hdel (hput S a o) a = S := by
  funext b; unfold hdel hput; split
  · rename_i e; rw [e, h]
  · rfl
theorem hput_self {S : Hs} {a : Addr} {o : O} (h : S a = some o) : hput S a o = S := by
  funext b; unfold hput; split
  · rename_i e; rw [e, h]
  · rfl

def kD : Key → D
  | .inl i => .int i
  | .inr x => .str x
def tD (k : List Int) : D := .tup (k.map .int)
def isStrV : V → Bool
  | .str _ => true
  | _ => false

section
variable (K : PySem.W.Frag)
/-- a tuple of the written part -/
def KT (a : Addr) (vs : List V) : Prop :=
  ∃ (o : Obj) (its : Array Value) (n : Nat), K.lookup a = some o ∧ o.cls = .type "tuple" ∧ o.data = .seq its n ∧ its.size ≤ sizeLine ∧ Vals vs its.toList
def KL (a : Addr) (vs : List V) : Prop :=
  ∃ (o : Obj) (its : Array Value) (n : Nat), K.lookup a = some o ∧ o.cls = .type "list" ∧ o.dict = none ∧ o.data = .seq its n ∧ its.size ≤ sizeLine ∧ Vals vs its.toList
def TupAt (H : Hp) (S : Hs) (a : Addr) (vs : List V) : Prop := (S a = none ∧ H a = some (.tup vs)) ∨ (KT K a vs ∧ vs.any isStrV = true)
def ScrAt (H : Hp) (S : Hs) (a : Addr) (vs : List V) : Prop := (S a = none ∧ Rd H a (.lst vs)) ∨ KL K a vs
mutual
def Rep (H : Hp) (S : Hs) : D → V → Prop
  | .non, v => v = .non
  | .bl b, v => v = .bl b
  | .int i, v => v = .int i
  | .str x, v => v = .str x ∧ PyData.strOk x = true
  | .tup ds, v => ∃ a vs, v = .ref a ∧ TupAt K H S a vs ∧ Reps H S ds vs
  | .lst ds, v => ∃ a vs, v = .ref a ∧ S a = none ∧ H a = some (.lst vs) ∧ Reps H S ds vs
  | .scr ns, v => ∃ a, v = .ref a ∧ ScrAt K H S a (ns.map V.int)
  | .ref a, v => v = .ref a
def Reps (H : Hp) (S : Hs) : List D → List V → Prop
  | [], vs => vs = []
  | d :: ds, vs => ∃ v r, vs = v :: r ∧ Rep H S d v ∧ Reps H S ds r
end
end

/-- what is known and does not change stays so -/
def W (H : Hp) (S : Hs) (H' : Hp) (S' : Hs) : Prop := ∀ a o, H a = some o → S a = none → H' a = some o ∧ S' a = none
theorem W.refl (H : Hp) (S : Hs) : W H S H S := fun _ _ h s => ⟨h, s⟩
theorem W.trans {H : Hp} {S : Hs} {H1 : Hp} {S1 : Hs} {H2 : Hp} {S2 : Hs} (a : W H S H1 S1) (b : W H1 S1 H2 S2) : W H S H2 S2 := fun x o h s => b x o (a x o h s).1 (a x o h s).2

section
variable {K : PySem.W.Frag} {H H' : Hp} {S S' : Hs}
theorem TupAt.mono (w : W H S H' S') {a : Addr} {vs : List V} (h : TupAt K H S a vs) : TupAt K H' S' a vs := by
  rcases h with ⟨s, h⟩ | h
  · exact .inl ⟨(w a _ h s).2, (w a _ h s).1⟩
  · exact .inr h
theorem ScrAt.mono (w : W H S H' S') {a : Addr} {vs : List V} (h : ScrAt K H S a vs) : ScrAt K H' S' a vs := by
  rcases h with ⟨s, h⟩ | h
  · rcases h with h | ⟨o, h⟩
    · exact .inl ⟨(w a _ h s).2, .inl (w a _ h s).1⟩
    · exact .inl ⟨(w a _ h s).2, .inr ⟨o, (w a _ h s).1⟩⟩
  · exact .inr h
theorem TupAt.sq {a : Addr} {vs : List V} (h : TupAt K H S a vs) : SqT K H a vs := by
  rcases h with ⟨_, h⟩ | ⟨h, _⟩
  · exact .inl (.inl h)
  · exact .inr h
theorem TupAt.ints {a : Addr} {ns : List Int} (h : TupAt K H S a (ns.map V.int)) : H a = some (.tup (ns.map V.int)) := by
  rcases h with ⟨_, h⟩ | ⟨_, h⟩
  · exact h
  · exfalso
    rw [List.any_map] at h
    obtain ⟨x, _, hx⟩ := List.any_eq_true.mp h
    cases hx
theorem ScrAt.sq {a : Addr} {vs : List V} (h : ScrAt K H S a vs) : SqL K H a vs := by
  rcases h with ⟨_, h⟩ | h
  · exact .inl h
  · exact .inr h
mutual
theorem Rep.mono (w : W H S H' S') : ∀ {d : D} {v : V}, Rep K H S d v → Rep K H' S' d v
  | .non, _, h => by unfold Rep at h ⊢; exact h
  | .bl _, _, h => by unfold Rep at h ⊢; exact h
  | .int _, _, h => by unfold Rep at h ⊢; exact h
  | .str _, _, h => by unfold Rep at h ⊢; exact h
  | .tup ds, _, h => by
    unfold Rep at h ⊢
    obtain ⟨a, vs, e, t, r⟩ := h
    exact ⟨a, vs, e, t.mono w, Reps.mono w r⟩
  | .lst ds, _, h => by
    unfold Rep at h ⊢
    obtain ⟨a, vs, e, s, t, r⟩ := h
    exact ⟨a, vs, e, (w a _ t s).2, (w a _ t s).1, Reps.mono w r⟩
  | .scr ns, _, h => by
    unfold Rep at h ⊢
    obtain ⟨a, e, t⟩ := h
    exact ⟨a, e, t.mono w⟩
  | .ref _, _, h => by unfold Rep at h ⊢; exact h
theorem Reps.mono (w : W H S H' S') : ∀ {ds : List D} {vs : List V}, Reps K H S ds vs → Reps K H' S' ds vs
  | [], _, h => by unfold Reps at h ⊢; exact h
  | d :: ds, _, h => by
    unfold Reps at h ⊢
    obtain ⟨v, r, e, h1, h2⟩ := h
    exact ⟨v, r, e, Rep.mono w h1, Reps.mono w h2⟩
end
theorem Reps.nil : Reps K H S [] [] := by unfold Reps; rfl
theorem Reps.cons {d : D} {ds : List D} {v : V} {vs : List V} (h : Rep K H S d v) (r : Reps K H S ds vs) : Reps K H S (d :: ds) (v :: vs) := by
  unfold Reps; exact ⟨v, vs, rfl, h, r⟩
theorem Reps.length : ∀ {ds : List D} {vs : List V}, Reps K H S ds vs → ds.length = vs.length
  | [], _, h => by unfold Reps at h; rw [h]; rfl
  | _ :: _, _, h => by
    unfold Reps at h
    obtain ⟨v, r, rfl, _, h2⟩ := h
    rw [List.length_cons, List.length_cons, Reps.length h2]
theorem Reps.get : ∀ {ds : List D} {vs : List V} {i : Nat} {d : D}, Reps K H S ds vs → ds[i]? = some d → ∃ v, vs[i]? = some v ∧ Rep K H S d v
  | [], _, _, _, _, e => by simp at e
  | x :: _, _, 0, d, h, e => by
    unfold Reps at h
    obtain ⟨v, r, rfl, h1, _⟩ := h
    have : x = d := by simpa using e
    exact ⟨v, rfl, this ▸ h1⟩
  | _ :: ds, _, i + 1, d, h, e => by
    unfold Reps at h
    obtain ⟨v, r, rfl, _, h2⟩ := h
    have e2 : ds[i]? = some d := by simpa using e
    obtain ⟨w, h3, h4⟩ := Reps.get h2 e2
    exact ⟨w, by simpa using h3, h4⟩
theorem Reps.getV : ∀ {ds : List D} {vs : List V} {i : Nat} {v : V}, Reps K H S ds vs → vs[i]? = some v → ∃ d, ds[i]? = some d ∧ Rep K H S d v
  | [], _, _, _, h, e => by unfold Reps at h; rw [h] at e; simp at e
  | x :: _, _, 0, v, h, e => by
    unfold Reps at h
    obtain ⟨w, r, rfl, h1, _⟩ := h
    have : w = v := by simpa using e
    exact ⟨x, rfl, this ▸ h1⟩
  | _ :: ds, _, i + 1, v, h, e => by
    unfold Reps at h
    obtain ⟨w, r, rfl, _, h2⟩ := h
    have e2 : r[i]? = some v := by simpa using e
    obtain ⟨d, h3, h4⟩ := Reps.getV h2 e2
    exact ⟨d, by simpa using h3, h4⟩
theorem Reps.append : ∀ {ds es : List D} {vs us : List V}, Reps K H S ds vs → Reps K H S es us → Reps K H S (ds ++ es) (vs ++ us)
  | [], _, _, _, h, q => by unfold Reps at h; rw [h]; exact q
  | _ :: _, _, _, _, h, q => by
    unfold Reps at h
    obtain ⟨v, r, rfl, h1, h2⟩ := h
    exact .cons h1 (Reps.append h2 q)
theorem Reps.take : ∀ {ds : List D} {vs : List V} (n : Nat), Reps K H S ds vs → Reps K H S (ds.take n) (vs.take n)
  | _, _, 0, _ => .nil
  | [], _, _ + 1, h => by unfold Reps at h; rw [h]; exact .nil
  | _ :: _, _, n + 1, h => by
    unfold Reps at h
    obtain ⟨v, r, rfl, h1, h2⟩ := h
    exact .cons h1 (Reps.take n h2)
theorem Reps.drop : ∀ {ds : List D} {vs : List V} (n : Nat), Reps K H S ds vs → Reps K H S (ds.drop n) (vs.drop n)
  | _, _, 0, h => h
  | [], _, _ + 1, h => by unfold Reps at h; rw [h]; exact .nil
  | _ :: _, _, n + 1, h => by
    unfold Reps at h
    obtain ⟨v, r, rfl, h1, h2⟩ := h
    exact Reps.drop n h2
theorem Reps.set {d : D} {v : V} (q : Rep K H S d v) : ∀ {ds : List D} {vs : List V} (i : Nat), Reps K H S ds vs → Reps K H S (ds.set i d) (vs.set i v)
  | [], _, _, h => by unfold Reps at h; rw [h]; exact .nil
  | _ :: _, _, 0, h => by
    unfold Reps at h
    obtain ⟨_, r, rfl, h1, h2⟩ := h
    exact .cons q h2
  | _ :: _, _, i + 1, h => by
    unfold Reps at h
    obtain ⟨_, r, rfl, h1, h2⟩ := h
    exact .cons h1 (Reps.set q i h2)
theorem Reps.erase : ∀ {ds : List D} {vs : List V} (i : Nat), Reps K H S ds vs → Reps K H S (ds.eraseIdx i) (vs.eraseIdx i)
  | [], _, _, h => by unfold Reps at h; rw [h]; exact .nil
  | _ :: _, _, 0, h => by
    unfold Reps at h
    obtain ⟨_, r, rfl, h1, h2⟩ := h
    exact h2
  | _ :: _, _, i + 1, h => by
    unfold Reps at h
    obtain ⟨_, r, rfl, h1, h2⟩ := h
    exact .cons h1 (Reps.erase i h2)
theorem Reps.dropLast {ds : List D} {vs : List V} (h : Reps K H S ds vs) : Reps K H S ds.dropLast vs.dropLast := by
  rw [List.dropLast_eq_take, List.dropLast_eq_take, h.length]
  exact h.take _
theorem Reps.reverse : ∀ {ds : List D} {vs : List V}, Reps K H S ds vs → Reps K H S ds.reverse vs.reverse
  | [], _, h => by unfold Reps at h; rw [h]; exact .nil
  | _ :: _, _, h => by
    unfold Reps at h
    obtain ⟨v, r, rfl, h1, h2⟩ := h
    rw [List.reverse_cons, List.reverse_cons]
    exact (Reps.reverse h2).append (.cons h1 .nil)
theorem Reps.ints : ∀ (ns : List Int), Reps K H S (ns.map D.int) (ns.map V.int)
  | [] => .nil
  | _ :: r => .cons (by unfold Rep; rfl) (Reps.ints r)
theorem Reps.of_ints : ∀ {ns : List Int} {vs : List V}, Reps K H S (ns.map D.int) vs → vs = ns.map V.int
  | [], _, h => by unfold Reps at h; exact h
  | n :: ns, vs, h => by
    rw [List.map_cons] at h
    unfold Reps at h
    obtain ⟨v, r, rfl, h1, h2⟩ := h
    unfold Rep at h1
    rw [h1, Reps.of_ints h2]; rfl
theorem Rep.inj_tup {ds : List D} {v : V} (h : Rep K H S (.tup ds) v) : ∃ a vs, v = .ref a ∧ TupAt K H S a vs ∧ Reps K H S ds vs := by unfold Rep at h; exact h
theorem Rep.inj_lst {ds : List D} {v : V} (h : Rep K H S (.lst ds) v) : ∃ a vs, v = .ref a ∧ S a = none ∧ H a = some (.lst vs) ∧ Reps K H S ds vs := by unfold Rep at h; exact h
end
end Mp

/-! Mp2: the small language and what its programs come to. -/
namespace Mp
open PySem PySem.Spec PyProof.Rows L2

/-! ### data -/
mutual
def D.plain : D → Bool
  | .non => true
  | .bl _ => true
  | .int _ => true
  | .str _ => true
  | .tup ds => D.plains ds
  | .lst ds => D.plains ds
  | .scr _ => false
  | .ref _ => false
def D.plains : List D → Bool
  | [] => true
  | d :: ds => D.plain d && D.plains ds
end
mutual
def D.dep : D → Nat
  | .non => 0
  | .bl _ => 0
  | .int _ => 0
  | .str _ => 0
  | .tup ds => D.deps ds + 1
  | .lst ds => D.deps ds + 1
  | .scr _ => 0
  | .ref _ => 0
def D.deps : List D → Nat
  | [] => 0
  | d :: ds => max (D.dep d) (D.deps ds)
end
def b2n (b : Bool) : Int := if b then 1 else 0
mutual
/-- == of plain data -/
def D.eqv : D → D → Bool
  | .non, .non => true
  | .bl a, .bl b => a == b
  | .bl a, .int j => b2n a == j
  | .int i, .bl b => i == b2n b
  | .int i, .int j => i == j
  | .str x, .str y => x == y
  | .tup xs, .tup ys => D.eqvs xs ys
  | .lst xs, .lst ys => D.eqvs xs ys
  | _, _ => false
def D.eqvs : List D → List D → Bool
  | [], [] => true
  | x :: xs, y :: ys => D.eqv x y && D.eqvs xs ys
  | _, _ => false
end
mutual
/-- < of plain data (none: not served) -/
def D.lt : D → D → Option Bool
  | .int i, .int j => some (decide (i < j))
  | .str x, .str y => some (decide (x.cps.toList < y.cps.toList))
  | .tup xs, .tup ys => D.lts xs ys
  | _, _ => none
def D.lts : List D → List D → Option Bool
  | [], [] => some false
  | [], _ :: _ => some true
  | _ :: _, [] => some false
  | x :: xs, y :: ys => if D.eqv x y then D.lts xs ys else D.lt x y
end
/-- fit for == -/
def D.ok (d : D) : Bool := d.plain && decide (d.dep ≤ 64)

def vw (S : Hs) (d : D) : D := match d with
  | .ref a => (match S a with
    | some (.lst ds) => .lst ds
    | _ => .ref a)
  | d => d
def seqOf (S : Hs) (d : D) : Option (List D) := match d with
  | .tup ds => some ds
  | .lst ds => some ds
  | .ref a => (match S a with
    | some (.lst ds) => some ds
    | _ => none)
  | _ => none
def truth (S : Hs) (d : D) : Option Bool := match d with
  | .non => some false
  | .bl b => some b
  | .int i => some (i != 0)
  | .str x => if x.length ≤ sizeLine then some ((x.length : Int) != 0) else none
  | .tup ds => some (!ds.isEmpty)
  | .lst ds => some (!ds.isEmpty)
  | .scr _ => none
  | .ref a => (match S a with
    | some (.lst ds) => some (!ds.isEmpty)
    | _ => none)

/-! ### dicts -/
section
variable {κ : Type} [DecidableEq κ]
def dGet (kvs : List (κ × D)) (k : κ) : Option D := (kvs.find? fun kv => decide (kv.1 = k)).map (·.2)
def dPut (kvs : List (κ × D)) (k : κ) (v : D) : List (κ × D) :=
  if (kvs.any fun kv => decide (kv.1 = k)) = true then kvs.map (fun kv => if kv.1 = k then (kv.1, v) else kv) else kvs ++ [(k, v)]
def dDrop (kvs : List (κ × D)) (k : κ) : List (κ × D) := kvs.filter fun kv => decide (kv.1 ≠ k)
end
def D.key : D → Option Key
  | .int i => some (.inl i)
  | .str x => some (.inr x)
  | _ => none
def intsOf : List D → Option (List Int)
  | [] => some []
  | .int i :: ds => (intsOf ds).map (i :: ·)
  | _ :: _ => none
def D.keyT : D → Option (List Int)
  | .tup ds => intsOf ds
  | _ => none
/-- what a dict holds at a key: outer none: not served -/
def dAt (S : Hs) (d k : D) : Option (Option D) := match d with
  | .ref a => (match S a with
    | some (.dK _ kvs) => (k.key).map fun k => dGet kvs k
    | some (.dT _ kvs) => (k.keyT).map fun k => dGet kvs k
    | _ => none)
  | _ => none
def dSet (S : Hs) (d k v : D) : Option Hs := match d with
  | .ref a => (match S a with
    | some (.dK false kvs) => (k.key).bind fun k => if kvs.length < sizeLine then some (hput S a (.dK false (dPut kvs k v))) else none
    | some (.dT false kvs) => (k.keyT).bind fun k => if kvs.length < sizeLine then some (hput S a (.dT false (dPut kvs k v))) else none
    | _ => none)
  | _ => none

/-! ### operators -/
def eqD (x y : D) : Option Bool := if x.ok && y.ok then some (D.eqv x y) else none
def ltD (x y : D) : Option Bool := match x, y with
  | .int i, .int j => some (decide (i < j))
  | _, _ => none
def inD (x : D) (ds : List D) : Option Bool := if x.ok && (D.lst ds).ok then some (ds.any fun z => D.eqv z x) else none
def inAny (S : Hs) (x y : D) : Option Bool := match y with
  | .tup ds => inD x ds
  | .lst ds => inD x ds
  | .str z => (match x with
    | .str w => if w.length = 1 then some (decide (w.cps.getD 0 0 ∈ z.cps.toList)) else none
    | _ => none)
  | .ref a => (match S a with
    | some (.lst ds) => inD x ds
    | _ => (dAt S (.ref a) x).map (·.isSome))
  | _ => none
def isN : D → Option Bool
  | .non => some true
  | .scr _ => none
  | _ => some false
def mulOk (i j : Int) : Bool := (decide (-(2 ^ 64) < i) && decide (i < 2 ^ 64)) || (decide (-(2 ^ 64) < j) && decide (j < 2 ^ 64))
def opD (o : Operator) (x y : D) : Option D := match o, x, y with
  | .Add, .int i, .int j => some (.int (i + j))
  | .Add, .str a, .str b => if a.length + b.length ≤ sizeLine then some (.str (a ++ b)) else none
  | .Add, .tup xs, .tup ys => if xs.length + ys.length ≤ sizeLine then some (.tup (xs ++ ys)) else none
  | .Add, .lst xs, .lst ys => if xs.length + ys.length ≤ sizeLine then some (.lst (xs ++ ys)) else none
  | .Sub, .int i, .int j => some (.int (i - j))
  | .Mult, .int i, .int j => if mulOk i j then some (.int (i * j)) else none
  | .Mult, .lst xs, .int k => if decide (-(2 ^ 63) ≤ k) && decide (k < 2 ^ 63) && decide (xs.length * k.toNat ≤ sizeLine) then some (.lst (List.replicate k.toNat xs).flatten) else none
  | .Mult, .tup xs, .int k => if decide (xs ≠ []) && decide (2 ≤ k) && decide (k ≤ 1000) && decide (xs.length ≤ 1000) then some (.tup (List.replicate k.toNat xs).flatten) else none
  | .Mod, .int i, .int j => if 0 < j then some (.int (i % j)) else none
  | .FloorDiv, .int i, .int j => if 0 < j ∧ j < 1073741824 then some (.int (i / j)) else none
  | .Pow, .int i, .int j => if 0 ≤ j ∧ j ≤ 1000 ∧ i.natAbs < 2 ^ 64 then some (.int (i ^ j.toNat)) else none
  | _, _, _ => none
def cmpD (o : CmpOp) (S : Hs) (x y : D) : Option Bool := match o with
  | .Eq => eqD (vw S x) (vw S y)
  | .NotEq => (eqD (vw S x) (vw S y)).map (!·)
  | .Lt => ltD x y
  | .Gt => ltD y x
  | .LtE => (match x, y with
    | .int i, .int j => some (decide (i ≤ j))
    | _, _ => none)
  | .GtE => (match x, y with
    | .int i, .int j => some (decide (j ≤ i))
    | _, _ => none)
  | .Is => (match y with
    | .non => isN x
    | _ => none)
  | .IsNot => (match y with
    | .non => (isN x).map (!·)
    | _ => none)
  | .In => inAny S x y
  | .NotIn => (inAny S x y).map (!·)

def idxD (S : Hs) (x i : D) : Option D := match vw S x, i with
  | .tup ds, .int k => atI ds k
  | .lst ds, .int k => atI ds k
  | .str z, .int k => if z.length ≤ sizeLine then (atI z.cps.toList k).map fun c => .str ⟨#[c]⟩ else none
  | .ref a, k => (dAt S (.ref a) k).bind id
  | _, _ => none
def cutD (xs : List D) (lo hi : Option Int) : List D := (xs.drop (HT.sIx xs.length 0 lo)).take (HT.sIx xs.length xs.length hi - HT.sIx xs.length 0 lo)
def cutI (xs : List Int) (lo hi : Option Int) : List Int := (xs.drop (HT.sIx xs.length 0 lo)).take (HT.sIx xs.length xs.length hi - HT.sIx xs.length 0 lo)
def slD (S : Hs) (x : D) (lo hi : Option Int) : Option D := match vw S x with
  | .tup ds => some (.tup (cutD ds lo hi))
  | .lst ds => some (.lst (cutD ds lo hi))
  | .scr ns => some (.lst ((cutI ns lo hi).map .int))
  | .str z => if z.length ≤ sizeLine then some (.str (cutS z lo hi)) else none
  | _ => none

/-! ### built-ins -/
inductive Bi where
  | len | int | str | tuple | list | sorted | all | any | sum | min | max | setlen | setsort
  deriving DecidableEq
/-- insertion by < ; none where some pair is not served -/
def insD (x : D) : List D → Option (List D)
  | [] => some [x]
  | y :: ys => (match D.lt x y with
    | some true => some (x :: y :: ys)
    | some false => (insD x ys).map (y :: ·)
    | none => none)
def sortD : List D → Option (List D)
  | [] => some []
  | x :: xs => (sortD xs).bind (insD x)
def insI (x : Int) : List Int → List Int
  | [] => [x]
  | y :: ys => if x ≤ y then x :: y :: ys else y :: insI x ys
def sortI : List Int → List Int
  | [] => []
  | x :: xs => insI x (sortI xs)
def blsOf : List D → Option (List Bool)
  | [] => some []
  | .bl i :: ds => (blsOf ds).map (i :: ·)
  | _ :: _ => none
def minD : List D → Option D
  | [] => none
  | [x] => some x
  | x :: y :: r => (minD (y :: r)).bind fun m => (D.lt m x).map fun b => if b then m else x
def firstOf (ds : List D) : List D := ds.foldl (fun acc d => if acc.any (fun z => D.eqv z d) then acc else acc ++ [d]) []
def biD (b : Bi) (S : Hs) (ds : List D) : Option D := match b, ds with
  | .len, [x] => (match vw S x with
    | .tup ds => some (.int ds.length)
    | .lst ds => some (.int ds.length)
    | .str z => if z.length ≤ sizeLine then some (.int z.length) else none
    | .ref a => (match S a with
      | some (.dK _ kvs) => some (.int kvs.length)
      | some (.dT _ kvs) => some (.int kvs.length)
      | _ => none)
    | _ => none)
  | .int, [.int i] => some (.int i)
  | .int, [.bl b] => some (.int (if b then 1 else 0))
  | .int, [.str x] => if x.length ≤ 640 then (PySem.intText? x).map .int else none
  | .str, [.int i] => if i.natAbs.log2 < 1920 then some (.str (toString i)) else none
  | .tuple, [x] => (match vw S x with
    | .tup ds => some (.tup ds)
    | .lst ds => some (.tup ds)
    | _ => none)
  | .list, [x] => (match vw S x with
    | .tup ds => some (.lst ds)
    | .lst ds => some (.lst ds)
    | .ref a => (match S a with
      | some (.dK false kvs) => some (.lst (kvs.map fun kv => kD kv.1))
      | some (.dT _ kvs) => some (.lst (kvs.map fun kv => tD kv.1))
      | _ => none)
    | _ => none)
  | .sorted, [x] => (match vw S x with
    | .lst ds => (intsOf ds).map fun ns => .lst ((sortI ns).map .int)
    | _ => none)
  | .all, [x] => (match vw S x with
    | .lst ds => (blsOf ds).map fun bs => .bl (bs.all id)
    | _ => none)
  | .any, [x] => (match vw S x with
    | .lst ds => (blsOf ds).map fun bs => .bl (bs.any id)
    | _ => none)
  | .sum, [x] => (match vw S x with
    | .lst ds => (intsOf ds).map fun ns => .int ns.sum
    | _ => none)
  | .min, [x] => (match vw S x with
    | .lst _ => none
    | _ => none)
  | .max, [.int i, .int j] => some (.int (if j > i then j else i))
  | _, _ => none

/-! ### isinstance -/
inductive Ty where
  | int | bool | str | list | tuple | cls (C : Str)
  deriving DecidableEq
/-- the type's name: a built-in one, an own one -/
inductive Tn where
  | none | bool | int | str | tuple | list | dict | own (C : Str)
  deriving DecidableEq
def tnOf (S : Hs) (d : D) : Option Tn := match d with
  | .non => some .none
  | .bl _ => some .bool
  | .int _ => some .int
  | .str _ => some .str
  | .tup _ => some .tuple
  | .lst _ => some .list
  | .scr _ => none
  | .ref a => (match S a with
    | some (.lst _) => some .list
    | some (.dK _ _) => some .dict
    | some (.dT false _) => some .dict
    | _ => none)
def isTy (t : Tn) (c : Ty) : Bool := match t, c with
  | .bool, .bool => true
  | .bool, .int => true
  | .int, .int => true
  | .str, .str => true
  | .tuple, .tuple => true
  | .list, .list => true
  | .own C, .cls C' => decide (C = C')
  | _, _ => false
def isiD (S : Hs) (d : D) (ts : List Ty) : Option Bool := (tnOf S d).map fun t => ts.any (isTy t)

/-! ### methods of built-in types -/
inductive Mid where
  | append | extend | pop | popAt | insert | remove | get2 | setdef | split | join
  deriving DecidableEq
/-- what the receiver has to be -/
def recvOk (m : Mid) (S : Hs) (x : D) : Bool := match m, x with
  | .split, .str _ => true
  | .join, .str _ => true
  | .split, _ => false
  | .join, _ => false
  | .get2, .ref a => (match S a with
    | some (.dK _ _) => true
    | some (.dT _ _) => true
    | _ => false)
  | .setdef, .ref a => (match S a with
    | some (.dK false _) => true
    | some (.dT false _) => true
    | _ => false)
  | _, .ref a => (match S a with
    | some (.lst _) => true
    | _ => false)
  | _, _ => false
def mthD (m : Mid) (S : Hs) (x : D) (ds : List D) : Option (D × Hs) := match m, x, ds with
  | .append, .ref a, [y] => (match S a with
    | some (.lst xs) => if xs.length < sizeLine then some (.non, hput S a (.lst (xs ++ [y]))) else none
    | _ => none)
  | .extend, .ref a, [y] => (match S a, vw S y with
    | some (.lst xs), .lst ys => if xs.length + ys.length ≤ sizeLine then some (.non, hput S a (.lst (xs ++ ys))) else none
    | _, _ => none)
  | .pop, .ref a, [] => (match S a with
    | some (.lst xs) => (xs[xs.length - 1]?).map fun y => (y, hput S a (.lst xs.dropLast))
    | _ => none)
  | .popAt, .ref a, [.int i] => (match S a with
    | some (.lst xs) => if 0 ≤ i ∧ i < 2 ^ 62 then (xs[i.toNat]?).map fun y => (y, hput S a (.lst (xs.eraseIdx i.toNat))) else none
    | _ => none)
  | .insert, .ref a, [.int i, y] => (match S a with
    | some (.lst xs) => if 0 ≤ i ∧ i < 2 ^ 62 ∧ xs.length < sizeLine then some (.non, hput S a (.lst (xs.take i.toNat ++ [y] ++ xs.drop i.toNat))) else none
    | _ => none)
  | .remove, .ref a, [.int i] => (match S a with
    | some (.lst xs) => (intsOf xs).bind fun ns => if i ∈ ns then some (.non, hput S a (.lst ((ns.erase i).map .int))) else none
    | _ => none)
  | .get2, .ref a, [k, y] => (dAt S (.ref a) k).map fun o => (o.getD y, S)
  | .setdef, .ref a, [k, y] => (dAt S (.ref a) k).bind fun o => match o with
    | some v => some (v, S)
    | none => (dSet S (.ref a) k y).map fun S' => (y, S')
  | .split, .str x, [.str z] => if z.length ≠ 0 ∧ x.length + 2 ≤ sizeLine then some (.lst ((Txt.split x z).map .str), S) else none
  | _, _, _ => none

/-! ### the language -/
inductive CG where
  | nm (i : Nat) | tg (gs : List CG)
mutual
inductive CE where
  | var (i : Nat) | con (d : D) | glob (x : Str) (d : D)
  | tup (es : List CE) | lst (es : List CE) | nlst (es : List CE) | star (e : CE)
  | op (o : Operator) (a b : CE) | cmp (o : CmpOp) (a b : CE) | cmp2 (o o' : CmpOp) (a b c : CE)
  | neg (a : CE) | not (a : CE) | and (a b : CE) | or (a b : CE) | ite (c a b : CE)
  | idx (a i : CE) | sl (a : CE) (lo hi : Option CE)
  | call (f : Str) (es : List CE) | callk (f : Str) (es : List CE) (ks : List Str) (gs : List CE)
  | bi (b : Bi) (es : List CE) | bin (es : List CE) | lrng (nw : Bool) (es : List CE) | isi (a : CE) (ts : List Ty)
  | comp (nw : Bool) (elt : CE) (g : CG) (it : CI) (ifs : List CE) (own : List (Str × Nat))
  | meth (m : Mid) (a : CE) (es : List CE) | fld (a : CE) (f : Str) | callm (C m : Str) (a : CE) (es : List CE) | mk (C : Str) (es : List CE)
  | bad | xfld (f : Str) | ndct (t : Bool) | ddct (k v : CE) | compk (elt : CE) (g : CG) (e : CE) (ifs : List CE) (own : List (Str × Nat))
inductive CI where
  | seq (e : CE) | rng (es : List CE) | enum (e : CE) | zip (a b : CE)
end
inductive CS where
  | asg (g : CG) (e : CE) | asgIx (o i e : CE) | asgFld (o : CE) (f : Str) (e : CE) | aug (i : Nat) (o : Operator) (e : CE)
  | expr (e : CE) | ret (e : CE) | retN | ifs (c : CE) (a b : List CS) | whl (c : CE) (b : List CS) | forr (g : CG) (it : CI) (b : List CS) | fork (g : CG) (e : CE) (b : List CS)
  | bad | brk | cont | pass | raise (C : Str) (es : List CE) | tri (b : List CS) (hs : List (Str × List CS)) | del (o i : CE) | frz (i : Nat)

/-! ### what programs come to -/
abbrev Ev := List (Option D)
abbrev DK := D → Hs → Prop
/-- an exception: its class, its fields -/
structure Exc where
  C : Str
  fs : List (Str × D)
abbrev EK := Exc → Hs → Prop
abbrev CallSem := Str → List D → Hs → DK → EK → Prop
structure Cw where
  G : CallSem
  E : Ev → EK
  xc : Option Exc
  xf : Str → Option (List Str)
  xs : Str → Str → Bool
abbrev Cw.noE (c : Cw) : Cw := { c with E := fun _ _ _ => False }

def CE.isStar : CE → Bool
  | .star _ => true
  | _ => false
mutual
def asgG (S : Hs) : CG → D → Ev → Option Ev
  | .nm i, d, ρ => if i < ρ.length then some (ρ.set i (some d)) else none
  | .tg gs, d, ρ => (match seqOf S d with
    | some ds => asgGs S gs ds ρ
    | none => none)
def asgGs (S : Hs) : List CG → List D → Ev → Option Ev
  | [], [], ρ => some ρ
  | g :: gs, d :: ds, ρ => (asgG S g d ρ).bind (asgGs S gs ds)
  | _, _, _ => none
end
def wipeD (ρ : Ev) : List Nat → Ev
  | [] => ρ
  | v :: vs => (wipeD ρ vs).set v none

/-- a loop's turns over items, ok the guard of what is walked -/
def forL (ok : Hs → Prop) (step : D → (Ev → Hs → Prop) → Ev → Hs → Prop) : List D → (Ev → Hs → Prop) → Ev → Hs → Prop
  | [], k, ρ, S => ok S ∧ k ρ S
  | x :: xs, k, ρ, S => ok S ∧ step x (fun ρ' S' => forL ok step xs k ρ' S') ρ S
/-- a comprehension's turns: p the new list -/
def cmpL (ok : Hs → Prop) (p : Addr) (step : D → (Option D → Hs → Prop) → Hs → Prop) : List D → (Hs → Prop) → Hs → Prop
  | [], k, S => ok S ∧ k S
  | x :: xs, k, S => ok S ∧ step x (fun o S' => match o with
    | some y => ∃ acc, S' p = some (.lst acc) ∧ acc.length < sizeLine ∧ cmpL ok p step xs k (hput S' p (.lst (acc ++ [y])))
    | none => cmpL ok p step xs k S') S

/-- what is walked: items and the guard under which they stay -/
def itemsOf (S : Hs) (d : D) : Option (List D × (Hs → Prop)) := match d with
  | .tup ds => some (ds, fun _ => True)
  | .lst ds => some (ds, fun _ => True)
  | .str x => some (x.cps.toList.map fun c => .str ⟨#[c]⟩, fun _ => True)
  | .ref a => (match S a with
    | some (.lst ds) => some (ds, fun S' => S' a = some (.lst ds))
    | _ => none)
  | _ => none
def itemsE (S : Hs) (d : D) : Option (List D × (Hs → Prop)) := match d with
  | .str _ => none
  | d => itemsOf S d
def isTupD : D → Bool
  | .tup _ => true
  | _ => false
/-- a dict locked, its keys -/
def lockO : O → Option (O × List D)
  | .dK false kvs => some (.dK true kvs, kvs.map fun kv => kD kv.1)
  | .dT false kvs => some (.dT true kvs, kvs.map fun kv => tD kv.1)
  | _ => none
def rngOf : List D → Option (List D)
  | [.int n] => if -(2 ^ 62) ≤ n ∧ n < 2 ^ 62 then some ((List.range n.toNat).map fun (i : Nat) => .int (0 + (i : Int))) else none
  | [.int a, .int b] => if (-(2 ^ 62) ≤ a ∧ a < 2 ^ 62) ∧ -(2 ^ 62) ≤ b ∧ b < 2 ^ 62 then some ((List.range (b - a).toNat).map fun (i : Nat) => .int (a + (i : Int))) else none
  | _ => none
def enumFrom' (n : Nat) : List D → List D
  | [] => []
  | d :: ds => .tup [.int n, d] :: enumFrom' (n + 1) ds
def zipD : List D → List D → List D
  | x :: xs, y :: ys => .tup [x, y] :: zipD xs ys
  | _, _ => []

mutual
def wpE (c : Cw) : CE → Ev → DK → Hs → Prop
  | .var i, ρ, k, S => (match ρ[i]? with
    | some (some d) => k d S
    | _ => False)
  | .con d, _, k, S => k d S
  | .glob _ d, _, k, S => k d S
  | .tup es, ρ, k, S => wpEs c es ρ (fun ds S1 => ds.length ≤ sizeLine ∧ k (.tup ds) S1) S
  | .lst es, ρ, k, S => wpEs c es ρ (fun ds S1 => ds.length ≤ sizeLine ∧ k (.lst ds) S1) S
  | .nlst es, ρ, k, S => wpEs c es ρ (fun ds S1 => ds.length ≤ sizeLine ∧ ∀ p, S1 p = none → k (.ref p) (hput S1 p (.lst ds))) S
  | .star e, ρ, k, S => wpE c e ρ k S
  | .op o a b, ρ, k, S => wpE c a ρ (fun x S1 => wpE c b ρ (fun y S2 => match opD o (vw S2 x) (vw S2 y) with
    | some z => k z S2
    | none => False) S1) S
  | .cmp o a b, ρ, k, S => wpE c a ρ (fun x S1 => wpE c b ρ (fun y S2 => match cmpD o S2 x y with
    | some z => k (.bl z) S2
    | none => False) S1) S
  | .cmp2 o o' a b d, ρ, k, S => wpE c a ρ (fun x S1 => wpE c b ρ (fun y S2 => match cmpD o S2 x y with
    | some true => wpE c d ρ (fun z S3 => match cmpD o' S3 y z with
      | some r => k (.bl r) S3
      | none => False) S2
    | some false => k (.bl false) S2
    | none => False) S1) S
  | .neg a, ρ, k, S => wpE c a ρ (fun x S1 => match x with
    | .int i => k (.int (-i)) S1
    | _ => False) S
  | .not a, ρ, k, S => wpE c a ρ (fun x S1 => match truth S1 x with
    | some b => k (.bl (!b)) S1
    | none => False) S
  | .and a b, ρ, k, S => wpE c a ρ (fun x S1 => match truth S1 x with
    | some true => wpE c b ρ k S1
    | some false => k x S1
    | none => False) S
  | .or a b, ρ, k, S => wpE c a ρ (fun x S1 => match truth S1 x with
    | some true => k x S1
    | some false => wpE c b ρ k S1
    | none => False) S
  | .ite t a b, ρ, k, S => wpE c t ρ (fun x S1 => match truth S1 x with
    | some true => wpE c a ρ k S1
    | some false => wpE c b ρ k S1
    | none => False) S
  | .idx a i, ρ, k, S => wpE c a ρ (fun x S1 => wpE c i ρ (fun y S2 => match idxD S2 x y with
    | some z => k z S2
    | none => False) S1) S
  | .sl a lo hi, ρ, k, S => wpE c a ρ (fun x S1 => wpO c lo ρ (fun l S2 => wpO c hi ρ (fun h S3 => match slD S3 x l h with
    | some z => k z S3
    | none => False) S2) S1) S
  | .call f es, ρ, k, S => wpEs c es ρ (fun ds S1 => c.G f ds S1 k (c.E ρ)) S
  | .callk f es ks gs, ρ, k, S => wpEs c es ρ (fun ds S1 => wpEs c gs ρ (fun us S2 => c.G f (ds ++ us) S2 k (c.E ρ)) S1) S
  | .bi b es, ρ, k, S => wpEs c es ρ (fun ds S1 => match biD b S1 ds with
    | some z => k z S1
    | none => False) S
  | .bin es, ρ, k, S => wpEs c es ρ (fun ds S1 => match biD .list S1 ds with
    | some (.lst z) => ∀ p, S1 p = none → k (.ref p) (hput S1 p (.lst z))
    | _ => False) S
  | .lrng nw es, ρ, k, S => wpEs c es ρ (fun ds S1 => match rngOf ds with
    | some z => z.length ≤ sizeLine ∧ if nw then ∀ p, S1 p = none → k (.ref p) (hput S1 p (.lst z)) else k (.lst z) S1
    | none => False) S
  | .isi a ts, ρ, k, S => wpE c a ρ (fun x S1 => match isiD S1 x ts with
    | some b => k (.bl b) S1
    | none => False) S
  | .comp nw elt g it ifs own, ρ, k, S => wpI c it ρ (fun xs ok S1 => ∀ p, S1 p = none →
      cmpL ok p (fun x kk S2 => match asgG S2 g x (wipeD ρ (own.map (·.2))) with
        | some ρ2 => wpT (c.noE) ifs ρ2 (fun b S3 => if b then wpE (c.noE) elt ρ2 (fun y S4 => kk (some y) S4) S3 else kk none S3) S2
        | none => False) xs (fun S2 => ∃ acc, S2 p = some (.lst acc) ∧ if nw then k (.ref p) S2 else k (.lst acc) (hdel S2 p)) (hput S1 p (.lst []))) S
  | .meth m a es, ρ, k, S => wpE c a ρ (fun x S1 => recvOk m S1 x = true ∧ wpEs c es ρ (fun ds S2 => match mthD m S2 x ds with
    | some (z, S3) => k z S3
    | none => False) S1) S
  | .fld a f, ρ, k, S => wpE c a ρ (fun x S1 => match x with
    | .ref a => (match S1 a with
      | some (.ins _ fs) => (match fs.lookup f with
        | some d => k d S1
        | none => False)
      | _ => False)
    | _ => False) S
  | .callm C m a es, ρ, k, S => wpE c a ρ (fun x S1 => (match x with
    | .ref a => (match S1 a with
      | some (.ins C' _) => C' = C
      | _ => False)
    | _ => False) ∧ wpEs c es ρ (fun ds S2 => c.G (C ++ "." ++ m) (x :: ds) S2 k (c.E ρ)) S1) S
  | .mk C es, ρ, k, S => wpEs c es ρ (fun ds S1 => ∀ p, S1 p = none → c.G (C ++ ".__init__") (.ref p :: ds) (hput S1 p (.ins C [])) (fun d S2 => d = .non ∧ k (.ref p) S2) (c.E ρ)) S
  | .bad, _, _, _ => False
  | .xfld f, _, k, S => (match c.xc with
    | some x => (match x.fs.lookup f with
      | some d => k d S
      | none => False)
    | none => False)
  | .ndct t, _, k, S => ∀ p, S p = none → k (.ref p) (hput S p (if t then .dT false [] else .dK false []))
  | .ddct a b, ρ, k, S => wpE c a ρ (fun x S1 => wpE c b ρ (fun y S2 => match x.keyT with
    | some t => ∀ p, S2 p = none → k (.ref p) (hput S2 p (.dT false [(t, y)]))
    | none => False) S1) S
  | .compk elt g e ifs own, ρ, k, S => ∃ a o o' xs, S a = some o ∧ lockO o = some (o', xs) ∧ wpE c e ρ (fun x S1 => x = .ref a ∧ ∀ p, S1 p = none →
      cmpL (fun S' => S' a = some o') p (fun x kk S2 => match asgG S2 g x (wipeD ρ (own.map (·.2))) with
        | some ρ2 => wpT (c.noE) ifs ρ2 (fun b S3 => if b then wpE (c.noE) elt ρ2 (fun y S4 => kk (some y) S4) S3 else kk none S3) S2
        | none => False) xs (fun S2 => ∃ acc, S2 p = some (.lst acc) ∧ k (.lst acc) (hput (hdel S2 p) a o)) (hput S1 p (.lst []))) (hput S a o')
def wpEs (c : Cw) : List CE → Ev → (List D → Hs → Prop) → Hs → Prop
  | [], _, k, S => k [] S
  | e :: es, ρ, k, S => wpE c e ρ (fun x S1 => match e.isStar with
    | false => wpEs c es ρ (fun ds S2 => k (x :: ds) S2) S1
    | true => (match seqOf S1 x with
      | some xs => wpEs c es ρ (fun ds S2 => k (xs ++ ds) S2) S1
      | none => False)) S
def wpO (c : Cw) : Option CE → Ev → (Option Int → Hs → Prop) → Hs → Prop
  | none, _, k, S => k none S
  | some e, ρ, k, S => wpE c e ρ (fun x S1 => match x with
    | .int i => k (some i) S1
    | _ => False) S
/-- tests, all of them -/
def wpT (c : Cw) : List CE → Ev → (Bool → Hs → Prop) → Hs → Prop
  | [], _, k, S => k true S
  | e :: es, ρ, k, S => wpE c e ρ (fun x S1 => match truth S1 x with
    | some true => wpT c es ρ k S1
    | some false => k false S1
    | none => False) S
def wpI (c : Cw) : CI → Ev → (List D → (Hs → Prop) → Hs → Prop) → Hs → Prop
  | .seq e, ρ, k, S => wpE c e ρ (fun x S1 => match itemsOf S1 x with
    | some (ds, ok) => k ds ok S1
    | none => False) S
  | .rng es, ρ, k, S => wpEs c es ρ (fun ds S1 => match rngOf ds with
    | some xs => k xs (fun _ => True) S1
    | none => False) S
  | .enum e, ρ, k, S => wpE c e ρ (fun x S1 => match itemsE S1 x with
    | some (ds, ok) => k (enumFrom' 0 ds) ok S1
    | none => False) S
  | .zip a b, ρ, k, S => wpE c a ρ (fun x S1 => wpE c b ρ (fun y S2 => match itemsE S2 x, itemsE S2 y with
    | some (ds, ok), some (es, ok') => isTupD x = isTupD y ∧ k (zipD ds es) (fun S' => ok S' ∧ ok' S') S2
    | _, _ => False) S1) S
end

structure Fin where
  nx : Ev → Hs → Prop
  rt : DK
  bk : Ev → Hs → Prop
  ct : Ev → Hs → Prop
mutual
def wpS (c : Cw) : CS → Fin → Ev → Hs → Prop
  | .asg g e, F, ρ, S => wpE c e ρ (fun x S1 => match asgG S1 g x ρ with
    | some ρ' => F.nx ρ' S1
    | none => False) S
  | .asgIx o i e, F, ρ, S => wpE c e ρ (fun v S1 => wpE c o ρ (fun x S2 => wpE c i ρ (fun y S3 => match x with
    | .ref a => (match S3 a with
      | some (.lst xs) => (match y with
        | .int j => (match ixN xs.length j with
          | some n => F.nx ρ (hput S3 a (.lst (xs.set n v)))
          | none => False)
        | _ => False)
      | _ => (match dSet S3 x y v with
        | some S4 => F.nx ρ S4
        | none => False))
    | _ => False) S2) S1) S
  | .asgFld o f e, F, ρ, S => wpE c e ρ (fun v S1 => wpE c o ρ (fun x S2 => match x with
    | .ref a => (match S2 a with
      | some (.ins C fs) => fs.length < 900 ∧ F.nx ρ (hput S2 a (.ins C (if (fs.lookup f).isSome then fs.map (fun p => if p.1 = f then (f, v) else p) else fs ++ [(f, v)])))
      | _ => False)
    | _ => False) S1) S
  | .aug i o e, F, ρ, S => (match ρ[i]? with
    | some (some x) => wpE c e ρ (fun y S1 => match opD o x y with
      | some z => F.nx (ρ.set i (some z)) S1
      | none => False) S
    | _ => False)
  | .expr e, F, ρ, S => wpE c e ρ (fun _ S1 => F.nx ρ S1) S
  | .ret e, F, ρ, S => wpE c e ρ F.rt S
  | .retN, F, _, S => F.rt .non S
  | .ifs t a b, F, ρ, S => wpE c t ρ (fun x S1 => match truth S1 x with
    | some true => wpSs c a F ρ S1
    | some false => wpSs c b F ρ S1
    | none => False) S
  | .whl t b, F, ρ, S => ∃ I : Nat → Ev → Hs → Prop, (∃ m, I m ρ S) ∧ ∀ m ρ S, I m ρ S → wpE c t ρ (fun x S1 => match truth S1 x with
    | some true => wpSs c b { nx := fun ρ' S' => ∃ m', m' < m ∧ I m' ρ' S', ct := fun ρ' S' => ∃ m', m' < m ∧ I m' ρ' S', bk := F.nx, rt := F.rt } ρ S1
    | some false => F.nx ρ S1
    | none => False) S
  | .forr g it b, F, ρ, S => wpI c it ρ (fun xs ok S1 => forL ok (fun x k ρ2 S2 => match asgG S2 g x ρ2 with
      | some ρ3 => wpSs c b { nx := k, ct := k, bk := F.nx, rt := F.rt } ρ3 S2
      | none => False) xs F.nx ρ S1) S
  | .fork g e b, F, ρ, S => ∃ a o o' xs, S a = some o ∧ lockO o = some (o', xs) ∧ wpE c e ρ (fun x S1 => x = .ref a ∧ forL (fun S' => S' a = some o') (fun x k ρ2 S2 => match asgG S2 g x ρ2 with
      | some ρ3 => wpSs c.noE b { nx := k, ct := k, bk := fun ρ' S' => S' a = some o' ∧ F.nx ρ' (hput S' a o), rt := fun d S' => S' a = some o' ∧ F.rt d (hput S' a o) } ρ3 S2
      | none => False) xs (fun ρ' S' => F.nx ρ' (hput S' a o)) ρ S1) (hput S a o')
  | .bad, _, _, _ => False
  | .brk, F, ρ, S => F.bk ρ S
  | .cont, F, ρ, S => F.ct ρ S
  | .pass, F, ρ, S => F.nx ρ S
  | .raise C es, F, ρ, S => wpEs c es ρ (fun ds S1 => match c.xf C with
    | some fs => fs.length = ds.length ∧ c.E ρ ⟨C, fs.zip ds⟩ S1
    | none => False) S
  | .tri b hs, F, ρ, S => wpSs { c with E := fun ρ' x S' => wpH c hs F x ρ' S' } b F ρ S
  | .del o i, F, ρ, S => wpE c o ρ (fun x S1 => wpE c i ρ (fun y S2 => match x with
    | .ref a => (match S2 a with
      | some (.dK false kvs) => (match y.key with
        | some k => (dGet kvs k).isSome = true ∧ F.nx ρ (hput S2 a (.dK false (dDrop kvs k)))
        | none => False)
      | some (.dT false kvs) => (match y.keyT with
        | some k => (dGet kvs k).isSome = true ∧ F.nx ρ (hput S2 a (.dT false (dDrop kvs k)))
        | none => False)
      | _ => False)
    | _ => False) S1) S
  | .frz i, F, ρ, S => (match ρ[i]? with
    | some (some (.ref a)) => (match S a with
      | some (.lst xs) => F.nx (ρ.set i (some (.lst xs))) (hdel S a)
      | _ => False)
    | _ => False)
def wpSs (c : Cw) : List CS → Fin → Ev → Hs → Prop
  | [], F, ρ, S => F.nx ρ S
  | s :: r, F, ρ, S => wpS c s { F with nx := fun ρ' S' => wpSs c r F ρ' S' } ρ S
/-- the clauses, in their order -/
def wpH (c : Cw) : List (Str × List CS) → Fin → Exc → Ev → Hs → Prop
  | [], _, x, ρ, S => c.E ρ x S
  | h :: hs, F, x, ρ, S => if c.xs x.C h.1 = true then wpSs { c with xc := some x } h.2 F ρ S else wpH c hs F x ρ S
end

/-! ### programs -/
structure Fn where
  ps : List Str
  N : List Str
  body : List CS
structure Tab where
  fn : Str → Option Fn
  xf : Str → Option (List Str)
  xs : Str → Str → Bool
def Hs.le (S S' : Hs) : Prop := ∀ a o, S a = some o → S' a = some o
/-- calls, so many deep -/
def wpC (T : Tab) : Nat → CallSem
  | 0, _, _, _, _, _ => False
  | n + 1, f, ds, S, k, e => (match T.fn f with
    | some fn => ds.length = fn.ps.length ∧ wpSs ⟨wpC T n, fun _ => e, none, T.xf, T.xs⟩ fn.body
        { nx := fun _ S' => ∃ S2, S2.le S' ∧ k .non S2, rt := fun d S' => ∃ S2, S2.le S' ∧ k d S2, bk := fun _ _ => False, ct := fun _ _ => False }
        (ds.map some ++ List.replicate (fn.N.length - ds.length) none) S
    | none => False)
end Mp

/-! Mp3: the judgements over data, the ground of the soundness. -/
namespace Mp
open PySem PySem.Spec PyProof.Rows L2

def keyOk : Key → Bool
  | .inl _ => true
  | .inr x => PyData.strOk x
section
variable (K : PySem.W.Frag) (mg : Str → Option Value)
def KRel (H : Hp) (S : Hs) : List (Key × D) → List (Key × V) → Prop := Paired fun p q => p.1 = q.1 ∧ keyOk p.1 = true ∧ Rep K H S p.2 q.2
def TRel (H : Hp) (S : Hs) : List (List Int × D) → List (List Key × V) → Prop := Paired fun p q => q.1 = p.1.map Sum.inl ∧ Rep K H S p.2 q.2
def FRel (H : Hp) (S : Hs) : List (Str × D) → List (Str × V) → Prop := Paired fun p q => p.1 = q.1 ∧ Rep K H S p.2 q.2
def ORel (H : Hp) (S : Hs) (a : Addr) : O → Prop
  | .lst ds => ∃ vs, H a = some (.lst vs) ∧ Reps K H S ds vs
  | .dK false kvs => ∃ ks, H a = some (.dK ks) ∧ KRel K H S kvs ks
  | .dK true kvs => ∃ o ks, H a = some (.frz o (.dK ks)) ∧ KRel K H S kvs ks
  | .dT false kvs => ∃ ks, H a = some (.dT ks) ∧ TRel K H S kvs ks
  | .dT true kvs => ∃ o ks, H a = some (.frz o (.dT ks)) ∧ TRel K H S kvs ks
  | .ins C fs => ∃ Ca dx fs', mg C = some (.ref Ca) ∧ H a = some (.ins Ca dx fs') ∧ FRel K H S fs fs'
/-- the lengths of what stands -/
def Sized (H : Hp) : Prop := ∀ a, (∀ xs, H a = some (.lst xs) → xs.length ≤ sizeLine) ∧ (∀ xs, H a = some (.tup xs) → xs.length ≤ sizeLine)
structure Gr (e0 : Hp × Hs) (H : Hp) (S : Hs) : Prop where
  rel : ∀ a o, S a = some o → ORel K mg H S a o
  own : W e0.1 e0.2 H S
structure Gd (e0 : Hp × Hs) (H : Hp) (S : Hs) : Prop extends Gr K mg e0 H S where
  siz : Sized H
def Slots (H : Hp) (S : Hs) (ρ : Ev) (σ : L2.St) : Prop := ρ.length = σ.length ∧ ∀ (i : Nat) (d : D), ρ[i]? = some (some d) → ∃ v, σ[i]? = some (some v) ∧ Rep K H S d v
end

section
variable {K : PySem.W.Frag} {mg : Str → Option Value} {e0 : Hp × Hs} {H H' : Hp} {S S' : Hs} {a p : Addr}
theorem pmap {α β : Type} {F G : α → β → Prop} (f : ∀ a b, F a b → G a b) : ∀ {xs : List α} {ys : List β}, Paired F xs ys → Paired G xs ys
  | _, _, .nil => .nil
  | _, _, .cons h t => .cons (f _ _ h) (pmap f t)
theorem KRel.mono (w : W H S H' S') {l : List (Key × D)} {m : List (Key × V)} (h : KRel K H S l m) : KRel K H' S' l m := pmap (fun _ _ z => ⟨z.1, z.2.1, z.2.2.mono w⟩) h
theorem TRel.mono (w : W H S H' S') {l : List (List Int × D)} {m : List (List Key × V)} (h : TRel K H S l m) : TRel K H' S' l m := pmap (fun _ _ z => ⟨z.1, z.2.mono w⟩) h
theorem FRel.mono (w : W H S H' S') {l : List (Str × D)} {m : List (Str × V)} (h : FRel K H S l m) : FRel K H' S' l m := pmap (fun _ _ z => ⟨z.1, z.2.mono w⟩) h
/-- an object that stands as it was -/
theorem ORel.mono (w : W H S H' S') (e : H' a = H a) {o : O} (h : ORel K mg H S a o) : ORel K mg H' S' a o := by
  cases o with
  | lst ds => obtain ⟨vs, h1, h2⟩ := h; exact ⟨vs, e.trans h1, h2.mono w⟩
  | dK lk kvs => cases lk with
    | false => obtain ⟨ks, h1, h2⟩ := h; exact ⟨ks, e.trans h1, h2.mono w⟩
    | true => obtain ⟨o, ks, h1, h2⟩ := h; exact ⟨o, ks, e.trans h1, h2.mono w⟩
  | dT lk kvs => cases lk with
    | false => obtain ⟨ks, h1, h2⟩ := h; exact ⟨ks, e.trans h1, h2.mono w⟩
    | true => obtain ⟨o, ks, h1, h2⟩ := h; exact ⟨o, ks, e.trans h1, h2.mono w⟩
  | ins C fs => obtain ⟨Ca, dx, fs', h0, h1, h2⟩ := h; exact ⟨Ca, dx, fs', h0, e.trans h1, h2.mono w⟩
theorem ORel.some {o : O} (h : ORel K mg H S a o) : ∃ u, H a = some u := by
  cases o with
  | lst ds => obtain ⟨vs, h1, h2⟩ := h; exact ⟨_, h1⟩
  | dK lk kvs => cases lk with
    | false => obtain ⟨ks, h1, h2⟩ := h; exact ⟨_, h1⟩
    | true => obtain ⟨o, ks, h1, h2⟩ := h; exact ⟨_, h1⟩
  | dT lk kvs => cases lk with
    | false => obtain ⟨ks, h1, h2⟩ := h; exact ⟨_, h1⟩
    | true => obtain ⟨o, ks, h1, h2⟩ := h; exact ⟨_, h1⟩
  | ins C fs => obtain ⟨Ca, dx, fs', h0, h1, h2⟩ := h; exact ⟨_, h1⟩
theorem Gr.fresh (g : Gr K mg e0 H S) (h : H p = none) : S p = none := by
  cases e : S p with
  | none => rfl
  | some o =>
    obtain ⟨u, hu⟩ := (g.rel p o e).some
    rw [h] at hu; cases hu
theorem W.new {o : HO} (h : H p = none) : W H S (upd H p o) S := fun a u ha hs => by
  rw [upd_ne (ne_of_none ha h)]
  exact ⟨ha, hs⟩
/-- a new object that the data heap does not hold -/
theorem Gr.new (g : Gr K mg e0 H S) {o : HO} (h : H p = none) : Gr K mg e0 (upd H p o) S where
  rel := fun a u e => by
    have q := g.rel a u e
    obtain ⟨v, hv⟩ := q.some
    exact q.mono (W.new h) (upd_ne (ne_of_none hv h))
  own := g.own.trans (W.new h)
/-- .. that it holds -/
theorem W.newS {o : HO} {u : O} (h : H p = none) : W H S (upd H p o) (hput S p u) := fun a v ha hs => by
  have ne := ne_of_none ha h
  rw [upd_ne ne, hput_ne ne]
  exact ⟨ha, hs⟩
theorem Gr.newS (g : Gr K mg e0 H S) {o : HO} {u : O} (h : H p = none) (r : ORel K mg (upd H p o) (hput S p u) p u) : Gr K mg e0 (upd H p o) (hput S p u) where
  rel := fun a v e => by
    by_cases ea : a = p
    · subst ea
      rw [hput_same] at e; cases e; exact r
    · rw [hput_ne ea] at e
      have q := g.rel a v e
      exact q.mono (W.newS h) (upd_ne ea)
  own := g.own.trans (W.newS h)
/-- an object changes -/
theorem W.put {o : HO} {u : O} (h : S p ≠ none) : W H S (upd H p o) (hput S p u) := fun a v ha hs => by
  have ne : a ≠ p := fun z => h (z ▸ hs)
  rw [upd_ne ne, hput_ne ne]
  exact ⟨ha, hs⟩
theorem Gr.put (g : Gr K mg e0 H S) {o : HO} {u : O} (h : S p ≠ none) (r : ORel K mg (upd H p o) (hput S p u) p u) : Gr K mg e0 (upd H p o) (hput S p u) where
  rel := fun a v e => by
    by_cases ea : a = p
    · subst ea
      rw [hput_same] at e; cases e; exact r
    · rw [hput_ne ea] at e
      have q := g.rel a v e
      exact q.mono (W.put h) (upd_ne ea)
  own := g.own.trans (W.put h)
/-- less is held -/
theorem W.less (le : ∀ a o, S' a = some o → S a = some o) : W H S H S' := fun a o ha hs => ⟨ha, by
  cases e : S' a with
  | none => rfl
  | some u => rw [le a u e] at hs; cases hs⟩
theorem Gr.less (g : Gr K mg e0 H S) (le : ∀ a o, S' a = some o → S a = some o) : Gr K mg e0 H S' where
  rel := fun a o e => (g.rel a o (le a o e)).mono (W.less le) rfl
  own := g.own.trans (W.less le)
theorem hdel_le {S : Hs} {a : Addr} : ∀ b o, hdel S a b = some o → S b = some o := fun b o h => by
  by_cases e : b = a
  · rw [e, hdel_same] at h; cases h
  · rw [hdel_ne e] at h; exact h
theorem Slots.mono (w : W H S H' S') {ρ : Ev} {σ : L2.St} (h : Slots K H S ρ σ) : Slots K H' S' ρ σ := ⟨h.1, fun i d e => by
  obtain ⟨v, h1, h2⟩ := h.2 i d e
  exact ⟨v, h1, h2.mono w⟩⟩
theorem Slots.set {ρ : Ev} {σ : L2.St} {d : D} {v : V} (h : Slots K H S ρ σ) (r : Rep K H S d v) (i : Nat) : Slots K H S (ρ.set i (some d)) (σ.set i (some v)) := by
  refine ⟨by rw [List.length_set, List.length_set]; exact h.1, fun j e q => ?_⟩
  by_cases hj : j = i
  · subst hj
    by_cases hl : j < ρ.length
    · rw [List.getElem?_set_self hl] at q
      cases q
      exact ⟨v, by rw [List.getElem?_set_self (by rw [← h.1]; exact hl)], r⟩
    · rw [List.getElem?_eq_none (by rw [List.length_set]; omega)] at q; cases q
  · rw [List.getElem?_set_ne (Ne.symm hj)] at q
    rw [List.getElem?_set_ne (Ne.symm hj)]
    exact h.2 j e q
theorem Slots.none {ρ : Ev} {σ : L2.St} (h : Slots K H S ρ σ) (i : Nat) (o : Option V) : Slots K H S (ρ.set i none) (σ.set i o) := by
  refine ⟨by rw [List.length_set, List.length_set]; exact h.1, fun j e q => ?_⟩
  by_cases hj : j = i
  · subst hj
    by_cases hl : j < ρ.length
    · rw [List.getElem?_set_self hl] at q; cases q
    · rw [List.getElem?_eq_none (by rw [List.length_set]; omega)] at q; cases q
  · rw [List.getElem?_set_ne (Ne.symm hj)] at q
    rw [List.getElem?_set_ne (Ne.symm hj)]
    exact h.2 j e q
theorem Slots.wipe {ρ : Ev} {σ : L2.St} (h : Slots K H S ρ σ) : ∀ vs : List Nat, Slots K H S (wipeD ρ vs) (wipe σ vs)
  | [] => h
  | v :: vs => (Slots.wipe h vs).none v _
end

/-! ### lengths, off the state -/
theorem sized_of {X : Cx} {pins : List (Addr × Obj)} {σ : L2.St} {H : Hp} {s : Shared} (I : Inv X pins σ H s) : Sized H := fun a =>
  ⟨fun xs e => (show ObjOk X.prog X.w H s.heap a (.lst xs) from I.hok a _ e).1, fun xs e => (show ObjOk X.prog X.w H s.heap a (.tup xs) from I.hok a _ e).1⟩

/-! ### the judgements -/
section
variable (K : PySem.W.Frag) (mg : Str → Option Value) (e0 : Hp × Hs)
/-- what is left behind an expression: d, S', as k wants -/
def Pe (k : DK) (H : Hp) (S : Hs) : VK := fun v H' => ∃ d S', Gr K mg e0 H' S' ∧ W H S H' S' ∧ Rep K H' S' d v ∧ k d S'
def Pes (k : List D → Hs → Prop) (H : Hp) (S : Hs) : List V → Hp → Prop := fun vs H' => ∃ ds S', Gr K mg e0 H' S' ∧ W H S H' S' ∧ Reps K H' S' ds vs ∧ k ds S'
def Pt (k : Bool → Hs → Prop) (H : Hp) (S : Hs) : Bool → Hp → Prop := fun b H' => ∃ S', Gr K mg e0 H' S' ∧ W H S H' S' ∧ k b S'
/-- the reading by data, of whatever is said of data -/
def rdE (wp : Ev → DK → Hs → Prop) : TE := fun σ H Q => ∃ ρ S k, Gd K mg e0 H S ∧ Slots K H S ρ σ ∧ wp ρ k S ∧ ∀ v H' d S', Gd K mg e0 H' S' → W H S H' S' → Rep K H' S' d v → k d S' → Q v H'
def rdA (wp : Ev → (List D → Hs → Prop) → Hs → Prop) : TA := fun σ H Q => ∃ ρ S k, Gd K mg e0 H S ∧ Slots K H S ρ σ ∧ wp ρ k S ∧ ∀ vs H' ds S', Gd K mg e0 H' S' → W H S H' S' → Reps K H' S' ds vs → k ds S' → Q vs H'
def rdT (wp : Ev → (Bool → Hs → Prop) → Hs → Prop) : TT := fun σ H Q => ∃ ρ S k, Gd K mg e0 H S ∧ Slots K H S ρ σ ∧ wp ρ k S ∧ ∀ b H' S', Gd K mg e0 H' S' → W H S H' S' → k b S' → Q b H'
def rdO (wp : Ev → (Option Int → Hs → Prop) → Hs → Prop) : TO := fun σ H Q => ∃ ρ S k, Gd K mg e0 H S ∧ Slots K H S ρ σ ∧ wp ρ k S ∧ ∀ o H' S', Gd K mg e0 H' S' → W H S H' S' → k o S' → Q o H'
end
section
variable {X : Cx} {e0 : Hp × Hs} {e : Expr} {es : List Expr}
theorem rdE_of {t : TE} {wp : Ev → DK → Hs → Prop} (h : PE X e t) (hi : ∀ σ H ρ S k, Gd X.K X.mg e0 H S → Slots X.K H S ρ σ → wp ρ k S → t σ H (Pe X.K X.mg e0 k H S)) : PE X e (rdE X.K X.mg e0 wp) := by
  refine ⟨fun pins s σ H Q I q => ?_⟩
  obtain ⟨ρ, S, k, g, sl, w, f⟩ := q
  refine thn (h.run pins s σ H _ I (hi σ H ρ S k g sl w)) fun u s' ⟨v, H', I', r, d, S', g', w', r', k'⟩ => ?_
  exact ⟨v, H', I', r, f v H' d S' ⟨g', sized_of I'⟩ w' r' k'⟩
theorem rdA_of {t : TA} {wp : Ev → (List D → Hs → Prop) → Hs → Prop} (h : PA X es t) (hi : ∀ σ H ρ S k, Gd X.K X.mg e0 H S → Slots X.K H S ρ σ → wp ρ k S → t σ H (Pes X.K X.mg e0 k H S)) : PA X es (rdA X.K X.mg e0 wp) := by
  refine ⟨fun pos pins s σ H Q I q => ?_⟩
  obtain ⟨ρ, S, k, g, sl, w, f⟩ := q
  refine thn (h.run pos pins s σ H _ I (hi σ H ρ S k g sl w)) fun u s' ⟨v, H', I', r, d, S', g', w', r', k'⟩ => ?_
  exact ⟨v, H', I', r, f v H' d S' ⟨g', sized_of I'⟩ w' r' k'⟩
theorem rdT_of {t : TT} {wp : Ev → (Bool → Hs → Prop) → Hs → Prop} (h : PT X e t) (hi : ∀ σ H ρ S k, Gd X.K X.mg e0 H S → Slots X.K H S ρ σ → wp ρ k S → t σ H (Pt X.K X.mg e0 k H S)) : PT X e (rdT X.K X.mg e0 wp) := by
  refine ⟨fun pins s σ H Q I q => ?_⟩
  obtain ⟨ρ, S, k, g, sl, w, f⟩ := q
  refine thn (h.run pins s σ H _ I (hi σ H ρ S k g sl w)) fun u s' ⟨H', I', S', g', w', k'⟩ => ?_
  exact ⟨H', I', f u H' S' ⟨g', sized_of I'⟩ w' k'⟩
theorem rdW_of {t : TT} {wp : Ev → (Bool → Hs → Prop) → Hs → Prop} (h : PW X e t) (hi : ∀ σ H ρ S k, Gd X.K X.mg e0 H S → Slots X.K H S ρ σ → wp ρ k S → t σ H (Pt X.K X.mg e0 k H S)) : PW X e (rdT X.K X.mg e0 wp) := by
  refine ⟨fun whole pins s σ H Q I q => ?_⟩
  obtain ⟨ρ, S, k, g, sl, w, f⟩ := q
  refine thn (h.run whole pins s σ H _ I (hi σ H ρ S k g sl w)) fun u s' ⟨H', I', S', g', w', k'⟩ => ?_
  exact ⟨H', I', f u H' S' ⟨g', sized_of I'⟩ w' k'⟩
theorem rdO_of {o : Option Expr} {t : TO} {wp : Ev → (Option Int → Hs → Prop) → Hs → Prop} (h : PO X o t) (hi : ∀ σ H ρ S k, Gd X.K X.mg e0 H S → Slots X.K H S ρ σ → wp ρ k S → t σ H (fun o H' => Pt X.K X.mg e0 (fun _ S' => k o S') H S true H')) : PO X o (rdO X.K X.mg e0 wp) := by
  refine ⟨fun pins s σ H Q I q => ?_⟩
  obtain ⟨ρ, S, k, g, sl, w, f⟩ := q
  refine thn (h.run pins s σ H _ I (hi σ H ρ S k g sl w)) fun u s' ⟨o, H', I', p, S', g', w', k'⟩ => ?_
  exact ⟨o, H', I', p, f o H' S' ⟨g', sized_of I'⟩ w' k'⟩
end

/-! ### results of what leaves the data heap as it is -/
section
variable (K : PySem.W.Frag) (mg : Str → Option Value) (e0 : Hp × Hs)
def VRes (H : Hp) (S : Hs) (z : D) (Q : VK) : Prop := ∀ v H', Gr K mg e0 H' S → W H S H' S → Rep K H' S z v → Q v H'
end
section
variable {K : PySem.W.Frag} {mg : Str → Option Value} {e0 : Hp × Hs} {H : Hp} {S : Hs} {Q : VK} {x : V} {d : D}
theorem VRes.here {z : D} {v : V} (h : VRes K mg e0 H S z Q) (g : Gr K mg e0 H S) (r : Rep K H S z v) : Q v H := h v H g (W.refl H S) r
theorem VRes.int {i : Int} (h : VRes K mg e0 H S (.int i) Q) (g : Gr K mg e0 H S) : Q (.int i) H := h.here g (by unfold Rep; rfl)
theorem VRes.bl {i : Bool} (h : VRes K mg e0 H S (.bl i) Q) (g : Gr K mg e0 H S) : Q (.bl i) H := h.here g (by unfold Rep; rfl)
theorem VRes.non (h : VRes K mg e0 H S .non Q) (g : Gr K mg e0 H S) : Q .non H := h.here g (by unfold Rep; rfl)
theorem VRes.str {i : Str} (h : VRes K mg e0 H S (.str i) Q) (g : Gr K mg e0 H S) (o : PyData.strOk i = true) : Q (.str i) H := h.here g (by unfold Rep; exact ⟨rfl, o⟩)
theorem VRes.tup {ds : List D} {vs : List V} {p : Addr} (h : VRes K mg e0 H S (.tup ds) Q) (g : Gr K mg e0 H S) (r : Reps K H S ds vs) (hp : H p = none) : Q (.ref p) (upd H p (.tup vs)) :=
  h _ _ (g.new hp) (W.new hp) (by unfold Rep; exact ⟨p, vs, rfl, .inl ⟨g.fresh hp, upd_same⟩, r.mono (W.new hp)⟩)
theorem VRes.lst {ds : List D} {vs : List V} {p : Addr} (h : VRes K mg e0 H S (.lst ds) Q) (g : Gr K mg e0 H S) (r : Reps K H S ds vs) (hp : H p = none) : Q (.ref p) (upd H p (.lst vs)) :=
  h _ _ (g.new hp) (W.new hp) (by unfold Rep; exact ⟨p, vs, rfl, g.fresh hp, upd_same, r.mono (W.new hp)⟩)
/-! what a view says of a value -/
theorem vw_lst {ds : List D} (g : Gr K mg e0 H S) (r : Rep K H S d x) (e : vw S d = .lst ds) : ∃ a vs, x = .ref a ∧ H a = some (.lst vs) ∧ Reps K H S ds vs := by
  cases d with
  | ref a =>
    unfold Rep at r
    have e : (match S a with
      | some (.lst ds) => D.lst ds
      | _ => .ref a) = .lst ds := e
    cases q : S a with
    | none => rw [q] at e; cases e
    | some o =>
      rw [q] at e
      cases o with
      | lst es =>
        have : es = ds := by injection e
        subst this
        obtain ⟨vs, h1, h2⟩ := g.rel a _ q
        exact ⟨a, vs, r, h1, h2⟩
      | _ => cases e
  | lst es =>
    have : es = ds := by injection e
    subst this
    obtain ⟨a, vs, h1, _, h3, h4⟩ := r.inj_lst
    exact ⟨a, vs, h1, h3, h4⟩
  | _ => unfold vw at e; cases e
theorem vw_of {y : D} (hy : ∀ ds, y ≠ .lst ds) (e : vw S d = y) : d = y := by
  cases d with
  | ref a =>
    have e : (match S a with
      | some (.lst ds) => D.lst ds
      | _ => .ref a) = y := e
    cases q : S a with
    | none => rw [q] at e; exact e
    | some o =>
      rw [q] at e
      cases o with
      | lst es => exact absurd e.symm (hy es)
      | _ => exact e
  | _ => exact e
theorem vw_tup {ds : List D} (r : Rep K H S d x) (e : vw S d = .tup ds) : ∃ a vs, x = .ref a ∧ TupAt K H S a vs ∧ Reps K H S ds vs := by
  have := vw_of (fun _ h => by cases h) e; subst this; exact r.inj_tup
theorem vw_int {i : Int} (r : Rep K H S d x) (e : vw S d = .int i) : x = .int i := by
  have := vw_of (fun _ h => by cases h) e; subst this; unfold Rep at r; exact r
theorem vw_bl {i : Bool} (r : Rep K H S d x) (e : vw S d = .bl i) : x = .bl i := by
  have := vw_of (fun _ h => by cases h) e; subst this; unfold Rep at r; exact r
theorem vw_str {i : Str} (r : Rep K H S d x) (e : vw S d = .str i) : x = .str i ∧ PyData.strOk i = true := by
  have := vw_of (fun _ h => by cases h) e; subst this; unfold Rep at r; exact r
theorem rep_int {i : Int} (r : Rep K H S (.int i) x) : x = .int i := by unfold Rep at r; exact r
theorem rep_bl {i : Bool} (r : Rep K H S (.bl i) x) : x = .bl i := by unfold Rep at r; exact r
theorem rep_non (r : Rep K H S .non x) : x = .non := by unfold Rep at r; exact r
theorem rep_ref {a : Addr} (r : Rep K H S (.ref a) x) : x = .ref a := by unfold Rep at r; exact r
theorem rep_str {i : Str} (r : Rep K H S (.str i) x) : x = .str i ∧ PyData.strOk i = true := by unfold Rep at r; exact r
end
end Mp

/-! Mp4: operators and built-ins over data. -/
namespace Mp
open PySem PySem.Spec PyProof.Rows L2

/-! ### plain data as the library's -/
mutual
def toP : D → PyData
  | .non => .none
  | .bl b => .bool b
  | .int i => .int i
  | .str x => .str x
  | .tup ds => .tuple (toPs ds)
  | .lst ds => .list (toPs ds)
  | .scr _ => .none
  | .ref _ => .none
def toPs : List D → List PyData
  | [] => []
  | d :: ds => toP d :: toPs ds
end
mutual
theorem dep_toP : ∀ d : D, (toP d).depth = d.dep
  | .non => rfl
  | .bl _ => rfl
  | .int _ => rfl
  | .str _ => rfl
  | .tup ds => by simp only [toP, PyData.depth, D.dep]; rw [deps_toP ds]
  | .lst ds => by simp only [toP, PyData.depth, D.dep]; rw [deps_toP ds]
  | .scr _ => rfl
  | .ref _ => rfl
theorem deps_toP : ∀ ds : List D, PyData.depthAll (toPs ds) = D.deps ds
  | [] => rfl
  | d :: ds => by simp only [toPs, PyData.depthAll, D.deps]; rw [dep_toP d, deps_toP ds]
end
mutual
theorem eqv_toP : ∀ (x y : D), x.plain = true → y.plain = true → PyData.eqv (toP x) (toP y) = D.eqv x y
  | .non, y, _, hy => by cases y <;> simp [toP, PyData.eqv, D.eqv] <;> simp [D.plain] at hy
  | .bl _, y, _, hy => by cases y <;> simp [toP, PyData.eqv, D.eqv, b2n] <;> simp [D.plain] at hy
  | .int _, y, _, hy => by cases y <;> simp [toP, PyData.eqv, D.eqv, b2n] <;> simp [D.plain] at hy
  | .str _, y, _, hy => by cases y <;> simp [toP, PyData.eqv, D.eqv] <;> simp [D.plain] at hy
  | .tup xs, y, hx, hy => by
    cases y with
    | tup ys =>
      simp only [D.plain] at hx hy
      simp only [toP, PyData.eqv, D.eqv]
      exact eqvs_toP xs ys hx hy
    | _ => first | (simp [toP, PyData.eqv, D.eqv]; done) | (simp [D.plain] at hy)
  | .lst xs, y, hx, hy => by
    cases y with
    | lst ys =>
      simp only [D.plain] at hx hy
      simp only [toP, PyData.eqv, D.eqv]
      exact eqvs_toP xs ys hx hy
    | _ => first | (simp [toP, PyData.eqv, D.eqv]; done) | (simp [D.plain] at hy)
  | .scr _, _, hx, _ => by simp [D.plain] at hx
  | .ref _, _, hx, _ => by simp [D.plain] at hx
theorem eqvs_toP : ∀ (xs ys : List D), D.plains xs = true → D.plains ys = true → PyData.eqvAll (toPs xs) (toPs ys) = D.eqvs xs ys
  | [], [], _, _ => rfl
  | [], _ :: _, _, _ => by simp [toPs, PyData.eqvAll, D.eqvs]
  | _ :: _, [], _, _ => by simp [toPs, PyData.eqvAll, D.eqvs]
  | x :: xs, y :: ys, hx, hy => by
    simp only [D.plains, Bool.and_eq_true] at hx hy
    simp only [toPs, PyData.eqvAll, D.eqvs]
    rw [eqv_toP x y hx.1 hy.1, eqvs_toP xs ys hx.2 hy.2]
end
section
variable {K : PySem.W.Frag} {mg : Str → Option Value} {e0 : Hp × Hs} {H : Hp} {S : Hs}
mutual
theorem dp_of : ∀ {d : D} {v : V}, d.plain = true → Rep K H S d v → Dp K H v (toP d) ∧ (toP d).canLay0 = true
  | .non, _, _, h => by unfold Rep at h; subst h; exact ⟨.non, by simp [toP, PyData.canLay0]⟩
  | .bl _, _, _, h => by unfold Rep at h; subst h; exact ⟨.bl _, by simp [toP, PyData.canLay0]⟩
  | .int _, _, _, h => by unfold Rep at h; subst h; exact ⟨.int _, by simp [toP, PyData.canLay0]⟩
  | .str _, _, _, h => by unfold Rep at h; obtain ⟨rfl, o⟩ := h; exact ⟨.str _, by simpa [toP, PyData.canLay0] using o⟩
  | .tup ds, _, p, h => by
    simp only [D.plain] at p
    obtain ⟨a, vs, rfl, t, r⟩ := h.inj_tup
    obtain ⟨q1, q2⟩ := dps_of p r
    exact ⟨.tup t.sq q1, by simpa [toP, PyData.canLay0] using q2⟩
  | .lst ds, _, p, h => by
    simp only [D.plain] at p
    obtain ⟨a, vs, rfl, _, t, r⟩ := h.inj_lst
    obtain ⟨q1, q2⟩ := dps_of p r
    exact ⟨.lst (SqL.of t) q1, by simpa [toP, PyData.canLay0] using q2⟩
  | .scr _, _, p, _ => by simp [D.plain] at p
  | .ref _, _, p, _ => by simp [D.plain] at p
theorem dps_of : ∀ {ds : List D} {vs : List V}, D.plains ds = true → Reps K H S ds vs → DpAll K H vs (toPs ds) ∧ PyData.canLayAll0 (toPs ds) = true
  | [], _, _, h => by unfold Reps at h; subst h; exact ⟨.nil, by simp [toPs, PyData.canLayAll0]⟩
  | d :: ds, _, p, h => by
    simp only [D.plains, Bool.and_eq_true] at p
    unfold Reps at h
    obtain ⟨v, r, rfl, h1, h2⟩ := h
    obtain ⟨q1, q2⟩ := dp_of p.1 h1
    obtain ⟨q3, q4⟩ := dps_of p.2 h2
    exact ⟨.cons q1 q3, by simp [toPs, PyData.canLayAll0, q2, q4]⟩
end
theorem D.ok_iff {d : D} (h : d.ok = true) : d.plain = true ∧ d.dep ≤ 64 := by
  unfold D.ok at h
  rw [Bool.and_eq_true] at h
  exact ⟨h.1, of_decide_eq_true h.2⟩
theorem shaped_of {d : D} {v : V} (h : d.ok = true) (r : Rep K H S d v) : Dp K H v (toP d) ∧ SeqAt.shaped (toP d) = true := by
  obtain ⟨p, q⟩ := D.ok_iff h
  obtain ⟨h1, h2⟩ := dp_of p r
  refine ⟨h1, ?_⟩
  unfold SeqAt.shaped
  rw [h2, dep_toP, decide_eq_true q]; rfl
/-- of a view -/
theorem shaped_vw {d : D} {v : V} (g : Gr K mg e0 H S) (h : (vw S d).ok = true) (r : Rep K H S d v) : Dp K H v (toP (vw S d)) ∧ SeqAt.shaped (toP (vw S d)) = true := by
  cases e : vw S d with
  | lst ds =>
    obtain ⟨a, vs, rfl, h1, h2⟩ := vw_lst g r e
    rw [e] at h
    obtain ⟨p, q⟩ := D.ok_iff h
    have p' : D.plains ds = true := by simpa [D.plain] using p
    obtain ⟨q1, q2⟩ := dps_of p' h2
    refine ⟨.lst (SqL.of h1) q1, ?_⟩
    unfold SeqAt.shaped
    rw [show (toP (.lst ds)).canLay0 = true by simpa [toP, PyData.canLay0] using q2, dep_toP, decide_eq_true q]; rfl
  | _ =>
    have e2 := vw_of (fun _ h => by cases h) e
    rw [e] at h
    rw [← e2] at h ⊢
    exact shaped_of h r
theorem any_toP {d : D} (pd : d.plain = true) : ∀ {ds : List D}, D.plains ds = true → ((toPs ds).any fun z => PyData.eqv z (toP d)) = ds.any fun z => D.eqv z d
  | [], _ => rfl
  | x :: xs, h => by
    simp only [D.plains, Bool.and_eq_true] at h
    simp only [toPs, List.any_cons]
    rw [eqv_toP x d h.1 pd, any_toP pd h.2]
end

/-! ### two-place operations -/
section
variable (X : Cx) (e0 : Hp × Hs)
def P2 (f : Value → Value → Sem Value) (F : Hs → D → D → Option D) : Prop := ∃ r, OpR X f r ∧ ∀ H S x y d1 d2 z Q, Gd X.K X.mg e0 H S → Rep X.K H S d1 x → Rep X.K H S d2 y → F S d1 d2 = some z → VRes X.K X.mg e0 H S z Q → r x y H Q
/-- a comparison: the heap stays -/
def P2B (f : Value → Value → Sem Value) (F : Hs → D → D → Option Bool) : Prop := ∃ r, OpR X f r ∧ ∀ H S x y d1 d2 b (Q : VK), Gd X.K X.mg e0 H S → Rep X.K H S d1 x → Rep X.K H S d2 y → F S d1 d2 = some b → Q (.bl b) H → r x y H Q
end
section
variable {X : Cx} {e0 : Hp × Hs}
def rAddS : R2 := fun x y H Q => ∃ i j, x = .str i ∧ y = .str j ∧ i.length + j.length ≤ sizeLine ∧ Q (.str (i ++ j)) H
theorem strOk_app {a b : Str} (ha : PyData.strOk a = true) (hb : PyData.strOk b = true) : PyData.strOk (a ++ b) = true := by
  unfold PyData.strOk at *
  show ((a.cps ++ b.cps).all _) = true
  rw [Array.all_append, ha, hb]; rfl
theorem p2_add : P2 X e0 (binaryOp .Add) (fun S a b => opD .Add (vw S a) (vw S b)) := by
  refine ⟨_, OpR.or op_add (OpR.or op_add_str (OpR.or op_catA op_cat)), fun H S x y d1 d2 z Q g r1 r2 h q => ?_⟩
  cases e1 : vw S d1 with
  | int i =>
    cases e2 : vw S d2 with
    | int j =>
      simp only [e1, e2, opD, Option.some.injEq] at h; subst h
      exact .inl ⟨i, j, vw_int r1 e1, vw_int r2 e2, q.int g.toGr⟩
    | _ => simp [e1, e2, opD] at h
  | str a =>
    cases e2 : vw S d2 with
    | str b =>
      simp only [e1, e2, opD] at h
      split at h
      · simp only [Option.some.injEq] at h; subst h
        obtain ⟨rfl, o1⟩ := vw_str r1 e1
        obtain ⟨rfl, o2⟩ := vw_str r2 e2
        exact .inr (.inl ⟨a, b, rfl, rfl, ‹_›, q.str g.toGr (strOk_app o1 o2)⟩)
      · cases h
    | _ => simp [e1, e2, opD] at h
  | tup xs =>
    cases e2 : vw S d2 with
    | tup ys =>
      simp only [e1, e2, opD] at h
      split at h
      · rename_i hl
        simp only [Option.some.injEq] at h; subst h
        have d1e := vw_of (fun _ h => by cases h) e1
        have d2e := vw_of (fun _ h => by cases h) e2
        obtain ⟨a, vs, rfl, t1, q1⟩ := vw_tup r1 e1
        obtain ⟨b, us, rfl, t2, q2⟩ := vw_tup r2 e2
        refine .inr (.inr (.inl ⟨a, b, vs, us, rfl, rfl, t1.sq, t2.sq, by rw [← q1.length, ← q2.length]; exact hl, fun e => ?_, fun _ e => ?_, fun _ _ p hp => q.tup g.toGr (q1.append q2) hp⟩))
        · have : xs = [] := by
            have := q1.length
            rw [e] at this
            exact List.length_eq_zero_iff.mp this
          subst this
          exact q.here g.toGr (by rw [List.nil_append, ← d2e]; exact r2)
        · have : ys = [] := by
            have := q2.length
            rw [e] at this
            exact List.length_eq_zero_iff.mp this
          subst this
          exact q.here g.toGr (by rw [List.append_nil, ← d1e]; exact r1)
      · cases h
    | _ => simp [e1, e2, opD] at h
  | lst xs =>
    cases e2 : vw S d2 with
    | lst ys =>
      simp only [e1, e2, opD] at h
      split at h
      · rename_i hl
        simp only [Option.some.injEq] at h; subst h
        obtain ⟨a, vs, rfl, t1, q1⟩ := vw_lst g.toGr r1 e1
        obtain ⟨b, us, rfl, t2, q2⟩ := vw_lst g.toGr r2 e2
        exact .inr (.inr (.inr ⟨a, b, vs, us, rfl, rfl, t1, t2, by rw [← q1.length, ← q2.length]; exact hl, fun p hp => q.lst g.toGr (q1.append q2) hp⟩))
      · cases h
    | _ => simp [e1, e2, opD] at h
  | _ => cases e2 : vw S d2 <;> simp [e1, e2, opD] at h
theorem p2_sub : P2 X e0 (binaryOp .Sub) (fun S a b => opD .Sub (vw S a) (vw S b)) := by
  refine ⟨_, op_sub, fun H S x y d1 d2 z Q g r1 r2 h q => ?_⟩
  cases e1 : vw S d1 with
  | int i =>
    cases e2 : vw S d2 with
    | int j =>
      simp only [e1, e2, opD, Option.some.injEq] at h; subst h
      exact ⟨i, j, vw_int r1 e1, vw_int r2 e2, q.int g.toGr⟩
    | _ => simp [e1, e2, opD] at h
  | _ => cases e2 : vw S d2 <;> simp [e1, e2, opD] at h
theorem Reps.rep {K : PySem.W.Frag} {H : Hp} {S : Hs} {ds : List D} {vs : List V} (h : Reps K H S ds vs) : ∀ k : Nat, Reps K H S (List.replicate k ds).flatten (List.replicate k vs).flatten
  | 0 => .nil
  | k + 1 => by
    rw [List.replicate_succ, List.replicate_succ, List.flatten_cons, List.flatten_cons]
    exact h.append (Reps.rep h k)
theorem p2_mul : P2 X e0 (binaryOp .Mult) (fun S a b => opD .Mult (vw S a) (vw S b)) := by
  refine ⟨_, OpR.or op_mul (OpR.or op_rep op_repT), fun H S x y d1 d2 z Q g r1 r2 h q => ?_⟩
  cases e1 : vw S d1 with
  | int i =>
    cases e2 : vw S d2 with
    | int j =>
      simp only [e1, e2, opD] at h
      split at h
      · rename_i hm
        simp only [Option.some.injEq] at h; subst h
        refine .inl ⟨i, j, vw_int r1 e1, vw_int r2 e2, ?_, q.int g.toGr⟩
        unfold mulOk at hm
        simp only [Bool.or_eq_true, Bool.and_eq_true, decide_eq_true_eq] at hm
        exact hm
      · cases h
    | _ => simp [e1, e2, opD] at h
  | lst xs =>
    cases e2 : vw S d2 with
    | int k =>
      simp only [e1, e2, opD] at h
      split at h
      · rename_i hm
        simp only [Option.some.injEq] at h; subst h
        simp only [Bool.and_eq_true, decide_eq_true_eq] at hm
        obtain ⟨a, vs, rfl, t1, q1⟩ := vw_lst g.toGr r1 e1
        exact .inr (.inl ⟨a, k, vs, rfl, vw_int r2 e2, t1, hm.1.1, hm.1.2, by rw [← q1.length]; exact hm.2, fun p hp => q.lst g.toGr (q1.rep _) hp⟩)
      · cases h
    | _ => simp [e1, e2, opD] at h
  | tup xs =>
    cases e2 : vw S d2 with
    | int k =>
      simp only [e1, e2, opD] at h
      split at h
      · rename_i hm
        simp only [Option.some.injEq] at h; subst h
        simp only [Bool.and_eq_true, decide_eq_true_eq] at hm
        obtain ⟨a, vs, rfl, t1, q1⟩ := vw_tup r1 e1
        refine .inr (.inr ⟨a, k, vs, rfl, vw_int r2 e2, t1.sq, fun z => ?_, hm.1.1.2, hm.1.2, by rw [← q1.length]; exact hm.2, fun p hp => q.tup g.toGr (q1.rep _) hp⟩)
        subst z
        exact hm.1.1.1 (List.length_eq_zero_iff.mp q1.length)
      · cases h
    | _ => simp [e1, e2, opD] at h
  | _ => cases e2 : vw S d2 <;> simp [e1, e2, opD] at h
theorem p2_mod : P2 X e0 (binaryOp .Mod) (fun S a b => opD .Mod (vw S a) (vw S b)) := by
  refine ⟨_, op_mod, fun H S x y d1 d2 z Q g r1 r2 h q => ?_⟩
  cases e1 : vw S d1 with
  | int i =>
    cases e2 : vw S d2 with
    | int j =>
      simp only [e1, e2, opD] at h
      split at h
      · simp only [Option.some.injEq] at h; subst h
        exact ⟨i, j, vw_int r1 e1, vw_int r2 e2, ‹_›, q.int g.toGr⟩
      · cases h
    | _ => simp [e1, e2, opD] at h
  | _ => cases e2 : vw S d2 <;> simp [e1, e2, opD] at h
theorem p2_fdiv : P2 X e0 (binaryOp .FloorDiv) (fun S a b => opD .FloorDiv (vw S a) (vw S b)) := by
  refine ⟨_, op_fdiv, fun H S x y d1 d2 z Q g r1 r2 h q => ?_⟩
  cases e1 : vw S d1 with
  | int i =>
    cases e2 : vw S d2 with
    | int j =>
      simp only [e1, e2, opD] at h
      split at h
      · simp only [Option.some.injEq] at h; subst h
        exact ⟨i, j, vw_int r1 e1, vw_int r2 e2, ‹_›, q.int g.toGr⟩
      · cases h
    | _ => simp [e1, e2, opD] at h
  | _ => cases e2 : vw S d2 <;> simp [e1, e2, opD] at h
theorem p2_pow : P2 X e0 (binaryOp .Pow) (fun S a b => opD .Pow (vw S a) (vw S b)) := by
  refine ⟨_, op_pow, fun H S x y d1 d2 z Q g r1 r2 h q => ?_⟩
  cases e1 : vw S d1 with
  | int i =>
    cases e2 : vw S d2 with
    | int j =>
      simp only [e1, e2, opD] at h
      split at h
      · rename_i hm
        simp only [Option.some.injEq] at h; subst h
        exact ⟨i, j, vw_int r1 e1, vw_int r2 e2, ⟨hm.1, by omega, hm.2.2⟩, q.int g.toGr⟩
      · cases h
    | _ => simp [e1, e2, opD] at h
  | _ => cases e2 : vw S d2 <;> simp [e1, e2, opD] at h
theorem p2_op (o : Operator) (ho : o = .Add ∨ o = .Sub ∨ o = .Mult ∨ o = .Mod ∨ o = .FloorDiv ∨ o = .Pow) : P2 X e0 (binaryOp o) (fun S a b => opD o (vw S a) (vw S b)) := by
  rcases ho with rfl | rfl | rfl | rfl | rfl | rfl
  · exact p2_add
  · exact p2_sub
  · exact p2_mul
  · exact p2_mod
  · exact p2_fdiv
  · exact p2_pow

/-! ### comparisons -/
theorem p2_eq (hu : X.A.units + 64 < cLine) : P2B X e0 (compareOp .Eq) (cmpD .Eq) := by
  refine ⟨_, op_eqD hu, fun H S x y d1 d2 z Q g r1 r2 h q => ?_⟩
  simp only [cmpD, eqD] at h
  split at h
  · rename_i hk
    rw [Bool.and_eq_true] at hk
    simp only [Option.map_some, Option.some.injEq] at h; subst h
    obtain ⟨a1, a2⟩ := shaped_vw g.toGr hk.1 r1
    obtain ⟨b1, b2⟩ := shaped_vw g.toGr hk.2 r2
    exact ⟨_, _, a1, b1, a2, b2, by rw [eqv_toP _ _ (D.ok_iff hk.1).1 (D.ok_iff hk.2).1]; exact q⟩
  · cases h
theorem p2_ne (hu : X.A.units + 64 < cLine) : P2B X e0 (compareOp .NotEq) (cmpD .NotEq) := by
  refine ⟨_, op_neD hu, fun H S x y d1 d2 z Q g r1 r2 h q => ?_⟩
  simp only [cmpD, eqD] at h
  split at h
  · rename_i hk
    rw [Bool.and_eq_true] at hk
    simp only [Option.map_some, Option.some.injEq] at h; subst h
    obtain ⟨a1, a2⟩ := shaped_vw g.toGr hk.1 r1
    obtain ⟨b1, b2⟩ := shaped_vw g.toGr hk.2 r2
    exact ⟨_, _, a1, b1, a2, b2, by rw [eqv_toP _ _ (D.ok_iff hk.1).1 (D.ok_iff hk.2).1]; exact q⟩
  · cases h
theorem p2_lt : P2B X e0 (compareOp .Lt) (cmpD .Lt) := by
  refine ⟨_, op_lt, fun H S x y d1 d2 z Q g r1 r2 h q => ?_⟩
  simp only [cmpD, ltD] at h
  split at h
  · simp only [Option.map_some, Option.some.injEq] at h; subst h
    exact ⟨_, _, rep_int r1, rep_int r2, q⟩
  · cases h
theorem p2_gt : P2B X e0 (compareOp .Gt) (cmpD .Gt) := by
  refine ⟨_, op_gt, fun H S x y d1 d2 z Q g r1 r2 h q => ?_⟩
  simp only [cmpD, ltD] at h
  split at h
  · simp only [Option.map_some, Option.some.injEq] at h; subst h
    exact ⟨_, _, rep_int r1, rep_int r2, q⟩
  · cases h
theorem p2_le : P2B X e0 (compareOp .LtE) (cmpD .LtE) := by
  refine ⟨_, op_le, fun H S x y d1 d2 z Q g r1 r2 h q => ?_⟩
  simp only [cmpD] at h
  split at h
  · simp only [Option.map_some, Option.some.injEq] at h; subst h
    exact ⟨_, _, rep_int r1, rep_int r2, q⟩
  · cases h
theorem p2_ge : P2B X e0 (compareOp .GtE) (cmpD .GtE) := by
  refine ⟨_, op_ge, fun H S x y d1 d2 z Q g r1 r2 h q => ?_⟩
  simp only [cmpD] at h
  split at h
  · simp only [Option.map_some, Option.some.injEq] at h; subst h
    exact ⟨_, _, rep_int r1, rep_int r2, q⟩
  · cases h
theorem isN_of {K : PySem.W.Frag} {H : Hp} {S : Hs} {d : D} {x : V} {b : Bool} (r : Rep K H S d x) (h : isN d = some b) : decide (x = V.non) = b := by
  cases d with
  | non => unfold Rep at r; subst r; simpa [isN] using h
  | bl i => unfold Rep at r; subst r; simpa [isN] using h
  | int i => unfold Rep at r; subst r; simpa [isN] using h
  | str i => unfold Rep at r; obtain ⟨rfl, _⟩ := r; simpa [isN] using h
  | tup ds => obtain ⟨a, vs, rfl, _⟩ := r.inj_tup; simpa [isN] using h
  | lst ds => obtain ⟨a, vs, rfl, _⟩ := r.inj_lst; simpa [isN] using h
  | scr ns => simp [isN] at h
  | ref a => unfold Rep at r; subst r; simpa [isN] using h
theorem p2_is : P2B X e0 (compareOp .Is) (cmpD .Is) := by
  refine ⟨_, op_isN, fun H S x y d1 d2 z Q g r1 r2 h q => ?_⟩
  simp only [cmpD] at h
  split at h
  · cases e : isN d1 with
    | none => rw [e] at h; cases h
    | some b =>
      rw [e] at h
      simp only [Option.map_some, Option.some.injEq] at h; subst h
      refine ⟨rep_non r2, ?_⟩
      rw [isN_of r1 e]
      exact q
  · cases h
theorem p2_isnot : P2B X e0 (compareOp .IsNot) (cmpD .IsNot) := by
  refine ⟨_, op_notN, fun H S x y d1 d2 z Q g r1 r2 h q => ?_⟩
  simp only [cmpD] at h
  split at h
  · cases e : isN d1 with
    | none => rw [e] at h; cases h
    | some b =>
      rw [e] at h
      simp only [Option.map_some, Option.some.injEq] at h; subst h
      refine ⟨rep_non r2, ?_⟩
      rw [isN_of r1 e]
      exact q
  · cases h
/-- x in t, t a tuple of data of any depth -/
def rInT (K : PySem.W.Frag) : R2 := fun x y H Q => ∃ d ds, Dp K H x d ∧ Dp K H y (.tuple ds) ∧ SeqAt.shaped d = true ∧ SeqAt.shaped (.tuple ds) = true ∧ Q (.bl (ds.any fun z => PyData.eqv z d)) H
def rNotInT (K : PySem.W.Frag) : R2 := fun x y H Q => ∃ d ds, Dp K H x d ∧ Dp K H y (.tuple ds) ∧ SeqAt.shaped d = true ∧ SeqAt.shaped (.tuple ds) = true ∧ Q (.bl (!ds.any fun z => PyData.eqv z d)) H
theorem op_inT (hu : X.A.units + 65 < cLine) : OpR X (compareOp .In) (rInT X.K) := by
  intro pins s σ H x y v u Q I rx ry h
  obtain ⟨d, ds, hd, he, sd, se, q⟩ := h
  obtain ⟨as, r1⟩ := Dp.reads I d x v hd rx
  obtain ⟨bs, r2⟩ := Dp.reads I (.tuple ds) y u he ry
  exact SeqAt.in_tuple_reads r2 r1 (SeqAt.canLay_of_shaped se) (SeqAt.canLay_of_shaped sd) (room_in_shaped sd hu) ⟨.bl _, H, I, rfl, q⟩
theorem op_notInT (hu : X.A.units + 65 < cLine) : OpR X (compareOp .NotIn) (rNotInT X.K) := by
  intro pins s σ H x y v u Q I rx ry h
  obtain ⟨d, ds, hd, he, sd, se, q⟩ := h
  obtain ⟨as, r1⟩ := Dp.reads I d x v hd rx
  obtain ⟨bs, r2⟩ := Dp.reads I (.tuple ds) y u he ry
  exact SeqAt.notIn_tuple_reads r2 r1 (SeqAt.canLay_of_shaped se) (SeqAt.canLay_of_shaped sd) (room_in_shaped sd hu) ⟨.bl _, H, I, rfl, q⟩
end
end Mp

/-! Mp5: dicts, membership, items, slices, built-ins, isinstance, methods over data. -/
namespace Mp
open PySem PySem.Spec PyProof.Rows L2

/-! ### dicts -/
theorem intsOf_some : ∀ {ds : List D} {ns : List Int}, intsOf ds = some ns → ds = ns.map .int
  | [], _, h => by simp only [intsOf, Option.some.injEq] at h; subst h; rfl
  | .int i :: ds, _, h => by
    simp only [intsOf, Option.map_eq_some_iff] at h
    obtain ⟨m, h1, rfl⟩ := h
    rw [intsOf_some h1]; rfl
  | .non :: _, _, h => by simp [intsOf] at h
  | .bl _ :: _, _, h => by simp [intsOf] at h
  | .str _ :: _, _, h => by simp [intsOf] at h
  | .tup _ :: _, _, h => by simp [intsOf] at h
  | .lst _ :: _, _, h => by simp [intsOf] at h
  | .scr _ :: _, _, h => by simp [intsOf] at h
  | .ref _ :: _, _, h => by simp [intsOf] at h
theorem intsOf_map : ∀ ns : List Int, intsOf (ns.map D.int) = some ns
  | [] => rfl
  | n :: ns => by simp only [List.map_cons, intsOf, intsOf_map ns, Option.map_some]
theorem keyT_some {d : D} {ns : List Int} (h : d.keyT = some ns) : d = tD ns := by
  cases d with
  | tup ds => unfold tD; rw [intsOf_some (show intsOf ds = some ns from h)]
  | _ => cases h
theorem key_some {d : D} {k : Key} (h : d.key = some k) : d = kD k := by
  cases d with
  | int i => simp only [D.key, Option.some.injEq] at h; subst h; rfl
  | str i => simp only [D.key, Option.some.injEq] at h; subst h; rfl
  | _ => cases h
theorem inl_inj {a b : List Int} (h : a.map (Sum.inl : Int → Key) = b.map Sum.inl) : a = b := by
  induction a generalizing b with
  | nil => cases b with
    | nil => rfl
    | cons _ _ => cases h
  | cons x a ih => cases b with
    | nil => cases h
    | cons y b =>
      simp only [List.map_cons, List.cons.injEq] at h
      rw [Sum.inl.inj h.1, ih h.2]
theorem inl_kV (ns : List Int) : (ns.map (Sum.inl : Int → Key)).map kV = ns.map V.int := by
  rw [List.map_map]; rfl
section
variable {K : PySem.W.Frag} {mg : Str → Option Value} {e0 : Hp × Hs} {H : Hp} {S : Hs}
theorem rep_key {k : Key} {x : V} (r : Rep K H S (kD k) x) : x = kV k ∧ keyOk k = true := by
  cases k with
  | inl i => exact ⟨rep_int r, rfl⟩
  | inr i => exact rep_str r
theorem rep_kD {k : Key} (h : keyOk k = true) : Rep K H S (kD k) (kV k) := by
  cases k with
  | inl i => show Rep K H S (.int i) (.int i); unfold Rep; rfl
  | inr i => show Rep K H S (.str i) (.str i); unfold Rep; exact ⟨rfl, h⟩
theorem rep_tD {ns : List Int} {x : V} (r : Rep K H S (tD ns) x) : ∃ b, x = .ref b ∧ H b = some (.tup ((ns.map (Sum.inl : Int → Key)).map kV)) := by
  obtain ⟨a, vs, rfl, t, q⟩ := Rep.inj_tup (ds := ns.map .int) r
  have := q.of_ints; subst this
  exact ⟨a, rfl, by rw [inl_kV]; exact t.ints⟩
/-- what both dicts hold -/
theorem KRel.val {k : Key} : ∀ {l : List (Key × D)} {m : List (Key × V)}, KRel K H S l m → (dGet l k = none ∧ valV m k = none) ∨ ∃ d v, dGet l k = some d ∧ valV m k = some v ∧ Rep K H S d v
  | _, _, .nil => .inl ⟨rfl, rfl⟩
  | (k1, d) :: l, (k2, v) :: m, .cons h t => by
    obtain ⟨e, ok, r⟩ := h
    simp only at e ok r
    subst e
    by_cases hk : k1 = k
    · refine .inr ⟨d, v, ?_, valV_pos hk, r⟩
      unfold dGet
      rw [List.find?_cons_of_pos (by simpa using hk)]; rfl
    · have e1 : dGet ((k1, d) :: l) k = dGet l k := by
        unfold dGet
        rw [List.find?_cons_of_neg (by simpa using hk)]
      rw [e1, valV_neg hk]
      exact KRel.val t
theorem TRel.val {k : List Int} : ∀ {l : List (List Int × D)} {m : List (List Key × V)}, TRel K H S l m → (dGet l k = none ∧ valV m (k.map Sum.inl) = none) ∨ ∃ d v, dGet l k = some d ∧ valV m (k.map Sum.inl) = some v ∧ Rep K H S d v
  | _, _, .nil => .inl ⟨rfl, rfl⟩
  | (k1, d) :: l, (k2, v) :: m, .cons h t => by
    obtain ⟨e, r⟩ := h
    simp only at e r
    subst e
    by_cases hk : k1 = k
    · refine .inr ⟨d, v, ?_, valV_pos (by show k1.map Sum.inl = _; rw [hk]), r⟩
      unfold dGet
      rw [List.find?_cons_of_pos (by simpa using hk)]; rfl
    · have e1 : dGet ((k1, d) :: l) k = dGet l k := by
        unfold dGet
        rw [List.find?_cons_of_neg (by simpa using hk)]
      have hk' : ¬ k1.map (Sum.inl : Int → Key) = k.map Sum.inl := fun z => hk (inl_inj z)
      rw [e1, valV_neg hk']
      exact TRel.val t
/-- the library's look-up, from ours -/
theorem dAt_get {a : Addr} {d : D} {x : V} {o : Option D} (g : Gr K mg e0 H S) (r : Rep K H S d x) (h : dAt S (.ref a) d = some o) :
    ∃ o' : Option V, DGet H a x o' ∧ IsD H a ∧ ((o = none ∧ o' = none) ∨ ∃ e v, o = some e ∧ o' = some v ∧ Rep K H S e v) := by
  have h : (match S a with
    | some (.dK _ kvs) => (d.key).map fun k => dGet kvs k
    | some (.dT _ kvs) => (d.keyT).map fun k => dGet kvs k
    | _ => none) = some o := h
  cases q : S a with
  | none => rw [q] at h; cases h
  | some u =>
    rw [q] at h
    have rl := g.rel a u q
    cases u with
    | lst _ => cases h
    | ins _ _ => cases h
    | dK lk kvs =>
      obtain ⟨k, hk, ho⟩ := Option.map_eq_some_iff.mp (show (d.key).map (fun k => dGet kvs k) = some o from h)
      have e := key_some hk; subst e
      obtain ⟨rfl, ok⟩ := rep_key r
      obtain ⟨ks, rd, kr⟩ : ∃ ks, Rd H a (.dK ks) ∧ KRel K H S kvs ks := by
        cases lk with
        | false => obtain ⟨ks, h1, h2⟩ := rl; exact ⟨ks, .inl h1, h2⟩
        | true => obtain ⟨o, ks, h1, h2⟩ := rl; exact ⟨ks, .inr ⟨o, h1⟩, h2⟩
      refine ⟨valV ks k, .inl ⟨ks, k, rd, rfl, rfl⟩, .inl ⟨ks, rd⟩, ?_⟩
      subst ho
      exact kr.val
    | dT lk kvs =>
      obtain ⟨k, hk, ho⟩ := Option.map_eq_some_iff.mp (show (d.keyT).map (fun k => dGet kvs k) = some o from h)
      have e := keyT_some hk; subst e
      obtain ⟨b, rfl, hb⟩ := rep_tD r
      obtain ⟨ks, rd, kr⟩ : ∃ ks, Rd H a (.dT ks) ∧ TRel K H S kvs ks := by
        cases lk with
        | false => obtain ⟨ks, h1, h2⟩ := rl; exact ⟨ks, .inl h1, h2⟩
        | true => obtain ⟨o, ks, h1, h2⟩ := rl; exact ⟨ks, .inr ⟨o, h1⟩, h2⟩
      refine ⟨valV ks (k.map Sum.inl), .inr ⟨ks, k.map Sum.inl, b, rd, rfl, hb, rfl⟩, .inr ⟨ks, rd⟩, ?_⟩
      subst ho
      exact kr.val
theorem KRel.length {l : List (Key × D)} {m : List (Key × V)} (h : KRel K H S l m) : l.length = m.length := Paired.length h
theorem TRel.length {l : List (List Int × D)} {m : List (List Key × V)} (h : TRel K H S l m) : l.length = m.length := Paired.length h
theorem KRel.any {k : Key} {l : List (Key × D)} {m : List (Key × V)} (h : KRel K H S l m) : (l.any fun kv => decide (kv.1 = k)) = m.any fun kv => decide (kv.1 = k) := by
  induction h with
  | nil => rfl
  | cons h t ih => rw [List.any_cons, List.any_cons, ih, h.1]
theorem TRel.any {k : List Int} {l : List (List Int × D)} {m : List (List Key × V)} (h : TRel K H S l m) : (l.any fun kv => decide (kv.1 = k)) = m.any fun kv => decide (kv.1 = k.map Sum.inl) := by
  induction h with
  | nil => rfl
  | @cons p q ps qs h t ih =>
    rw [List.any_cons, List.any_cons, ih, h.1]
    have : decide (p.1 = k) = decide (p.1.map (Sum.inl : Int → Key) = k.map Sum.inl) := by
      by_cases e : p.1 = k
      · rw [decide_eq_true e, decide_eq_true (by rw [e])]
      · rw [decide_eq_false e, decide_eq_false (fun z => e (inl_inj z))]
    rw [this]
theorem psnoc {α β : Type} {F : α → β → Prop} {a : α} {b : β} (h : F a b) : ∀ {l : List α} {m : List β}, Paired F l m → Paired F (l ++ [a]) (m ++ [b])
  | _, _, .nil => .cons h .nil
  | _, _, .cons x t => .cons x (psnoc h t)
theorem KRel.put {k : Key} (ok : keyOk k = true) {d : D} {v : V} (r : Rep K H S d v) {l : List (Key × D)} {m : List (Key × V)} (h : KRel K H S l m) : KRel K H S (dPut l k d) (putK m k v) := by
  unfold dPut putK
  rw [h.any]
  split
  · induction h with
    | nil => exact .nil
    | @cons p q ps qs h t ih =>
      rw [List.map_cons, List.map_cons]
      refine .cons ?_ ?_
      · obtain ⟨e, o, rr⟩ := h
        try simp only
        by_cases hk : p.1 = k
        · rw [if_pos hk, if_pos (e ▸ hk)]; exact ⟨e, o, r⟩
        · rw [if_neg hk, if_neg (e ▸ hk)]; exact ⟨e, o, rr⟩
      · clear ih
        have : ∀ {l : List (Key × D)} {m : List (Key × V)}, KRel K H S l m → KRel K H S (l.map fun kv => if kv.1 = k then (kv.1, d) else kv) (m.map fun kv => if kv.1 = k then (kv.1, v) else kv) := by
          intro l m h
          induction h with
          | nil => exact .nil
          | @cons p q ps qs h t ih =>
            refine .cons ?_ ih
            obtain ⟨e, o, rr⟩ := h
            try simp only
            by_cases hk : p.1 = k
            · rw [if_pos hk, if_pos (e ▸ hk)]; exact ⟨e, o, r⟩
            · rw [if_neg hk, if_neg (e ▸ hk)]; exact ⟨e, o, rr⟩
        exact this t
  · exact psnoc ⟨rfl, ok, r⟩ h
theorem TRel.put {k : List Int} {d : D} {v : V} (r : Rep K H S d v) {l : List (List Int × D)} {m : List (List Key × V)} (h : TRel K H S l m) : TRel K H S (dPut l k d) (putK m (k.map Sum.inl) v) := by
  unfold dPut putK
  rw [h.any]
  split
  · have : ∀ {l : List (List Int × D)} {m : List (List Key × V)}, TRel K H S l m → TRel K H S (l.map fun kv => if kv.1 = k then (kv.1, d) else kv) (m.map fun kv => if kv.1 = k.map Sum.inl then (kv.1, v) else kv) := by
      intro l m h
      induction h with
      | nil => exact .nil
      | @cons p q ps qs h t ih =>
        refine .cons ?_ ih
        obtain ⟨e, rr⟩ := h
        try simp only
        by_cases hk : p.1 = k
        · rw [if_pos hk, if_pos (by rw [e, hk])]; exact ⟨e, r⟩
        · rw [if_neg hk, if_neg (by rw [e]; exact fun z => hk (inl_inj z))]; exact ⟨e, rr⟩
    exact this h
  · exact psnoc ⟨rfl, r⟩ h
end

section
variable {X : Cx} {e0 : Hp × Hs}
/-! ### membership -/
def rDIn : R2 := fun x y H Q => ∃ a o, y = .ref a ∧ DGet H a x o ∧ Q (.bl o.isSome) H
def rDNotIn : R2 := fun x y H Q => ∃ a o, y = .ref a ∧ DGet H a x o ∧ Q (.bl (!o.isSome)) H
theorem op_din (hu : X.A.units + 1 < cLine) : OpR X (compareOp .In) rDIn := by
  intro pins s σ H x y v u Q I rx ry h
  obtain ⟨a, o, rfl, g, q⟩ := h
  obtain rfl : u = .ref a := ry
  exact d_in hu I g rx fun s' I' => ⟨.bl _, H, I', rfl, q⟩
theorem op_dnotin (hu : X.A.units + 1 < cLine) : OpR X (compareOp .NotIn) rDNotIn := by
  intro pins s σ H x y v u Q I rx ry h
  obtain ⟨a, o, rfl, g, q⟩ := h
  obtain rfl : u = .ref a := ry
  exact d_notIn hu I g rx fun s' I' => ⟨.bl _, H, I', rfl, q⟩
theorem lst_ok {ds : List D} (h : (D.lst ds).ok = true) : D.plains ds = true ∧ D.deps ds + 1 ≤ 64 := by
  obtain ⟨p, q⟩ := D.ok_iff h
  exact ⟨by simpa [D.plain] using p, by simpa [D.dep] using q⟩
theorem one_sign {x : Str} (h : x.length = 1) : x = ⟨#[x.cps.getD 0 0]⟩ := by
  obtain ⟨a⟩ := x
  have h : a.size = 1 := h
  obtain ⟨l⟩ := a
  match l, h with
  | [c], _ => rfl
theorem shapedL {K : PySem.W.Frag} {H : Hp} {S : Hs} {ds : List D} {vs : List V} {a : Addr} (h : (D.lst ds).ok = true) (ha : H a = some (.lst vs)) (r : Reps K H S ds vs) : Dp K H (.ref a) (.list (toPs ds)) ∧ SeqAt.shaped (.list (toPs ds)) = true := by
  obtain ⟨p, q⟩ := lst_ok h
  obtain ⟨q1, q2⟩ := dps_of p r
  refine ⟨.lst (SqL.of ha) q1, ?_⟩
  unfold SeqAt.shaped
  simp only [PyData.canLay0, PyData.depth, q2, deps_toP, Bool.true_and, decide_eq_true_eq]
  exact q
theorem shapedT {K : PySem.W.Frag} {H : Hp} {S : Hs} {ds : List D} {vs : List V} {a : Addr} (h : (D.lst ds).ok = true) (ha : TupAt K H S a vs) (r : Reps K H S ds vs) : Dp K H (.ref a) (.tuple (toPs ds)) ∧ SeqAt.shaped (.tuple (toPs ds)) = true := by
  obtain ⟨p, q⟩ := lst_ok h
  obtain ⟨q1, q2⟩ := dps_of p r
  refine ⟨.tup ha.sq q1, ?_⟩
  unfold SeqAt.shaped
  simp only [PyData.canLay0, PyData.depth, q2, deps_toP, Bool.true_and, decide_eq_true_eq]
  exact q
/-- what every road of `in` asks -/
theorem in_cases {H : Hp} {S : Hs} {x y : V} {d1 d2 : D} {b : Bool} (hu : X.A.units + 65 < cLine) (g : Gd X.K X.mg e0 H S) (r1 : Rep X.K H S d1 x) (r2 : Rep X.K H S d2 y) (h : inAny S d1 d2 = some b) :
    (∃ d ds, Dp X.K H x d ∧ Dp X.K H y (.list ds) ∧ SeqAt.shaped d = true ∧ SeqAt.shaped (.list ds) = true ∧ (ds.any fun z => PyData.eqv z d) = b) ∨
    (∃ d ds, Dp X.K H x d ∧ Dp X.K H y (.tuple ds) ∧ SeqAt.shaped d = true ∧ SeqAt.shaped (.tuple ds) = true ∧ (ds.any fun z => PyData.eqv z d) = b) ∨
    (∃ (c : Nat) (z : Str), x = .str ⟨#[c]⟩ ∧ y = .str z ∧ decide (c ∈ z.cps.toList) = b) ∨
    (∃ a o, y = .ref a ∧ DGet H a x o ∧ o.isSome = b) := by
  cases d2 with
  | tup ds =>
    have h : inD d1 ds = some b := h
    unfold inD at h
    split at h
    · rename_i hk
      rw [Bool.and_eq_true] at hk
      simp only [Option.some.injEq] at h
      obtain ⟨a, vs, rfl, t, rr⟩ := r2.inj_tup
      obtain ⟨a1, a2⟩ := shaped_of hk.1 r1
      obtain ⟨b1, b2⟩ := shapedT hk.2 t rr
      exact .inr (.inl ⟨_, _, a1, b1, a2, b2, by rw [any_toP (D.ok_iff hk.1).1 (lst_ok hk.2).1]; exact h⟩)
    · cases h
  | lst ds =>
    have h : inD d1 ds = some b := h
    unfold inD at h
    split at h
    · rename_i hk
      rw [Bool.and_eq_true] at hk
      simp only [Option.some.injEq] at h
      obtain ⟨a, vs, rfl, _, t, rr⟩ := r2.inj_lst
      obtain ⟨a1, a2⟩ := shaped_of hk.1 r1
      obtain ⟨b1, b2⟩ := shapedL hk.2 t rr
      exact .inl ⟨_, _, a1, b1, a2, b2, by rw [any_toP (D.ok_iff hk.1).1 (lst_ok hk.2).1]; exact h⟩
    · cases h
  | str z =>
    cases d1 with
    | str w =>
      have h : (if w.length = 1 then some (decide (w.cps.getD 0 0 ∈ z.cps.toList)) else none) = some b := h
      split at h
      · rename_i hl
        simp only [Option.some.injEq] at h
        obtain ⟨rfl, _⟩ := rep_str r1
        obtain ⟨rfl, _⟩ := rep_str r2
        exact .inr (.inr (.inl ⟨_, z, congrArg V.str (one_sign hl), rfl, h⟩))
      · cases h
    | _ => cases h
  | ref a =>
    have e2 := rep_ref r2
    subst e2
    have h : (match S a with
      | some (.lst ds) => inD d1 ds
      | _ => (dAt S (.ref a) d1).map (·.isSome)) = some b := h
    have dict : (dAt S (.ref a) d1).map (·.isSome) = some b → ∃ a' o, V.ref a = .ref a' ∧ DGet H a' x o ∧ o.isSome = b := fun h => by
      obtain ⟨o, h1, h2⟩ := Option.map_eq_some_iff.mp h
      obtain ⟨o', g1, _, g2⟩ := dAt_get g.toGr r1 h1
      refine ⟨a, o', rfl, g1, ?_⟩
      rw [← h2]
      rcases g2 with ⟨rfl, rfl⟩ | ⟨e, v, rfl, rfl, _⟩ <;> rfl
    cases q : S a with
    | none => rw [q] at h; exact .inr (.inr (.inr (dict h)))
    | some u =>
      rw [q] at h
      cases u with
      | lst ds =>
        have h : inD d1 ds = some b := h
        unfold inD at h
        split at h
        · rename_i hk
          rw [Bool.and_eq_true] at hk
          simp only [Option.some.injEq] at h
          obtain ⟨vs, t, rr⟩ := g.rel a _ q
          obtain ⟨a1, a2⟩ := shaped_of hk.1 r1
          obtain ⟨b1, b2⟩ := shapedL hk.2 t rr
          exact .inl ⟨_, _, a1, b1, a2, b2, by rw [any_toP (D.ok_iff hk.1).1 (lst_ok hk.2).1]; exact h⟩
        · cases h
      | dK _ _ => exact .inr (.inr (.inr (dict h)))
      | dT _ _ => exact .inr (.inr (.inr (dict h)))
      | ins _ _ => exact .inr (.inr (.inr (dict h)))
  | _ => cases h
theorem p2_in (hu : X.A.units + 65 < cLine) : P2B X e0 (compareOp .In) (cmpD .In) := by
  refine ⟨_, OpR.or (op_inD hu) (OpR.or (op_inT hu) (OpR.or op_in_sign (op_din (by omega)))), fun H S x y d1 d2 z Q g r1 r2 h q => ?_⟩
  have fin := q
  rcases in_cases hu g r1 r2 h with ⟨d, ds, a1, a2, a3, a4, rfl⟩ | ⟨d, ds, a1, a2, a3, a4, rfl⟩ | ⟨c, z, rfl, rfl, rfl⟩ | ⟨a, o, rfl, a1, rfl⟩
  · exact .inl ⟨d, ds, a1, a2, a3, a4, fin⟩
  · exact .inr (.inl ⟨d, ds, a1, a2, a3, a4, fin⟩)
  · exact .inr (.inr (.inl ⟨c, z, rfl, rfl, fin⟩))
  · exact .inr (.inr (.inr ⟨a, o, rfl, a1, fin⟩))
theorem p2_notin (hu : X.A.units + 65 < cLine) : P2B X e0 (compareOp .NotIn) (cmpD .NotIn) := by
  refine ⟨_, OpR.or (op_notInD hu) (OpR.or (op_notInT hu) (OpR.or op_notIn_sign (op_dnotin (by omega)))), fun H S x y d1 d2 z Q g r1 r2 h q => ?_⟩
  obtain ⟨b, hin, h3⟩ := Option.map_eq_some_iff.mp h
  subst h3
  have fin := q
  rcases in_cases hu g r1 r2 hin with ⟨d, ds, a1, a2, a3, a4, rfl⟩ | ⟨d, ds, a1, a2, a3, a4, rfl⟩ | ⟨c, z, rfl, rfl, rfl⟩ | ⟨a, o, rfl, a1, rfl⟩
  · exact .inl ⟨d, ds, a1, a2, a3, a4, fin⟩
  · exact .inr (.inl ⟨d, ds, a1, a2, a3, a4, fin⟩)
  · exact .inr (.inr (.inl ⟨c, z, rfl, rfl, fin⟩))
  · exact .inr (.inr (.inr ⟨a, o, rfl, a1, fin⟩))
theorem p2_cmp (o : CmpOp) (hu : X.A.units + 65 < cLine) : P2B X e0 (compareOp o) (cmpD o) := by
  cases o with
  | Eq => exact p2_eq (by omega)
  | NotEq => exact p2_ne (by omega)
  | Lt => exact p2_lt
  | LtE => exact p2_le
  | Gt => exact p2_gt
  | GtE => exact p2_ge
  | Is => exact p2_is
  | IsNot => exact p2_isnot
  | In => exact p2_in hu
  | NotIn => exact p2_notin hu
end
end Mp

/-! Mp6: expressions over data. -/
namespace Mp
open PySem PySem.Spec PyProof.Rows L2

/-- a test's answer -/
def wpB (c : Cw) (ce : CE) : Ev → (Bool → Hs → Prop) → Hs → Prop := fun ρ k S => wpE c ce ρ (fun x S1 => match truth S1 x with
  | some b => k b S1
  | none => False) S
abbrev DE (X : Cx) (e0 : Hp × Hs) (c : Cw) (e : Expr) (ce : CE) : Prop := PE X e (rdE X.K X.mg e0 (wpE c ce))
abbrev DT (X : Cx) (e0 : Hp × Hs) (c : Cw) (e : Expr) (ce : CE) : Prop := PT X e (rdT X.K X.mg e0 (wpB c ce))
abbrev DW (X : Cx) (e0 : Hp × Hs) (c : Cw) (e : Expr) (ce : CE) : Prop := PW X e (rdT X.K X.mg e0 (wpB c ce))
abbrev DA (X : Cx) (e0 : Hp × Hs) (c : Cw) (es : List Expr) (ces : List CE) : Prop := PA X es (rdA X.K X.mg e0 (wpEs c ces))
abbrev DO (X : Cx) (e0 : Hp × Hs) (c : Cw) (e : Option Expr) (ce : Option CE) : Prop := PO X e (rdO X.K X.mg e0 (wpO c ce))

theorem PE.orr {X : Cx} {e : Expr} {t u : TE} (h : PE X e t) (h' : PE X e u) : PE X e (fun σ H Q => t σ H Q ∨ u σ H Q) :=
  ⟨fun pins s σ H Q I q => q.elim (h.run pins s σ H Q I) (h'.run pins s σ H Q I)⟩

section
variable {X : Cx} {e0 : Hp × Hs} {c : Cw} {pos : Pos} {a b d e : Expr} {es : List Expr} {ca cb cd ce : CE} {ces : List CE}
/-! ### truth -/
theorem tru_of {H : Hp} {S : Hs} {x : D} {v : V} {k : Bool} (g : Gd X.K X.mg e0 H S) (r : Rep X.K H S x v) (h : truth S x = some k) : TruV X.K v H k := by
  cases x with
  | non => have := rep_non r; subst this; exact (Option.some.inj h).symm
  | bl i => have := rep_bl r; subst this; exact (Option.some.inj h).symm
  | int i => have := rep_int r; subst this; exact (Option.some.inj h).symm
  | str i =>
    obtain ⟨rfl, _⟩ := rep_str r
    have h : (if i.length ≤ sizeLine then some ((i.length : Int) != 0) else none) = some k := h
    split at h
    · exact ⟨‹_›, (Option.some.inj h).symm⟩
    · cases h
  | tup ds =>
    obtain ⟨p, vs, rfl, t, q⟩ := r.inj_tup
    refine .inr (.inl ⟨vs, t.sq, ?_⟩)
    have h : some (!ds.isEmpty) = some k := h
    rw [← Option.some.inj h]
    have := q.length
    cases ds <;> cases vs <;> simp at this ⊢
  | lst ds =>
    obtain ⟨p, vs, rfl, _, t, q⟩ := r.inj_lst
    refine .inl ⟨vs, SqL.of t, ?_⟩
    have h : some (!ds.isEmpty) = some k := h
    rw [← Option.some.inj h]
    have := q.length
    cases ds <;> cases vs <;> simp at this ⊢
  | scr _ => cases h
  | ref p =>
    have := rep_ref r; subst this
    have h : (match S p with
      | some (.lst ds) => some (!ds.isEmpty)
      | _ => none) = some k := h
    cases q : S p with
    | none => rw [q] at h; cases h
    | some o =>
      rw [q] at h
      cases o with
      | lst ds =>
        obtain ⟨vs, t, q⟩ := g.rel p _ q
        refine .inl ⟨vs, SqL.of t, ?_⟩
        have h : some (!ds.isEmpty) = some k := h
        rw [← Option.some.inj h]
        have := q.length
        cases ds <;> cases vs <;> simp at this ⊢
      | _ => cases h
/-- any expression of its own truth, as a test -/
theorem dt_of (h : DE X e0 c e ce) (he : ∀ whole, isTrue e X.env whole = (do let v ← whole; standAt e.pos; holding [v] (truthy v))) : DT X e0 c e ce := by
  refine rdT_of (pt_truth h he) fun σ H ρ S k g sl w => ?_
  refine ⟨ρ, S, _, g, sl, w, fun x H1 d1 S1 g1 w1 r1 k1 => ?_⟩
  split at k1
  · rename_i b hb
    exact ⟨b, tru_of g1 r1 hb, S1, g1.toGr, w1, k1⟩
  · exact k1.elim
/-! ### names, constants -/
theorem de_var {i : Nat} {x : Str} (hN : X.N[i]? = some x) (hv : Vis X.env.scope x) (h1 : (x == ("__debug__" : Str)) = false) (h2 : (x == ("__classdict__" : Str)) = false) : DE X e0 c (.Name x pos) (.var i) := by
  refine rdE_of (pe_var hN hv h1 h2) fun σ H ρ S k g sl w => ?_
  simp only [wpE] at w
  split at w
  · rename_i d hd
    obtain ⟨v, hv, r⟩ := sl.2 i d hd
    exact ⟨v, hv, d, S, g.toGr, W.refl H S, r, w⟩
  · exact w.elim
theorem de_val {d : D} {v : V} (h : PE X e (tC v)) (r : ∀ H S, Rep X.K H S d v) {ce : CE} (hw : ∀ ρ k S, wpE c ce ρ k S → k d S) : DE X e0 c e ce := by
  refine rdE_of h fun σ H ρ S k g sl w => ?_
  exact ⟨d, S, g.toGr, W.refl H S, r H S, hw ρ k S w⟩
theorem de_non {j} : DE X e0 c (.Constant .none j pos) (.con .non) := de_val (d := .non) pe_non (fun _ _ => by unfold Rep; rfl) fun _ _ _ w => by simpa only [wpE] using w
theorem de_bl {j b} : DE X e0 c (.Constant (.bool b) j pos) (.con (.bl b)) := de_val (d := .bl b) pe_bl (fun _ _ => by unfold Rep; rfl) fun _ _ _ w => by simpa only [wpE] using w
theorem de_int {j i} : DE X e0 c (.Constant (.int i) j pos) (.con (.int i)) := de_val (d := .int i) pe_int (fun _ _ => by unfold Rep; rfl) fun _ _ _ w => by simpa only [wpE] using w
theorem de_str {j x} (o : PyData.strOk x = true) : DE X e0 c (.Constant (.str x) j pos) (.con (.str x)) := de_val (d := .str x) pe_str (fun _ _ => by unfold Rep; exact ⟨rfl, o⟩) fun _ _ _ w => by simpa only [wpE] using w
theorem de_glob {x : Str} {v : V} {u : Value} {d : D} (hg : Gl X x) (hm : X.mg x = some u) (rv : RelV v u) (r : ∀ H S, Rep X.K H S d v) (hd : (x == ("__debug__" : Str)) = false) : DE X e0 c (.Name x pos) (.glob x d) :=
  de_val (pe_glob hg hm rv hd) r fun _ _ _ w => by simpa only [wpE] using w
/-! ### rows of expressions, displays -/
def notStar : Expr → Bool
  | .Starred _ _ => false
  | _ => true
theorem star_no (h : notStar e = true) : starEach (e :: es) X.env = (false, eval e X.env) :: starEach es X.env := by
  cases e <;> first | rfl | (simp [notStar] at h)
theorem da_nil : DA X e0 c [] [] := by
  refine rdA_of pa_nil fun σ H ρ S k g sl w => ?_
  simp only [wpEs] at w
  exact ⟨[], S, g.toGr, W.refl H S, .nil, w⟩
theorem da_cons (ha : DE X e0 c e ce) (hr : DA X e0 c es ces) (hs : notStar e = true) (hc : ce.isStar = false) : DA X e0 c (e :: es) (ce :: ces) := by
  refine rdA_of (pa_cons ha hr (star_no hs)) fun σ H ρ S k g sl w => ?_
  simp only [wpEs, hc] at w
  refine ⟨ρ, S, _, g, sl, w, fun x H1 d1 S1 g1 w1 r1 k1 => ⟨ρ, S1, _, g1, sl.mono w1, k1, fun xs H2 ds S2 g2 w2 r2 k2 => ?_⟩⟩
  exact ⟨d1 :: ds, S2, g2.toGr, w1.trans w2, .cons (r1.mono w2) r2, k2⟩
theorem seqOf_cases {H : Hp} {S : Hs} {x : D} {v : V} {ds : List D} (g : Gr X.K X.mg e0 H S) (r : Rep X.K H S x v) (h : seqOf S x = some ds) :
    ∃ p vs, v = .ref p ∧ (SqT X.K H p vs ∨ SqL X.K H p vs) ∧ Reps X.K H S ds vs := by
  cases x with
  | tup es =>
    have : es = ds := Option.some.inj h
    subst this
    obtain ⟨p, vs, rfl, t, q⟩ := r.inj_tup
    exact ⟨p, vs, rfl, .inl t.sq, q⟩
  | lst es =>
    have : es = ds := Option.some.inj h
    subst this
    obtain ⟨p, vs, rfl, _, t, q⟩ := r.inj_lst
    exact ⟨p, vs, rfl, .inr (SqL.of t), q⟩
  | ref p =>
    have := rep_ref r; subst this
    have h : (match S p with
      | some (.lst ds) => some ds
      | _ => none) = some ds := h
    cases q : S p with
    | none => rw [q] at h; cases h
    | some o =>
      rw [q] at h
      cases o with
      | lst es =>
        have : es = ds := Option.some.inj h
        subst this
        obtain ⟨vs, t, q⟩ := g.rel p _ q
        exact ⟨p, vs, rfl, .inr (SqL.of t), q⟩
      | _ => cases h
  | _ => cases h
theorem da_star {p : Pos} (ha : DE X e0 c e ce) (hr : DA X e0 c es ces) : DA X e0 c (.Starred e p :: es) (.star ce :: ces) := by
  refine rdA_of (StX.pa_star ha hr) fun σ H ρ S k g sl w => ?_
  simp only [wpEs, CE.isStar, wpE] at w
  refine ⟨ρ, S, _, g, sl, w, fun x H1 d1 S1 g1 w1 r1 k1 => ?_⟩
  split at k1
  · rename_i xs hx
    obtain ⟨p, vs, rfl, t, q⟩ := seqOf_cases g1.toGr r1 hx
    refine ⟨p, vs, rfl, t, ρ, S1, _, g1, sl.mono w1, k1, fun ys H2 ds S2 g2 w2 r2 k2 => ?_⟩
    exact ⟨xs ++ ds, S2, g2.toGr, w1.trans w2, (q.mono w2).append r2, k2⟩
  · exact k1.elim
theorem de_tup {j} (h : DA X e0 c es ces) : DE X e0 c (.Tuple es j pos) (.tup ces) := by
  refine rdE_of (pe_tup h) fun σ H ρ S k g sl w => ?_
  simp only [wpE] at w
  refine ⟨ρ, S, _, g, sl, w, fun xs H1 ds S1 g1 w1 r1 k1 => ⟨by rw [← r1.length]; exact k1.1, fun p hp => ?_⟩⟩
  exact ⟨.tup ds, S1, g1.toGr.new hp, w1.trans (W.new hp), by unfold Rep; exact ⟨p, xs, rfl, .inl ⟨g1.toGr.fresh hp, upd_same⟩, r1.mono (W.new hp)⟩, k1.2⟩
theorem de_lst (h : DA X e0 c es ces) : DE X e0 c (.List es pos) (.lst ces) := by
  refine rdE_of (pe_lst h) fun σ H ρ S k g sl w => ?_
  simp only [wpE] at w
  refine ⟨ρ, S, _, g, sl, w, fun xs H1 ds S1 g1 w1 r1 k1 => ⟨by rw [← r1.length]; exact k1.1, fun p hp => ?_⟩⟩
  exact ⟨.lst ds, S1, g1.toGr.new hp, w1.trans (W.new hp), by unfold Rep; exact ⟨p, xs, rfl, g1.toGr.fresh hp, upd_same, r1.mono (W.new hp)⟩, k1.2⟩
/-- a new list that the data heap holds -/
theorem newL {H : Hp} {S : Hs} {ds : List D} {vs : List V} {p : Addr} {k : DK} {H0 : Hp} {S0 : Hs} (g : Gr X.K X.mg e0 H S) (w0 : W H0 S0 H S) (r : Reps X.K H S ds vs) (hp : H p = none) (hk : ∀ p, S p = none → k (.ref p) (hput S p (.lst ds))) : Pe X.K X.mg e0 k H0 S0 (.ref p) (upd H p (.lst vs)) :=
  ⟨.ref p, _, g.newS (u := .lst ds) hp ⟨vs, upd_same, r.mono (W.newS hp)⟩, w0.trans (W.newS hp), by unfold Rep; rfl, hk p (g.fresh hp)⟩
theorem de_nlst (h : DA X e0 c es ces) : DE X e0 c (.List es pos) (.nlst ces) := by
  refine rdE_of (pe_lst h) fun σ H ρ S k g sl w => ?_
  simp only [wpE] at w
  exact ⟨ρ, S, _, g, sl, w, fun xs H1 ds S1 g1 w1 r1 k1 => ⟨by rw [← r1.length]; exact k1.1, fun p hp => newL g1.toGr w1 r1 hp k1.2⟩⟩
theorem de_ndct {t : Bool} : DE X e0 c (.Dict [] [] pos) (.ndct t) := by
  cases t with
  | false =>
    refine rdE_of pe_dnewK fun σ H ρ S k g sl w => fun p hp => ?_
    simp only [wpE] at w
    exact ⟨.ref p, _, g.toGr.newS (u := .dK false []) hp ⟨[], upd_same, .nil⟩, W.newS hp, by unfold Rep; rfl, w p (g.toGr.fresh hp)⟩
  | true =>
    refine rdE_of pe_dnewT fun σ H ρ S k g sl w => fun p hp => ?_
    simp only [wpE] at w
    exact ⟨.ref p, _, g.toGr.newS (u := .dT false []) hp ⟨[], upd_same, .nil⟩, W.newS hp, by unfold Rep; rfl, w p (g.toGr.fresh hp)⟩
/-! ### operators -/
theorem de_op {o : Operator} (ho : o = .Add ∨ o = .Sub ∨ o = .Mult ∨ o = .Mod ∨ o = .FloorDiv ∨ o = .Pow) (ha : DE X e0 c a ca) (hb : DE X e0 c b cb) : DE X e0 c (.BinOp a o b pos) (.op o ca cb) := by
  obtain ⟨r, hr, f⟩ := p2_op (X := X) (e0 := e0) o ho
  refine rdE_of (pe_op hr ha hb) fun σ H ρ S k g sl w => ?_
  simp only [wpE] at w
  refine ⟨ρ, S, _, g, sl, w, fun x H1 d1 S1 g1 w1 r1 k1 => ⟨ρ, S1, _, g1, sl.mono w1, k1, fun y H2 d2 S2 g2 w2 r2 k2 => ?_⟩⟩
  split at k2
  · rename_i z hz
    exact f H2 S2 x y d1 d2 z _ g2 (r1.mono w2) r2 hz fun v H' g' w' r' => ⟨z, S2, g', (w1.trans w2).trans w', r', k2⟩
  · exact k2.elim
def notSet : Expr → Bool
  | .Set _ _ _ => false
  | _ => true
theorem nomarks {o : CmpOp} (h : notSet b = true) : behindInMarks o b = false := by
  cases b <;> first | rfl | (simp [notSet] at h)
theorem de_cmp {o : CmpOp} (hu : X.A.units + 65 < cLine) (ha : DE X e0 c a ca) (hb : DE X e0 c b cb) (hn : notSet b = true) : DE X e0 c (.Compare a [o] [b] pos) (.cmp o ca cb) ∧ DT X e0 c (.Compare a [o] [b] pos) (.cmp o ca cb) := by
  obtain ⟨r, hr, f⟩ := p2_cmp (X := X) (e0 := e0) o hu
  constructor
  · refine rdE_of (pe_cmpR hr ha hb (nomarks hn)) fun σ H ρ S k g sl w => ?_
    simp only [wpE] at w
    refine ⟨ρ, S, _, g, sl, w, fun x H1 d1 S1 g1 w1 r1 k1 => ⟨ρ, S1, _, g1, sl.mono w1, k1, fun y H2 d2 S2 g2 w2 r2 k2 => ?_⟩⟩
    split at k2
    · rename_i z hz
      exact f H2 S2 x y d1 d2 z _ g2 (r1.mono w2) r2 hz ⟨.bl z, S2, g2.toGr, w1.trans w2, by unfold Rep; rfl, k2⟩
    · exact k2.elim
  · refine rdT_of (pt_cmpR hr ha hb (nomarks hn)) fun σ H ρ S k g sl w => ?_
    simp only [wpB, wpE] at w
    refine ⟨ρ, S, _, g, sl, w, fun x H1 d1 S1 g1 w1 r1 k1 => ⟨ρ, S1, _, g1, sl.mono w1, k1, fun y H2 d2 S2 g2 w2 r2 k2 => ?_⟩⟩
    split at k2
    · rename_i z hz
      exact f H2 S2 x y d1 d2 z _ g2 (r1.mono w2) r2 hz ⟨z, rfl, S2, g2.toGr, w1.trans w2, k2⟩
    · exact k2.elim
theorem de_cmp2 {o o' : CmpOp} (hu : X.A.units + 65 < cLine) (ha : DE X e0 c a ca) (hb : DE X e0 c b cb) (hd : DE X e0 c d cd) (hn : notSet d = true) : DE X e0 c (.Compare a [o, o'] [b, d] pos) (.cmp2 o o' ca cb cd) ∧ DT X e0 c (.Compare a [o, o'] [b, d] pos) (.cmp2 o o' ca cb cd) := by
  obtain ⟨r, hr, f⟩ := p2_cmp (X := X) (e0 := e0) o hu
  obtain ⟨r', hr', f'⟩ := p2_cmp (X := X) (e0 := e0) o' hu
  constructor
  · refine rdE_of (pe_chain hr hr' ha hb hd (nomarks hn)) fun σ H ρ S k g sl w => ?_
    simp only [wpE] at w
    refine ⟨ρ, S, _, g, sl, w, fun x H1 d1 S1 g1 w1 r1 k1 => ⟨ρ, S1, _, g1, sl.mono w1, k1, fun y H2 d2 S2 g2 w2 r2 k2 => ?_⟩⟩
    split at k2
    · rename_i hz
      refine f H2 S2 x y d1 d2 true _ g2 (r1.mono w2) r2 hz ⟨true, rfl, iteT ?_⟩
      refine ⟨ρ, S2, _, g2, sl.mono (w1.trans w2), k2, fun z H4 d4 S4 g4 w4 r4 k4 => ?_⟩
      split at k4
      · rename_i z hz'
        exact f' H4 S4 y _ d2 d4 z _ g4 (r2.mono w4) r4 hz' ⟨.bl z, S4, g4.toGr, (w1.trans w2).trans w4, by unfold Rep; rfl, k4⟩
      · exact k4.elim
    · rename_i hz
      exact f H2 S2 x y d1 d2 false _ g2 (r1.mono w2) r2 hz ⟨false, rfl, iteF ⟨.bl false, S2, g2.toGr, w1.trans w2, by unfold Rep; rfl, k2⟩⟩
    · exact k2.elim
  · refine rdT_of (pt_chain hr hr' ha hb hd (nomarks hn)) fun σ H ρ S k g sl w => ?_
    simp only [wpB, wpE] at w
    refine ⟨ρ, S, _, g, sl, w, fun x H1 d1 S1 g1 w1 r1 k1 => ⟨ρ, S1, _, g1, sl.mono w1, k1, fun y H2 d2 S2 g2 w2 r2 k2 => ?_⟩⟩
    split at k2
    · rename_i hz
      refine f H2 S2 x y d1 d2 true _ g2 (r1.mono w2) r2 hz ⟨true, rfl, iteT ?_⟩
      refine ⟨ρ, S2, _, g2, sl.mono (w1.trans w2), k2, fun z H4 d4 S4 g4 w4 r4 k4 => ?_⟩
      split at k4
      · rename_i z hz'
        exact f' H4 S4 y _ d2 d4 z _ g4 (r2.mono w4) r4 hz' ⟨z, rfl, S4, g4.toGr, (w1.trans w2).trans w4, k4⟩
      · exact k4.elim
    · rename_i hz
      exact f H2 S2 x y d1 d2 false _ g2 (r1.mono w2) r2 hz ⟨false, rfl, iteF ⟨false, rfl, S2, g2.toGr, w1.trans w2, k2⟩⟩
    · exact k2.elim
theorem de_neg (ha : DE X e0 c a ca) : DE X e0 c (.UnaryOp .USub a pos) (.neg ca) := by
  refine rdE_of (pe_un un_neg ha) fun σ H ρ S k g sl w => ?_
  simp only [wpE] at w
  refine ⟨ρ, S, _, g, sl, w, fun x H1 d1 S1 g1 w1 r1 k1 => ?_⟩
  split at k1
  · exact ⟨_, rep_int r1, _, S1, g1.toGr, w1, by unfold Rep; rfl, k1⟩
  · exact k1.elim
theorem de_not (ha : DE X e0 c a ca) : DE X e0 c (.UnaryOp .Not a pos) (.not ca) := by
  refine rdE_of (pe_notT ha) fun σ H ρ S k g sl w => ?_
  simp only [wpE] at w
  refine ⟨ρ, S, _, g, sl, w, fun x H1 d1 S1 g1 w1 r1 k1 => ?_⟩
  split at k1
  · rename_i b hb
    exact ⟨b, tru_of g1 r1 hb, _, S1, g1.toGr, w1, by unfold Rep; rfl, k1⟩
  · exact k1.elim
theorem dt_not (ha : DT X e0 c a ca) : DT X e0 c (.UnaryOp .Not a pos) (.not ca) := by
  refine rdT_of (pt_not ha) fun σ H ρ S k g sl w => ?_
  simp only [wpB, wpE, truth] at w
  refine ⟨ρ, S, fun b S1 => k (!b) S1, g, sl, w, fun b H1 S1 g1 w1 k1 => ⟨S1, g1.toGr, w1, k1⟩⟩
/-- a test that decides what is next -/
theorem wpB_if {t : CE} {ρ : Ev} {S : Hs} {P Q : Hs → Prop} (h : wpE c t ρ (fun x S1 => match truth S1 x with
    | some true => P S1
    | some false => Q S1
    | none => False) S) : wpB c t ρ (fun b S1 => if b = true then P S1 else Q S1) S := by
  unfold wpB
  have e : (fun (x : D) (S1 : Hs) => match truth S1 x with
    | some true => P S1
    | some false => Q S1
    | none => False) = fun x S1 => match truth S1 x with
    | some b => if b = true then P S1 else Q S1
    | none => False := by
    funext x S1
    cases truth S1 x with
    | none => rfl
    | some b => cases b <;> simp
  rw [e] at h
  exact h
theorem de_ite (hd : DT X e0 c d cd) (ha : DE X e0 c a ca) (hb : DE X e0 c b cb) : DE X e0 c (.IfExp d a b pos) (.ite cd ca cb) := by
  refine rdE_of (pe_ifExp hd ha hb) fun σ H ρ S k g sl w => ?_
  simp only [wpE] at w
  refine ⟨ρ, S, _, g, sl, wpB_if w, fun b H1 S1 g1 w1 k1 => ?_⟩
  cases b with
  | true =>
    exact iteT ⟨ρ, S1, _, g1, sl.mono w1, by simpa using k1, fun v H2 d2 S2 g2 w2 r2 k2 => ⟨d2, S2, g2.toGr, w1.trans w2, r2, k2⟩⟩
  | false =>
    exact iteF ⟨ρ, S1, _, g1, sl.mono w1, by simpa using k1, fun v H2 d2 S2 g2 w2 r2 k2 => ⟨d2, S2, g2.toGr, w1.trans w2, r2, k2⟩⟩
/-! and, or -/
theorem de_and {r : List Expr} (ha : DE X e0 c a ca) (hb : DE X e0 c (.BoolOp .And (b :: r) pos) cb) : DE X e0 c (.BoolOp .And (a :: b :: r) pos) (.and ca cb) := by
  refine rdE_of (pe_andT ha hb) fun σ H ρ S k g sl w => ?_
  simp only [wpE] at w
  refine ⟨ρ, S, _, g, sl, w, fun x H1 d1 S1 g1 w1 r1 k1 => ?_⟩
  split at k1
  · rename_i h
    exact ⟨true, tru_of g1 r1 h, iteT ⟨ρ, S1, _, g1, sl.mono w1, k1, fun v H2 d2 S2 g2 w2 r2 k2 => ⟨d2, S2, g2.toGr, w1.trans w2, r2, k2⟩⟩⟩
  · rename_i h
    exact ⟨false, tru_of g1 r1 h, iteF ⟨d1, S1, g1.toGr, w1, r1, k1⟩⟩
  · exact k1.elim
theorem de_or {r : List Expr} (ha : DE X e0 c a ca) (hb : DE X e0 c (.BoolOp .Or (b :: r) pos) cb) : DE X e0 c (.BoolOp .Or (a :: b :: r) pos) (.or ca cb) := by
  refine rdE_of (pe_orT ha hb) fun σ H ρ S k g sl w => ?_
  simp only [wpE] at w
  refine ⟨ρ, S, _, g, sl, w, fun x H1 d1 S1 g1 w1 r1 k1 => ?_⟩
  split at k1
  · rename_i h
    exact ⟨true, tru_of g1 r1 h, iteT ⟨d1, S1, g1.toGr, w1, r1, k1⟩⟩
  · rename_i h
    exact ⟨false, tru_of g1 r1 h, iteF ⟨ρ, S1, _, g1, sl.mono w1, k1, fun v H2 d2 S2 g2 w2 r2 k2 => ⟨d2, S2, g2.toGr, w1.trans w2, r2, k2⟩⟩⟩
  · exact k1.elim
theorem wpB_and {ρ : Ev} {S : Hs} {k : Bool → Hs → Prop} (h : wpB c (.and ca cb) ρ k S) : wpB c ca ρ (fun b S1 => if b = true then wpB c cb ρ k S1 else k false S1) S := by
  refine wpB_if ?_
  simp only [wpB, wpE] at h
  have e : (fun (x : D) (S1 : Hs) => match truth S1 x with
    | some true => wpB c cb ρ k S1
    | some false => k false S1
    | none => False) = fun x S1 => match truth S1 x with
    | some true => wpE c cb ρ (fun x S1 => match truth S1 x with
      | some b => k b S1
      | none => False) S1
    | some false => (match truth S1 x with
      | some b => k b S1
      | none => False)
    | none => False := by
    funext x S1
    cases h : truth S1 x with
    | none => rfl
    | some b => cases b <;> simp [wpB]
  rw [e]
  exact h
theorem wpB_or {ρ : Ev} {S : Hs} {k : Bool → Hs → Prop} (h : wpB c (.or ca cb) ρ k S) : wpB c ca ρ (fun b S1 => if b = true then k true S1 else wpB c cb ρ k S1) S := by
  refine wpB_if ?_
  simp only [wpB, wpE] at h
  have e : (fun (x : D) (S1 : Hs) => match truth S1 x with
    | some true => k true S1
    | some false => wpB c cb ρ k S1
    | none => False) = fun x S1 => match truth S1 x with
    | some true => (match truth S1 x with
      | some b => k b S1
      | none => False)
    | some false => wpE c cb ρ (fun x S1 => match truth S1 x with
      | some b => k b S1
      | none => False) S1
    | none => False := by
    funext x S1
    cases h : truth S1 x with
    | none => rfl
    | some b => cases b <;> simp [wpB]
  rw [e]
  exact h
theorem dw_and {r : List Expr} (ha : DT X e0 c a ca) (hb : DW X e0 c (.BoolOp .And (b :: r) pos) cb) : DW X e0 c (.BoolOp .And (a :: b :: r) pos) (.and ca cb) := by
  refine rdW_of (pw_and ha hb) fun σ H ρ S k g sl w => ?_
  refine ⟨ρ, S, _, g, sl, wpB_and w, fun b H1 S1 g1 w1 k1 => ?_⟩
  cases b with
  | true => exact iteT ⟨ρ, S1, _, g1, sl.mono w1, by simpa using k1, fun b H2 S2 g2 w2 k2 => ⟨S2, g2.toGr, w1.trans w2, k2⟩⟩
  | false => exact iteF ⟨S1, g1.toGr, w1, by simpa using k1⟩
theorem dw_or {r : List Expr} (ha : DT X e0 c a ca) (hb : DW X e0 c (.BoolOp .Or (b :: r) pos) cb) : DW X e0 c (.BoolOp .Or (a :: b :: r) pos) (.or ca cb) := by
  refine rdW_of (pw_or ha hb) fun σ H ρ S k g sl w => ?_
  refine ⟨ρ, S, _, g, sl, wpB_or w, fun b H1 S1 g1 w1 k1 => ?_⟩
  cases b with
  | true => exact iteT ⟨S1, g1.toGr, w1, by simpa using k1⟩
  | false => exact iteF ⟨ρ, S1, _, g1, sl.mono w1, by simpa using k1, fun b H2 S2 g2 w2 k2 => ⟨S2, g2.toGr, w1.trans w2, k2⟩⟩
theorem dw_and1 (ha : DT X e0 c a ca) : DW X e0 c (.BoolOp .And [a] pos) ca := pw_and1 ha
theorem dw_or1 (ha : DT X e0 c a ca) : DW X e0 c (.BoolOp .Or [a] pos) ca := pw_or1 ha
theorem de_one {o} (ha : DE X e0 c a ca) : DE X e0 c (.BoolOp o [a] pos) ca := pe_one ha
/-! ### items, slices -/
theorem ixN_len {n m : Nat} (h : n = m) (i : Int) : ixN n i = ixN m i := by rw [h]
theorem atI_reps {K : PySem.W.Frag} {H : Hp} {S : Hs} {ds : List D} {vs : List V} {i : Int} {d : D} (r : Reps K H S ds vs) (h : atI ds i = some d) : ∃ v, atI vs i = some v ∧ Rep K H S d v := by
  unfold atI at h ⊢
  rw [← r.length]
  cases e : ixN ds.length i with
  | none => rw [e] at h; cases h
  | some j =>
    rw [e] at h
    obtain ⟨v, h1, h2⟩ := r.get (show ds[j]? = some d from h)
    exact ⟨v, h1, h2⟩
def plainIx : Expr → Bool
  | .Slice _ _ _ _ => false
  | _ => true
theorem plainIx_of (h : plainIx b = true) : PlainIx b := by
  intro o i
  cases b <;> first | rfl | (simp [plainIx] at h)
def rDGet : R2 := fun x y H Q => ∃ a v, x = .ref a ∧ DGet H a y (some v) ∧ Q v H
theorem ix_dict (hu : X.A.units + 1 < cLine) : IxR X rDGet := by
  intro value slice pins s σ H x y v u Q I rx ry h hs
  obtain ⟨a, z, rfl, g, q⟩ := h
  obtain rfl : v = .ref a := rx
  have hT := dict_typeIs I g
  unfold subscriptTail
  refine wpAny_bind ?_
  rw [getitemInPython_of_ne hT.not_modules]
  refine wpAny_bind (wpAny_specialOf hT PySem.F.slot_dict_getitem.lookup ?_)
  have fin : wpAny (model X.prog X.w) X.A (subscripted slice false (.ref a) u) (fun r s₃ => wpAny (model X.prog X.w) X.A (letTemporaryGo value (.ref a) r >>= fun _ => pure r) (EP X pins σ Q) X.xe s₃) X.xe s := by
    rw [hs]
    have h2 : wpAny (model X.prog X.w) X.A (getItem (.ref a) u) (EP X pins σ Q) X.xe s := d_getItem hu I g ry fun w' s' I' r' => ⟨z, H, I', r', q⟩
    exact wpAny_operating (wpAny_mono h2 (fun r s₃ h₃ => wpAny_bind (wpAny_letTemporaryGo (wpAny_pure h₃))) fun _ _ x => x)
  first
    | exact wpAny_pure (wpAny_bind fin)
    | exact wpAny_bind (wpAny_pure (wpAny_bind fin))
    | exact wpAny_bind fin
theorem de_idx (hu : X.A.units + 65 < cLine) (ha : DE X e0 c a ca) (hb : DE X e0 c b cb) (hp : plainIx b = true) : DE X e0 c (.Subscript a b pos) (.idx ca cb) := by
  refine rdE_of (pe_ix (IxR.or ix_seq (ix_dict (by omega))) ha hb (plainIx_of hp)) fun σ H ρ S k g sl w => ?_
  simp only [wpE] at w
  refine ⟨ρ, S, _, g, sl, w, fun x H1 d1 S1 g1 w1 r1 k1 => ⟨ρ, S1, _, g1, sl.mono w1, k1, fun y H2 d2 S2 g2 w2 r2 k2 => ?_⟩⟩
  have r1 := r1.mono w2
  have w3 := w1.trans w2
  split at k2
  · rename_i z hz
    have dict : ∀ p, d1 = .ref p → (dAt S2 (.ref p) d2).bind id = some z → rDGet x y H2 (Pe X.K X.mg e0 k H S) := fun p e h => by
      subst e
      have := rep_ref r1; subst this
      obtain ⟨o, h1, h2⟩ := Option.bind_eq_some_iff.mp h
      have h2 : o = some z := h2
      subst h2
      obtain ⟨o', q1, _, q2⟩ := dAt_get g2.toGr r2 h1
      rcases q2 with ⟨q2, _⟩ | ⟨e, v, q2, rfl, q3⟩
      · cases q2
      · cases q2
        exact ⟨p, v, rfl, q1, z, S2, g2.toGr, w3, q3, k2⟩
    unfold idxD at hz
    cases ev : vw S2 d1 with
    | tup ds =>
      obtain ⟨p, vs, rfl, t, q⟩ := vw_tup r1 ev
      cases d2 with
      | int i =>
        rw [ev] at hz
        obtain ⟨v, h1, h2⟩ := atI_reps q hz
        exact .inl (.inr (.inl ⟨p, vs, i, v, rfl, rep_int r2, t.sq, h1, z, S2, g2.toGr, w3, h2, k2⟩))
      | _ => rw [ev] at hz; cases hz
    | lst ds =>
      obtain ⟨p, vs, rfl, t, q⟩ := vw_lst g2.toGr r1 ev
      cases d2 with
      | int i =>
        rw [ev] at hz
        obtain ⟨v, h1, h2⟩ := atI_reps q hz
        exact .inl (.inl ⟨p, vs, i, v, rfl, rep_int r2, SqL.of t, h1, z, S2, g2.toGr, w3, h2, k2⟩)
      | _ => rw [ev] at hz; cases hz
    | str t =>
      obtain ⟨rfl, ok⟩ := vw_str r1 ev
      cases d2 with
      | int i =>
        rw [ev] at hz
        have hz : (if t.length ≤ sizeLine then (atI t.cps.toList i).map fun c => D.str ⟨#[c]⟩ else none) = some z := hz
        split at hz
        · rename_i hl
          obtain ⟨c, h1, h2⟩ := Option.map_eq_some_iff.mp hz
          subst h2
          refine .inl (.inr (.inr ⟨t, i, c, rfl, rep_int r2, hl, h1, _, S2, g2.toGr, w3, ?_, k2⟩))
          unfold Rep
          refine ⟨rfl, ?_⟩
          have hm : c ∈ t.cps.toList := by
            unfold atI at h1
            obtain ⟨j, _, h3⟩ := Option.bind_eq_some_iff.mp h1
            exact List.mem_of_getElem? h3
          unfold PyData.strOk at ok ⊢
          have := (Array.all_eq_true_iff_forall_mem.mp ok) c (by simpa using hm)
          simpa using this
        · cases hz
      | _ => rw [ev] at hz; cases hz
    | ref p =>
      have e := vw_of (fun _ h => by cases h) ev
      rw [ev] at hz
      exact .inr (dict p e (by cases d2 <;> exact hz))
    | _ => rw [ev] at hz; cases d2 <;> cases hz
  · exact k2.elim
/-! slices -/
theorem do_none : DO X e0 c none none := by
  refine rdO_of po_none fun σ H ρ S k g sl w => ?_
  simp only [wpO] at w
  exact ⟨S, g.toGr, W.refl H S, w⟩
theorem do_some (ha : DE X e0 c a ca) : DO X e0 c (some a) (some ca) := by
  refine rdO_of (po_some ha) fun σ H ρ S k g sl w => ?_
  simp only [wpO] at w
  refine ⟨ρ, S, _, g, sl, w, fun x H1 d1 S1 g1 w1 r1 k1 => ?_⟩
  split at k1
  · rename_i i
    exact ⟨i, rep_int r1, S1, g1.toGr, w1, k1⟩
  · exact k1.elim
theorem cutD_reps {K : PySem.W.Frag} {H : Hp} {S : Hs} {ds : List D} {vs : List V} (lo hi : Option Int) (r : Reps K H S ds vs) : Reps K H S (cutD ds lo hi) (cutV vs lo hi) := by
  unfold cutD cutV
  rw [r.length]
  exact (r.drop _).take _
theorem strOk_cut {z : Str} (ok : PyData.strOk z = true) (lo hi : Option Int) : PyData.strOk (cutS z lo hi) = true := by
  unfold PyData.strOk cutS at *
  rw [Array.all_eq_true_iff_forall_mem] at ok ⊢
  intro c hc
  have h1 : c ∈ (z.cps.toList.drop (HT.sIx z.length 0 lo)).take (HT.sIx z.length z.length hi - HT.sIx z.length 0 lo) := by simpa using hc
  exact ok c (by simpa using List.mem_of_mem_drop (List.mem_of_mem_take h1))
theorem de_sl {lo hi : Option Expr} {cl ch : Option CE} {p2 : Pos} (ha : DE X e0 c a ca) (hl : DO X e0 c lo cl) (hh : DO X e0 c hi ch) : DE X e0 c (.Subscript a (.Slice lo hi none p2) pos) (.sl ca cl ch) := by
  refine rdE_of (pe_slice (SlR.or sl_tupA (SlR.or sl_list sl_str)) ha hl hh) fun σ H ρ S k g sl w => ?_
  simp only [wpE] at w
  refine ⟨ρ, S, _, g, sl, w, fun x H1 d1 S1 g1 w1 r1 k1 => ⟨ρ, S1, _, g1, sl.mono w1, k1, fun l H2 S2 g2 w2 k2 => ⟨ρ, S2, _, g2, (sl.mono w1).mono w2, k2, fun h H3 S3 g3 w3 k3 => ?_⟩⟩⟩
  have r1 := (r1.mono w2).mono w3
  have w4 := (w1.trans w2).trans w3
  split at k3
  · rename_i z hz
    unfold slD at hz
    cases ev : vw S3 d1 with
    | tup ds =>
      have e := vw_of (fun _ h => by cases h) ev
      obtain ⟨p, vs, rfl, t, q⟩ := vw_tup r1 ev
      rw [ev] at hz
      have hz : z = .tup (cutD ds l h) := (Option.some.inj hz).symm
      subst hz
      refine .inl ⟨p, vs, rfl, t.sq, fun hw => ⟨_, S3, g3.toGr, w4, ?_, k3⟩, fun hw p hp => ⟨_, S3, g3.toGr.new hp, w4.trans (W.new hp), ?_, k3⟩⟩
      · have : cutD ds l h = ds := by
          unfold cutD
          rw [q.length, hw.1, hw.2, List.drop_zero, Nat.sub_zero, ← q.length, List.take_length]
        rw [this, ← e]; exact r1
      · unfold Rep
        exact ⟨p, _, rfl, .inl ⟨g3.toGr.fresh hp, upd_same⟩, (cutD_reps l h q).mono (W.new hp)⟩
    | lst ds =>
      obtain ⟨p, vs, rfl, t, q⟩ := vw_lst g3.toGr r1 ev
      rw [ev] at hz
      have hz : z = .lst (cutD ds l h) := (Option.some.inj hz).symm
      subst hz
      refine .inr (.inl ⟨p, vs, rfl, SqL.of t, fun p hp => ⟨_, S3, g3.toGr.new hp, w4.trans (W.new hp), ?_, k3⟩⟩)
      unfold Rep
      exact ⟨p, _, rfl, g3.toGr.fresh hp, upd_same, (cutD_reps l h q).mono (W.new hp)⟩
    | scr ns =>
      have e := vw_of (fun _ h => by cases h) ev
      subst e
      rw [ev] at hz
      unfold Rep at r1
      obtain ⟨p, rfl, t⟩ := r1
      have hz : z = .lst ((cutI ns l h).map .int) := (Option.some.inj hz).symm
      subst hz
      refine .inr (.inl ⟨p, _, rfl, t.sq, fun p hp => ⟨_, S3, g3.toGr.new hp, w4.trans (W.new hp), ?_, k3⟩⟩)
      unfold Rep
      refine ⟨p, _, rfl, g3.toGr.fresh hp, upd_same, ?_⟩
      have : cutV (ns.map V.int) l h = (cutI ns l h).map V.int := by
        unfold cutV cutI
        rw [List.length_map, List.map_take, List.map_drop]
      rw [this]
      exact Reps.ints _
    | str t =>
      obtain ⟨rfl, ok⟩ := vw_str r1 ev
      rw [ev] at hz
      have hz : (if t.length ≤ sizeLine then some (D.str (cutS t l h)) else none) = some z := hz
      split at hz
      · have hz := (Option.some.inj hz).symm
        subst hz
        exact .inr (.inr ⟨t, rfl, ‹_›, _, S3, g3.toGr, w4, by unfold Rep; exact ⟨rfl, strOk_cut ok l h⟩, k3⟩)
      · cases hz
    | _ => rw [ev] at hz; cases hz
  · exact k3.elim
end
end Mp

/-! Mp7: built-ins, isinstance over data. -/
namespace Mp
open PySem PySem.Spec PyProof.Rows L2

/-! ### ints in order -/
theorem insI_perm (x : Int) : ∀ l : List Int, (insI x l).Perm (x :: l)
  | [] => .refl _
  | y :: ys => by
    unfold insI
    split
    · exact .refl _
    · exact ((insI_perm x ys).cons y).trans (.swap x y ys)
theorem sortI_perm : ∀ l : List Int, (sortI l).Perm l
  | [] => .refl _
  | x :: xs => (insI_perm x (sortI xs)).trans ((sortI_perm xs).cons x)
theorem insI_sorted (x : Int) : ∀ {l : List Int}, l.Pairwise (· ≤ ·) → (insI x l).Pairwise (· ≤ ·)
  | [], _ => List.pairwise_singleton _ _
  | y :: ys, h => by
    unfold insI
    rw [List.pairwise_cons] at h
    split
    · rename_i hxy
      refine List.pairwise_cons.mpr ⟨fun z hz => ?_, List.pairwise_cons.mpr h⟩
      rcases List.mem_cons.mp hz with rfl | hz
      · exact hxy
      · exact Int.le_trans hxy (h.1 z hz)
    · rename_i hxy
      refine List.pairwise_cons.mpr ⟨fun z hz => ?_, insI_sorted x h.2⟩
      rcases List.mem_cons.mp ((insI_perm x ys).subset hz) with rfl | hz
      · omega
      · exact h.1 z hz
theorem sortI_sorted : ∀ l : List Int, (sortI l).Pairwise (· ≤ ·)
  | [] => .nil
  | x :: xs => insI_sorted x (sortI_sorted xs)
theorem sorted_one : ∀ {a b : List Int}, a.Perm b → a.Pairwise (· ≤ ·) → b.Pairwise (· ≤ ·) → a = b
  | [], b, p, _, _ => (List.perm_nil.mp p.symm).symm
  | x :: a, [], p, _, _ => by have := p.length_eq; simp at this
  | x :: a, y :: b, p, h1, h2 => by
    rw [List.pairwise_cons] at h1 h2
    have hx : x ∈ y :: b := p.subset List.mem_cons_self
    have hy : y ∈ x :: a := p.symm.subset List.mem_cons_self
    have e : x = y := by
      rcases List.mem_cons.mp hx with e | hx
      · exact e
      · rcases List.mem_cons.mp hy with e | hy
        · exact e.symm
        · have := h1.1 y hy
          have := h2.1 x hx
          omega
    subst e
    rw [sorted_one ((List.perm_cons x).mp p) h1.2 h2.2]

theorem blsOf_some : ∀ {ds : List D} {bs : List Bool}, blsOf ds = some bs → ds = bs.map .bl
  | [], _, h => by simp only [blsOf, Option.some.injEq] at h; subst h; rfl
  | .bl i :: ds, _, h => by
    simp only [blsOf, Option.map_eq_some_iff] at h
    obtain ⟨m, h1, rfl⟩ := h
    rw [blsOf_some h1]; rfl
  | .non :: _, _, h => by simp [blsOf] at h
  | .int _ :: _, _, h => by simp [blsOf] at h
  | .str _ :: _, _, h => by simp [blsOf] at h
  | .tup _ :: _, _, h => by simp [blsOf] at h
  | .lst _ :: _, _, h => by simp [blsOf] at h
  | .scr _ :: _, _, h => by simp [blsOf] at h
  | .ref _ :: _, _, h => by simp [blsOf] at h
section
variable {K : PySem.W.Frag} {mg : Str → Option Value} {e0 : Hp × Hs} {H : Hp} {S : Hs}
theorem Reps.of_bls : ∀ {bs : List Bool} {vs : List V}, Reps K H S (bs.map D.bl) vs → vs = bs.map V.bl
  | [], _, h => by unfold Reps at h; exact h
  | n :: ns, vs, h => by
    rw [List.map_cons] at h
    unfold Reps at h
    obtain ⟨v, r, rfl, h1, h2⟩ := h
    rw [rep_bl h1, Reps.of_bls h2]; rfl
theorem reps1 {d : D} {vs : List V} (h : Reps K H S [d] vs) : ∃ v, vs = [v] ∧ Rep K H S d v := by
  unfold Reps at h
  obtain ⟨v, r, rfl, h1, h2⟩ := h
  unfold Reps at h2
  subst h2
  exact ⟨v, rfl, h1⟩
theorem reps2 {d e : D} {vs : List V} (h : Reps K H S [d, e] vs) : ∃ v u, vs = [v, u] ∧ Rep K H S d v ∧ Rep K H S e u := by
  unfold Reps at h
  obtain ⟨v, r, rfl, h1, h2⟩ := h
  obtain ⟨u, rfl, h3⟩ := reps1 h2
  exact ⟨v, u, rfl, h1, h3⟩
theorem Reps.keys : ∀ {l : List (Key × D)} {m : List (Key × V)}, KRel K H S l m → Reps K H S (l.map fun kv => kD kv.1) (m.map fun kv => kV kv.1)
  | _, _, .nil => .nil
  | _, _, .cons h t => by
    rw [List.map_cons, List.map_cons, ← h.1]
    exact .cons (rep_kD h.2.1) (Reps.keys t)
end

section
variable (X : Cx) (e0 : Hp × Hs)
def PB (f : Value) (b : Bi) : Prop := ∃ r, CallR X f r ∧ ∀ H S xs ds z Q, Gd X.K X.mg e0 H S → Reps X.K H S ds xs → biD b S ds = some z → VRes X.K X.mg e0 H S z Q → r xs H Q
end
section
variable {X : Cx} {e0 : Hp × Hs}
def rLenDK : List V → Hp → VK → Prop := fun xs H Q => ∃ p kvs, xs = [.ref p] ∧ Rd H p (.dK kvs) ∧ Q (.int ((kvs.length : Nat) : Int)) H
def rLenDT : List V → Hp → VK → Prop := fun xs H Q => ∃ (p : Addr) (kvs : List (List Key × V)), xs = [.ref p] ∧ Rd H p (.dT kvs) ∧ Q (.int ((kvs.length : Nat) : Int)) H
theorem call_lenDK : CallR X (.builtin "len") rLenDK := by
  intro pins s σ H xs us Q I r h
  obtain ⟨p, kvs, rfl, hp, q⟩ := h
  obtain ⟨u, rfl, rx⟩ := vals1 r
  obtain rfl : u = .ref p := rx
  exact d_len I hp fun t s' I' => ⟨.int ((kvs.length : Nat) : Int), H, I', ⟨_, rfl⟩, q⟩
theorem call_lenDT : CallR X (.builtin "len") rLenDT := by
  intro pins s σ H xs us Q I r h
  obtain ⟨p, kvs, rfl, hp, q⟩ := h
  obtain ⟨u, rfl, rx⟩ := vals1 r
  obtain rfl : u = .ref p := rx
  obtain ⟨z, hd, ys, rel, dd⟩ := dt_rd I.hok hp
  have hl : kvs.length = ys.length := Paired.length rel
  have hz : (ys.length : Int) < 2 ^ 63 := by rw [← hl]; rw [sizeLine_eq] at z; omega
  refine call_len_dictH hd dd hz ?_
  rw [← hl]
  exact ⟨.int ((kvs.length : Nat) : Int), H, I.tok _, ⟨_, rfl⟩, q⟩
theorem pb_len : PB X e0 (.builtin "len") .len := by
  refine ⟨_, CallR.or call_len_seq (CallR.or call_len_str (CallR.or call_lenDK call_lenDT)), fun H S xs ds z Q g r h q => ?_⟩
  match ds, r, h with
  | [], r, h => cases h
  | [x], r, h =>
    obtain ⟨v, rfl, r1⟩ := reps1 r; replace r := r1
    have h : (match vw S x with
      | .tup ds => some (D.int ds.length)
      | .lst ds => some (.int ds.length)
      | .str z => if z.length ≤ sizeLine then some (.int z.length) else none
      | .ref a => (match S a with
        | some (.dK _ kvs) => some (.int kvs.length)
        | some (.dT _ kvs) => some (.int kvs.length)
        | _ => none)
      | _ => none) = some z := h
    cases e : vw S x with
    | tup es =>
      obtain ⟨a, vs, rfl, t, qq⟩ := vw_tup r e
      rw [e] at h
      have h := Option.some.inj h; subst h
      refine .inl ⟨a, vs, rfl, .inr t.sq, ?_⟩
      rw [← qq.length]; exact q.int g.toGr
    | lst es =>
      obtain ⟨a, vs, rfl, t, qq⟩ := vw_lst g.toGr r e
      rw [e] at h
      have h := Option.some.inj h; subst h
      refine .inl ⟨a, vs, rfl, .inl (SqL.of t), ?_⟩
      rw [← qq.length]; exact q.int g.toGr
    | str s =>
      obtain ⟨rfl, _⟩ := vw_str r e
      rw [e] at h
      have h : (if s.length ≤ sizeLine then some (D.int s.length) else none) = some z := h
      split at h
      · have h := Option.some.inj h; subst h
        exact .inr (.inl ⟨s, rfl, ‹_›, q.int g.toGr⟩)
      · cases h
    | ref a =>
      have e2 := vw_of (fun _ h => by cases h) e
      subst e2
      have ev := rep_ref r; subst ev
      rw [e] at h
      have h : (match S a with
        | some (.dK _ kvs) => some (D.int kvs.length)
        | some (.dT _ kvs) => some (.int kvs.length)
        | _ => none) = some z := h
      cases qs : S a with
      | none => rw [qs] at h; cases h
      | some o =>
        rw [qs] at h
        have rl := g.rel a o qs
        cases o with
        | lst _ => cases h
        | ins _ _ => cases h
        | dK lk kvs =>
          have h := Option.some.inj h; subst h
          obtain ⟨ks, rd, kr⟩ : ∃ ks, Rd H a (.dK ks) ∧ KRel X.K H S kvs ks := by
            cases lk with
            | false => obtain ⟨ks, h1, h2⟩ := rl; exact ⟨ks, .inl h1, h2⟩
            | true => obtain ⟨o, ks, h1, h2⟩ := rl; exact ⟨ks, .inr ⟨o, h1⟩, h2⟩
          refine .inr (.inr (.inl ⟨a, ks, rfl, rd, ?_⟩))
          rw [← kr.length]; exact q.int g.toGr
        | dT lk kvs =>
          have h := Option.some.inj h; subst h
          obtain ⟨ks, rd, kr⟩ : ∃ ks, Rd H a (.dT ks) ∧ TRel X.K H S kvs ks := by
            cases lk with
            | false => obtain ⟨ks, h1, h2⟩ := rl; exact ⟨ks, .inl h1, h2⟩
            | true => obtain ⟨o, ks, h1, h2⟩ := rl; exact ⟨ks, .inr ⟨o, h1⟩, h2⟩
          refine .inr (.inr (.inr ⟨a, ks, rfl, rd, ?_⟩))
          rw [← kr.length]; exact q.int g.toGr
    | _ => rw [e] at h; cases h
  | _ :: _ :: _, r, h => cases h
theorem pb_int : PB X e0 (.type "int") .int := by
  refine ⟨_, CallR.or call_int1 call_int_str, fun H S xs ds z Q g r h q => ?_⟩
  rcases ds with _ | ⟨x, _ | ⟨y, t⟩⟩
  · cases h
  · obtain ⟨v, rfl, r1⟩ := reps1 r; replace r := r1
    cases x with
    | int i =>
      have h := Option.some.inj h; subst h
      exact .inl (.inl ⟨i, congrArg (fun x => [x]) (rep_int r), q.int g.toGr⟩)
    | bl b =>
      have h := Option.some.inj h; subst h
      exact .inl (.inr ⟨b, congrArg (fun x => [x]) (rep_bl r), q.int g.toGr⟩)
    | str x =>
      have h : (if x.length ≤ 640 then (PySem.intText? x).map D.int else none) = some z := h
      split at h
      · obtain ⟨n, h1, h2⟩ := Option.map_eq_some_iff.mp h
        subst h2
        exact .inr ⟨x, n, congrArg (fun x => [x]) (rep_str r).1, h1, ‹_›, q.int g.toGr⟩
      · cases h
    | _ => cases h
  · exfalso
    cases x <;> cases h
theorem strOk_of (x : String) : PyData.strOk (Str.ofString x) = true := by
  rw [Str.ofString_eq_toList]
  unfold PyData.strOk
  rw [Array.all_eq_true_iff_forall_mem]
  intro c hc
  simp only [List.mem_toArray, List.mem_map] at hc
  obtain ⟨ch, _, rfl⟩ := hc
  have h := ch.valid
  simp only [UInt32.isValidChar, Nat.isValidChar] at h
  have : ch.toNat = ch.val.toNat := rfl
  rw [decide_eq_true_eq, this]
  omega
theorem strOk_int (i : Int) : PyData.strOk (toString i : Str) = true := strOk_of _
theorem pb_str : PB X e0 (.type "str") .str := by
  refine ⟨_, call_str_int, fun H S xs ds z Q g r h q => ?_⟩
  rcases ds with _ | ⟨x, _ | ⟨y, t⟩⟩
  · cases h
  · obtain ⟨v, rfl, r1⟩ := reps1 r; replace r := r1
    cases x with
    | int i =>
      have h : (if i.natAbs.log2 < 1920 then some (D.str (toString i)) else none) = some z := h
      split at h
      · have h := Option.some.inj h; subst h
        exact ⟨i, congrArg (fun x => [x]) (rep_int r), ‹_›, q.str g.toGr (strOk_int i)⟩
      · cases h
    | _ => cases h
  · exfalso
    cases x <;> cases h
theorem pb_tuple : PB X e0 (.type "tuple") .tuple := by
  refine ⟨_, call_tuple_of, fun H S xs ds z Q g r h q => ?_⟩
  match ds, r, h with
  | [], r, h => cases h
  | [x], r, h =>
    obtain ⟨v, rfl, r1⟩ := reps1 r; replace r := r1
    have h : (match vw S x with
      | .tup ds => some (D.tup ds)
      | .lst ds => some (.tup ds)
      | _ => none) = some z := h
    cases e : vw S x with
    | tup es =>
      have e2 := vw_of (fun _ h => by cases h) e
      obtain ⟨a, vs, rfl, t, qq⟩ := vw_tup r e
      rw [e] at h
      have h := Option.some.inj h; subst h
      exact ⟨a, vs, rfl, .inr ⟨t.sq, q.here g.toGr (e2 ▸ r)⟩⟩
    | lst es =>
      obtain ⟨a, vs, rfl, t, qq⟩ := vw_lst g.toGr r e
      rw [e] at h
      have h := Option.some.inj h; subst h
      exact ⟨a, vs, rfl, .inl ⟨SqL.of t, fun p hp => q.tup g.toGr qq hp⟩⟩
    | _ => rw [e] at h; cases h
  | _ :: _ :: _, r, h => cases h
theorem Reps.of_tkeys {K : PySem.W.Frag} {H : Hp} {S : Hs} (hS : ∀ b vs, H b = some (.tup vs) → S b = none) : ∀ {l : List (List Int × D)} {m : List (List Key × V)} {bs : List Addr}, TRel K H S l m → IsKeys H m bs → Reps K H S (l.map fun kv => tD kv.1) (bs.map V.ref)
  | _, _, _, .nil, .nil => .nil
  | (k, d) :: _, _, b :: _, .cons h t, .cons e u => by
    rw [List.map_cons, List.map_cons]
    refine .cons ?_ (Reps.of_tkeys hS t u)
    obtain ⟨h1, _⟩ := h
    rw [h1, inl_kV] at e
    show Rep K H S (.tup (k.map .int)) (.ref b)
    unfold Rep
    exact ⟨b, _, rfl, .inl ⟨hS b _ e, e⟩, Reps.ints k⟩
theorem tup_out {K : PySem.W.Frag} {mg : Str → Option Value} {e0 : Hp × Hs} {H : Hp} {S : Hs} (g : Gr K mg e0 H S) : ∀ b vs, H b = some (.tup vs) → S b = none := fun b vs h => by
  cases e : S b with
  | none => rfl
  | some o =>
    exfalso
    have r := g.rel b o e
    cases o with
    | lst _ => obtain ⟨_, h1, _⟩ := r; rw [h] at h1; cases h1
    | ins _ _ => obtain ⟨_, _, _, _, h1, _⟩ := r; rw [h] at h1; cases h1
    | dK lk _ => cases lk with
      | false => obtain ⟨_, h1, _⟩ := r; rw [h] at h1; cases h1
      | true => obtain ⟨_, _, h1, _⟩ := r; rw [h] at h1; cases h1
    | dT lk _ => cases lk with
      | false => obtain ⟨_, h1, _⟩ := r; rw [h] at h1; cases h1
      | true => obtain ⟨_, _, h1, _⟩ := r; rw [h] at h1; cases h1
theorem pb_list (hc : X.calm = true) : PB X e0 (.type "list") .list := by
  refine ⟨_, CallR.or call_list_of (CallR.or (call_list_dK hc) (call_list_dT hc)), fun H S xs ds z Q g r h q => ?_⟩
  match ds, r, h with
  | [], r, h => cases h
  | [x], r, h =>
    obtain ⟨v, rfl, r1⟩ := reps1 r; replace r := r1
    have h : (match vw S x with
      | .tup ds => some (D.lst ds)
      | .lst ds => some (.lst ds)
      | .ref a => (match S a with
        | some (.dK false kvs) => some (.lst (kvs.map fun kv => kD kv.1))
        | some (.dT _ kvs) => some (.lst (kvs.map fun kv => tD kv.1))
        | _ => none)
      | _ => none) = some z := h
    cases e : vw S x with
    | tup es =>
      obtain ⟨a, vs, rfl, t, qq⟩ := vw_tup r e
      rw [e] at h
      have h := Option.some.inj h; subst h
      exact .inl ⟨a, vs, rfl, .inr t.sq, fun p hp => q.lst g.toGr qq hp⟩
    | lst es =>
      obtain ⟨a, vs, rfl, t, qq⟩ := vw_lst g.toGr r e
      rw [e] at h
      have h := Option.some.inj h; subst h
      exact .inl ⟨a, vs, rfl, .inl (SqL.of t), fun p hp => q.lst g.toGr qq hp⟩
    | ref a =>
      have e2 := vw_of (fun _ h => by cases h) e
      subst e2
      have ev := rep_ref r; subst ev
      rw [e] at h
      have h : (match S a with
        | some (.dK false kvs) => some (D.lst (kvs.map fun kv => kD kv.1))
        | some (.dT _ kvs) => some (.lst (kvs.map fun kv => tD kv.1))
        | _ => none) = some z := h
      cases qs : S a with
      | none => rw [qs] at h; cases h
      | some o =>
        rw [qs] at h
        have rl := g.rel a o qs
        cases o with
        | lst _ => cases h
        | ins _ _ => cases h
        | dK lk kvs =>
          cases lk with
          | true => cases h
          | false =>
            have h := Option.some.inj h; subst h
            obtain ⟨ks, h1, h2⟩ := rl
            exact .inr (.inl ⟨a, ks, rfl, h1, fun p hp => q.lst g.toGr (Reps.keys h2) hp⟩)
        | dT lk kvs =>
          have h := Option.some.inj h; subst h
          obtain ⟨ks, rd, kr⟩ : ∃ ks, Rd H a (.dT ks) ∧ TRel X.K H S kvs ks := by
            cases lk with
            | false => obtain ⟨ks, h1, h2⟩ := rl; exact ⟨ks, .inl h1, h2⟩
            | true => obtain ⟨o, ks, h1, h2⟩ := rl; exact ⟨ks, .inr ⟨o, h1⟩, h2⟩
          exact .inr (.inr ⟨a, ks, rfl, rd, fun p bs hp hk => q.lst g.toGr (Reps.of_tkeys (tup_out g.toGr) kr hk) hp⟩)
    | _ => rw [e] at h; cases h
  | _ :: _ :: _, r, h => cases h
theorem pb_sorted : PB X e0 (.builtin "sorted") .sorted := by
  refine ⟨_, cr_sortedI, fun H S xs ds z Q g r h q => ?_⟩
  match ds, r, h with
  | [], r, h => cases h
  | [x], r, h =>
    obtain ⟨v, rfl, r1⟩ := reps1 r; replace r := r1
    have h : (match vw S x with
      | .lst ds => (intsOf ds).map fun ns => D.lst ((sortI ns).map .int)
      | _ => none) = some z := h
    cases e : vw S x with
    | lst es =>
      obtain ⟨a, vs, rfl, t, qq⟩ := vw_lst g.toGr r e
      rw [e] at h
      obtain ⟨ns, h1, h2⟩ := Option.map_eq_some_iff.mp h
      subst h2
      have := intsOf_some h1; subst this
      have := qq.of_ints; subst this
      refine ⟨a, ns, rfl, SqL.of t, fun ns' p hp hs hn => ?_⟩
      have : ns' = sortI ns := sorted_one (hp.trans (sortI_perm ns).symm) hs (sortI_sorted ns)
      subst this
      exact q.lst g.toGr (Reps.ints _) hn
    | _ => rw [e] at h; cases h
  | _ :: _ :: _, r, h => cases h
theorem pb_all (hc : X.calm = true) : PB X e0 (.builtin "all") .all := by
  refine ⟨_, cr_all hc, fun H S xs ds z Q g r h q => ?_⟩
  match ds, r, h with
  | [], r, h => cases h
  | [x], r, h =>
    obtain ⟨v, rfl, r1⟩ := reps1 r; replace r := r1
    have h : (match vw S x with
      | .lst ds => (blsOf ds).map fun bs => D.bl (bs.all id)
      | _ => none) = some z := h
    cases e : vw S x with
    | lst es =>
      obtain ⟨a, vs, rfl, t, qq⟩ := vw_lst g.toGr r e
      rw [e] at h
      obtain ⟨ns, h1, h2⟩ := Option.map_eq_some_iff.mp h
      subst h2
      have := blsOf_some h1; subst this
      have := qq.of_bls; subst this
      exact ⟨a, ns, rfl, SqL.of t, q.bl g.toGr⟩
    | _ => rw [e] at h; cases h
  | _ :: _ :: _, r, h => cases h
theorem pb_any (hc : X.calm = true) : PB X e0 (.builtin "any") .any := by
  refine ⟨_, cr_any hc, fun H S xs ds z Q g r h q => ?_⟩
  match ds, r, h with
  | [], r, h => cases h
  | [x], r, h =>
    obtain ⟨v, rfl, r1⟩ := reps1 r; replace r := r1
    have h : (match vw S x with
      | .lst ds => (blsOf ds).map fun bs => D.bl (bs.any id)
      | _ => none) = some z := h
    cases e : vw S x with
    | lst es =>
      obtain ⟨a, vs, rfl, t, qq⟩ := vw_lst g.toGr r e
      rw [e] at h
      obtain ⟨ns, h1, h2⟩ := Option.map_eq_some_iff.mp h
      subst h2
      have := blsOf_some h1; subst this
      have := qq.of_bls; subst this
      exact ⟨a, ns, rfl, SqL.of t, q.bl g.toGr⟩
    | _ => rw [e] at h; cases h
  | _ :: _ :: _, r, h => cases h
theorem pb_sum (hc : X.calm = true) : PB X e0 (.builtin "sum") .sum := by
  refine ⟨_, cr_sum hc, fun H S xs ds z Q g r h q => ?_⟩
  match ds, r, h with
  | [], r, h => cases h
  | [x], r, h =>
    obtain ⟨v, rfl, r1⟩ := reps1 r; replace r := r1
    have h : (match vw S x with
      | .lst ds => (intsOf ds).map fun ns => D.int ns.sum
      | _ => none) = some z := h
    cases e : vw S x with
    | lst es =>
      obtain ⟨a, vs, rfl, t, qq⟩ := vw_lst g.toGr r e
      rw [e] at h
      obtain ⟨ns, h1, h2⟩ := Option.map_eq_some_iff.mp h
      subst h2
      have := intsOf_some h1; subst this
      have := qq.of_ints; subst this
      exact ⟨a, ns, rfl, SqL.of t, q.int g.toGr⟩
    | _ => rw [e] at h; cases h
  | _ :: _ :: _, r, h => cases h
theorem pb_max (hc : X.calm = true) : PB X e0 (.builtin "max") .max := by
  refine ⟨_, call_max2 hc, fun H S xs ds z Q g r h q => ?_⟩
  rcases ds with _ | ⟨x, _ | ⟨y, _ | ⟨y2, t⟩⟩⟩
  · cases h
  · cases x <;> cases h
  · obtain ⟨v, u, rfl, r1, r2⟩ := reps2 r
    cases x with
    | int i => cases y with
      | int j =>
        have h := Option.some.inj h; subst h
        have e1 := rep_int r1
        have e2 := rep_int r2
        subst e1 e2
        exact ⟨i, j, rfl, q.int g.toGr⟩
      | _ => cases h
    | _ => cases h
  · exfalso
    cases x <;> cases y <;> cases h
/-- the name, the function or type, of each -/
def biVal : Bi → Value
  | .len => .builtin "len"
  | .int => .type "int"
  | .str => .type "str"
  | .tuple => .type "tuple"
  | .list => .type "list"
  | .sorted => .builtin "sorted"
  | .all => .builtin "all"
  | .any => .builtin "any"
  | .sum => .builtin "sum"
  | .min => .builtin "min"
  | .max => .builtin "max"
  | .setlen => .none
  | .setsort => .none
def biName : Bi → Str
  | .len => "len"
  | .int => "int"
  | .str => "str"
  | .tuple => "tuple"
  | .list => "list"
  | .sorted => "sorted"
  | .all => "all"
  | .any => "any"
  | .sum => "sum"
  | .min => "min"
  | .max => "max"
  | .setlen => ""
  | .setsort => ""
def biOk : Bi → Bool
  | .setlen => false
  | .setsort => false
  | .min => false
  | _ => true
theorem pb_of (hc : X.calm = true) (b : Bi) (ok : biOk b = true) : PB X e0 (biVal b) b := by
  cases b with
  | len => exact pb_len
  | int => exact pb_int
  | str => exact pb_str
  | tuple => exact pb_tuple
  | list => exact pb_list hc
  | sorted => exact pb_sorted
  | all => exact pb_all hc
  | any => exact pb_any hc
  | sum => exact pb_sum hc
  | max => exact pb_max hc
  | min => cases ok
  | setlen => cases ok
  | setsort => cases ok
theorem bi_boot (b : Bi) (ok : biOk b = true) : bootBuiltins (biName b) = some (biVal b) := by
  cases b <;> first | (cases ok; done) | decide +kernel
end
end Mp

/-! Mp8: calls of built-ins, isinstance, methods, calls of defs, over data. -/
namespace Mp
open PySem PySem.Spec PyProof.Rows L2

section
variable {X : Cx} {e0 : Hp × Hs} {c : Cw} {p pos apos cpos : Pos} {a b d e o : Expr} {es : List Expr} {ca cb cd ce co : CE} {ces : List CE} {x : Str}
/-- no star among them -/
def noStar : List Expr → Bool
  | [] => true
  | e :: es => notStar e && noStar es
theorem noStar_any {ps : Pos} : ∀ {es : List Expr}, noStar es = true → (backTo ps (starEach es X.env)).any (·.1) = false
  | [], _ => rfl
  | e :: es, h => by
    unfold noStar at h
    rw [Bool.and_eq_true] at h
    rw [star_no h.1]
    show (false || (backTo ps (starEach es X.env)).any (·.1)) = false
    rw [noStar_any h.2]; rfl
theorem noStar_all {ps : Pos} : ∀ {es : List Expr}, noStar es = true → (backTo ps (starEach es X.env)).all (fun x => !x.1) = true
  | [], _ => rfl
  | e :: es, h => by
    unfold noStar at h
    rw [Bool.and_eq_true] at h
    rw [star_no h.1]
    show (!false && (backTo ps (starEach es X.env)).all (fun x => !x.1)) = true
    rw [noStar_all h.2]; rfl
/-! ### built-ins -/
theorem bi_res {bi : Bi} {r : List V → Hp → VK → Prop} {σ : L2.St} {H : Hp} {ρ : Ev} {S : Hs} {k : DK}
    (f : ∀ H S xs ds z Q, Gd X.K X.mg e0 H S → Reps X.K H S ds xs → biD bi S ds = some z → VRes X.K X.mg e0 H S z Q → r xs H Q) (g : Gd X.K X.mg e0 H S) (sl : Slots X.K H S ρ σ) (w : wpE c (.bi bi ces) ρ k S) :
    tCB r (rdA X.K X.mg e0 (wpEs c ces)) σ H (Pe X.K X.mg e0 k H S) := by
  simp only [wpE] at w
  refine ⟨ρ, S, _, g, sl, w, fun vs H1 ds S1 g1 w1 r1 k1 => ?_⟩
  split at k1
  · rename_i z hz
    exact f H1 S1 vs ds z _ g1 r1 hz fun v H' g' w' r' => ⟨z, S1, g', w1.trans w', r', k1⟩
  · exact k1.elim
theorem de_bi {bi : Bi} (ok : biOk bi = true) (hc : X.calm = true) (hx : x = biName bi) (hg : Gl X x) (hm : X.mg x = none) (ha : DA X e0 c (e :: es) ces) (hs : noStar (e :: es) = true) : DE X e0 c (.Call (.Name x p) (e :: es) [] pos) (.bi bi ces) := by
  obtain ⟨r, hr, f⟩ := pb_of (X := X) (e0 := e0) hc bi ok
  have hs2 := hs
  unfold noStar at hs2
  rw [Bool.and_eq_true] at hs2
  subst hx
  have hb := bi_boot bi ok
  have n1 : biName bi ≠ ("__name__" : Str) := by cases bi <;> first | (cases ok; done) | decide
  have n2 : (biName bi == ("__debug__" : Str)) = false := by cases bi <;> first | (cases ok; done) | decide
  cases h : biVal bi with
  | builtin id =>
    rw [h] at hr hb
    exact rdE_of (pe_callB hr hg hm hb ha n1 n2 (star_no hs2.1) (noStar_any hs2.2)) fun σ H ρ S k g sl w => bi_res f g sl w
  | type T =>
    rw [h] at hr hb
    exact rdE_of (pe_callTy hr hg hm hb ha n1 n2 (star_no hs2.1) (noStar_any hs2.2)) fun σ H ρ S k g sl w => bi_res f g sl w
  | _ => cases bi <;> first | (cases ok; done) | (cases h)
/-! ### isinstance -/
def tyStr : Ty → String
  | .int => "int"
  | .bool => "bool"
  | .str => "str"
  | .list => "list"
  | .tuple => "tuple"
  | .cls _ => ""
def tyName : Ty → Str
  | .int => "int"
  | .bool => "bool"
  | .str => "str"
  | .list => "list"
  | .tuple => "tuple"
  | .cls _ => ""
def tyOk : Ty → Bool
  | .cls _ => false
  | _ => true
def tnStr : Tn → String
  | .none => "NoneType"
  | .bool => "bool"
  | .int => "int"
  | .str => "str"
  | .tuple => "tuple"
  | .list => "list"
  | .dict => "dict"
  | .own _ => ""
theorem kit_one {K : PySem.W.Frag} (t : Tn) (y : Ty) (ht : ∀ C, t ≠ .own C) (hy : tyOk y = true) : PySem.W.kitOne K (.type (tnStr t)) (.type (tyStr y)) = some (isTy t y) := by
  refine kit_ty ?_
  cases t with
  | own C => exact absurd rfl (ht C)
  | _ => cases y <;> first | (cases hy; done) | decide +kernel
theorem kit_any {K : PySem.W.Frag} (t : Tn) (ht : ∀ C, t ≠ .own C) : ∀ ys : List Ty, ys.all tyOk = true → PySem.W.kitAny K (.type (tnStr t)) (ys.map fun y => .type (tyStr y)) = some (ys.any (isTy t))
  | [], _ => rfl
  | y :: ys, h => by
    rw [List.all_cons, Bool.and_eq_true] at h
    rw [List.map_cons, List.any_cons]
    refine kitAny_cons (kit_one t y ht h.1) (fun e => ?_) (fun e => ?_)
    · rw [e, Bool.false_or]; exact kit_any t ht ys h.2
    · rw [e]; rfl
theorem tn_of {K : PySem.W.Frag} {mg : Str → Option Value} {H : Hp} {S : Hs} {d : D} {v : V} {t : Tn} (g : Gr K mg e0 H S) (r : Rep K H S d v) (h : tnOf S d = some t) : TyX K H v (.type (tnStr t)) ∧ ∀ C, t ≠ .own C := by
  cases d with
  | non => have e := rep_non r; subst e; cases h; exact ⟨.base .non, fun _ z => by cases z⟩
  | bl i => have e := rep_bl r; subst e; cases h; exact ⟨.base (.bl _), fun _ z => by cases z⟩
  | int i => have e := rep_int r; subst e; cases h; exact ⟨.base (.int _), fun _ z => by cases z⟩
  | str i => obtain ⟨e, _⟩ := rep_str r; subst e; cases h; exact ⟨.base (.str _), fun _ z => by cases z⟩
  | tup ds =>
    obtain ⟨a, vs, rfl, q, _⟩ := r.inj_tup
    cases h
    refine ⟨?_, fun _ z => by cases z⟩
    rcases q with ⟨_, q⟩ | ⟨⟨o, _, _, q, hc, _⟩, _⟩
    · exact .base (.tup q)
    · exact .kTuple q hc
  | lst ds =>
    obtain ⟨a, vs, rfl, _, q, _⟩ := r.inj_lst
    cases h
    exact ⟨.base (.lst q), fun _ z => by cases z⟩
  | scr ns => cases h
  | ref a =>
    have e := rep_ref r; subst e
    have h : (match S a with
      | some (.lst _) => some Tn.list
      | some (.dK _ _) => some .dict
      | some (.dT false _) => some .dict
      | _ => none) = some t := h
    cases q : S a with
    | none => rw [q] at h; cases h
    | some o =>
      rw [q] at h
      have rl := g.rel a o q
      cases o with
      | lst ds => cases h; obtain ⟨vs, h1, _⟩ := rl; exact ⟨.base (.lst h1), fun _ z => by cases z⟩
      | dK lk kvs =>
        cases h
        cases lk with
        | false => obtain ⟨ks, h1, _⟩ := rl; exact ⟨.base (.dK h1), fun _ z => by cases z⟩
        | true => obtain ⟨o, ks, h1, _⟩ := rl; exact ⟨.fDict h1, fun _ z => by cases z⟩
      | dT lk kvs =>
        cases lk with
        | false => cases h; obtain ⟨ks, h1, _⟩ := rl; exact ⟨.base (.dT h1), fun _ z => by cases z⟩
        | true => cases h
      | ins _ _ => cases h
theorem ty_boot (y : Ty) (h : tyOk y = true) : bootBuiltins (tyName y) = some (.type (tyStr y)) := by
  cases y <;> first | (cases h; done) | decide +kernel
/-- a type's name as a value -/
theorem pe_ty {y : Ty} (h : tyOk y = true) (hx : x = tyName y) (hg : Gl X x) (hm : X.mg x = none) : PE X (.Name x pos) (tC (.ty (tyStr y))) := by
  subst hx
  refine pe_bltn hg hm (ty_boot y h) rfl ?_ ?_
  · cases y <;> first | (cases h; done) | decide
  · cases y <;> first | (cases h; done) | decide
theorem isi_res {ts : List Ty} {H0 : Hp} {S0 : Hs} {k : DK} {H1 : Hp} {S1 : Hs} {d1 : D} {v : V} (g1 : Gd X.K X.mg e0 H1 S1) (w1 : W H0 S0 H1 S1) (r1 : Rep X.K H1 S1 d1 v) (k1 : match isiD S1 d1 ts with
      | some b => k (.bl b) S1
      | none => False) : ∃ t b, tnOf S1 d1 = some t ∧ b = ts.any (isTy t) ∧ k (.bl b) S1 := by
  unfold isiD at k1
  cases h : tnOf S1 d1 with
  | none => rw [h] at k1; exact k1.elim
  | some t => rw [h] at k1; exact ⟨t, _, rfl, rfl, k1⟩
theorem de_isi1 {y : Ty} {ps : Pos} (hy : tyOk y = true) (hg0 : Gl X "isinstance") (hm0 : X.mg "isinstance" = none) (ha : DE X e0 c a ca) (hs : notStar a = true) {x : Str} (hx : x = tyName y) (hg : Gl X x) (hm : X.mg x = none) :
    DE X e0 c (.Call (.Name "isinstance" p) [a, .Name x ps] [] pos) (.isi ca [y]) := by
  refine rdE_of (pe_callB call_isi hg0 hm0 (by decide +kernel) (pa_cons ha (pa_cons (pe_ty hy hx hg hm) pa_nil) (star_no hs)) (by decide) (by decide) (star_no hs)) fun σ H ρ S k g sl w => ?_
  simp only [wpE] at w
  refine ⟨ρ, S, _, g, sl, w, fun v H1 d1 S1 g1 w1 r1 k1 => ?_⟩
  obtain ⟨t, b, h1, h2, h3⟩ := isi_res g1 w1 r1 k1
  obtain ⟨q1, q2⟩ := tn_of g1.toGr r1 h1
  refine ⟨v, .ty (tyStr y), _, _, b, rfl, .ty _, q1, by rw [kit_one t y q2 hy, h2]; simp, ?_⟩
  exact ⟨.bl b, S1, g1.toGr, w1, by unfold Rep; rfl, h3⟩
/-- a row of type names -/
theorem pa_tys : ∀ {ys : List Ty} {es : List Expr}, Paired (fun y e => PE X e (tC (.ty (tyStr y))) ∧ notStar e = true) ys es → PA X es (fun _ H Q => Q (ys.map fun y => .ty (tyStr y)) H)
  | _, _, .nil => pa_nil
  | _, _, .cons h t => pa_cons h.1 (pa_tys t) (star_no h.2)
theorem clsV_all : ∀ ys : List Ty, Paired ClsV (ys.map fun y => V.ty (tyStr y)) (ys.map fun y => Value.type (tyStr y))
  | [] => .nil
  | y :: ys => .cons (.ty _) (clsV_all ys)
theorem de_isiT {ys : List Ty} {es : List Expr} {j : Nat} {ps : Pos} (hy : ys.all tyOk = true) (hl : ys.length ≤ 100) (hg0 : Gl X "isinstance") (hm0 : X.mg "isinstance" = none) (ha : DE X e0 c a ca) (hs : notStar a = true)
    (hp : Paired (fun y e => PE X e (tC (.ty (tyStr y))) ∧ notStar e = true) ys es) :
    DE X e0 c (.Call (.Name "isinstance" p) [a, .Tuple es j ps] [] pos) (.isi ca ys) := by
  refine rdE_of (pe_callB call_isiT hg0 hm0 (by decide +kernel) (pa_cons ha (pa_cons (pe_tup (pa_tys hp)) pa_nil) (star_no hs)) (by decide) (by decide) (star_no hs)) fun σ H ρ S k g sl w => ?_
  simp only [wpE] at w
  refine ⟨ρ, S, _, g, sl, w, fun v H1 d1 S1 g1 w1 r1 k1 => ?_⟩
  obtain ⟨t, b, h1, h2, h3⟩ := isi_res g1 w1 r1 k1
  refine ⟨by rw [List.length_map]; exact Nat.le_trans hl (by decide), fun tp htp => ?_⟩
  have g2 := g1.toGr.new (o := .tup (ys.map fun y => .ty (tyStr y))) htp
  obtain ⟨q1, q2⟩ := tn_of g2 (r1.mono (W.new htp)) h1
  refine ⟨v, tp, _, _, _, b, rfl, upd_same, clsV_all ys, q1, by rw [kit_any t q2 ys hy, h2], ?_⟩
  exact ⟨.bl b, S1, g2, w1.trans (W.new htp), by unfold Rep; rfl, h3⟩
/-! ### list(x) as a changing list, list(range(..)) -/
theorem de_bin (hc : X.calm = true) (hg : Gl X "list") (hm : X.mg "list" = none) (ha : DA X e0 c (e :: es) ces) (hs : noStar (e :: es) = true) : DE X e0 c (.Call (.Name "list" p) (e :: es) [] pos) (.bin ces) := by
  have hs2 := hs
  unfold noStar at hs2
  rw [Bool.and_eq_true] at hs2
  refine rdE_of (pe_callTy (CallR.or call_list_of (CallR.or (call_list_dK hc) (call_list_dT hc))) hg hm (by decide +kernel) ha (by decide) (by decide) (star_no hs2.1) (noStar_any hs2.2)) fun σ H ρ S k g sl w => ?_
  simp only [wpE] at w
  refine ⟨ρ, S, _, g, sl, w, fun vs H1 ds S1 g1 w1 r1 k1 => ?_⟩
  rcases ds with _ | ⟨x, _ | ⟨y, t⟩⟩
  · exact k1.elim
  · obtain ⟨v, rfl, r⟩ := reps1 r1
    have k1 : (match (match vw S1 x with
      | .tup ds => some (D.lst ds)
      | .lst ds => some (.lst ds)
      | .ref a => (match S1 a with
        | some (.dK false kvs) => some (.lst (kvs.map fun (kv : Key × D) => kD kv.1))
        | some (.dT _ kvs) => some (.lst (kvs.map fun (kv : List Int × D) => tD kv.1))
        | _ => none)
      | _ => none) with
      | some (.lst z) => ∀ p, S1 p = none → k (.ref p) (hput S1 p (.lst z))
      | _ => False) := k1
    cases ev : vw S1 x with
    | tup es =>
      obtain ⟨a, vs, rfl, t, qq⟩ := vw_tup r ev
      rw [ev] at k1
      exact .inl ⟨a, vs, rfl, .inr t.sq, fun p hp => newL g1.toGr w1 qq hp k1⟩
    | lst es =>
      obtain ⟨a, vs, rfl, t, qq⟩ := vw_lst g1.toGr r ev
      rw [ev] at k1
      exact .inl ⟨a, vs, rfl, .inl (SqL.of t), fun p hp => newL g1.toGr w1 qq hp k1⟩
    | ref a =>
      have e2 := vw_of (fun _ h => by cases h) ev
      subst e2
      have ev2 := rep_ref r; subst ev2
      rw [ev] at k1
      have k1 : (match (match S1 a with
        | some (.dK false kvs) => some (D.lst (kvs.map fun (kv : Key × D) => kD kv.1))
        | some (.dT _ kvs) => some (.lst (kvs.map fun (kv : List Int × D) => tD kv.1))
        | _ => none) with
        | some (.lst z) => ∀ p, S1 p = none → k (.ref p) (hput S1 p (.lst z))
        | _ => False) := k1
      cases qs : S1 a with
      | none => rw [qs] at k1; exact k1.elim
      | some o =>
        rw [qs] at k1
        have rl := g1.rel a o qs
        cases o with
        | lst _ => exact k1.elim
        | ins _ _ => exact k1.elim
        | dK lk kvs =>
          cases lk with
          | true => exact k1.elim
          | false =>
            obtain ⟨ks, h1, h2⟩ := rl
            exact .inr (.inl ⟨a, ks, rfl, h1, fun p hp => newL g1.toGr w1 (Reps.keys h2) hp k1⟩)
        | dT lk kvs =>
          obtain ⟨ks, rd, kr⟩ : ∃ ks, Rd H1 a (.dT ks) ∧ TRel X.K H1 S1 kvs ks := by
            cases lk with
            | false => obtain ⟨ks, h1, h2⟩ := rl; exact ⟨ks, .inl h1, h2⟩
            | true => obtain ⟨o, ks, h1, h2⟩ := rl; exact ⟨ks, .inr ⟨o, h1⟩, h2⟩
          exact .inr (.inr ⟨a, ks, rfl, rd, fun p bs hp hk => newL g1.toGr w1 (Reps.of_tkeys (tup_out g1.toGr) kr hk) hp k1⟩)
    | _ => rw [ev] at k1; exact k1.elim
  · exfalso
    cases x <;> exact k1
theorem rng_reps {K : PySem.W.Frag} {H : Hp} {S : Hs} {a : Int} : ∀ n : Nat, Reps K H S ((List.range n).map fun (i : Nat) => D.int (a + (i : Int))) ((List.range n).map fun (i : Nat) => V.int (a + (i : Int))) := fun n => by
  have := Reps.ints (K := K) (H := H) (S := S) ((List.range n).map fun (i : Nat) => a + (i : Int))
  rw [List.map_map, List.map_map] at this
  exact this
/-- list(range(..)), by its ends -/
theorem lrng_res {lo hi : Int} {z : List D} (hz : z = (List.range (hi - lo).toNat).map fun (i : Nat) => D.int (lo + (i : Int))) {nw : Bool} {k : DK} {H0 H1 : Hp} {S0 S1 : Hs} (g1 : Gd X.K X.mg e0 H1 S1) (w1 : W H0 S0 H1 S1)
    (h : if nw then ∀ p, S1 p = none → k (.ref p) (hput S1 p (.lst z)) else k (.lst z) S1) : ∀ q, H1 q = none → Pe X.K X.mg e0 k H0 S0 (.ref q) (upd H1 q (.lst (rgV lo hi))) := fun q hq => by
  have hr : Reps X.K H1 S1 z (rgV lo hi) := by subst hz; exact rng_reps _
  cases nw with
  | true => exact newL g1.toGr w1 hr hq h
  | false => exact ⟨.lst z, S1, g1.toGr.new hq, w1.trans (W.new hq), by unfold Rep; exact ⟨q, _, rfl, g1.toGr.fresh hq, upd_same, hr.mono (W.new hq)⟩, h⟩
theorem de_lrng1 {nw : Bool} {p1 p2 : Pos} (hc : X.calm = true) (hg : Gl X "list") (hm : X.mg "list" = none) (hg2 : Gl X "range") (hm2 : X.mg "range" = none) (ha : DE X e0 c a ca) (hs : notStar a = true) (hst : ca.isStar = false) :
    DE X e0 c (.Call (.Name "list" p) [.Call (.Name "range" p1) [a] [] p2] [] pos) (.lrng nw [ca]) := by
  refine rdE_of (pe_listRg hc hg hm (prg_1 hg2 hm2 ha (star_no hs))) fun σ H ρ S k g sl w => ?_
  simp only [wpE, wpEs, hst] at w
  refine ⟨ρ, S, _, g, sl, w, fun v H1 d1 S1 g1 w1 r1 k1 => ?_⟩
  cases d1 with
  | int n =>
    have ev := rep_int r1; subst ev
    have k1 : (match (if -(2 ^ 62) ≤ n ∧ n < 2 ^ 62 then some ((List.range n.toNat).map fun (i : Nat) => D.int (0 + (i : Int))) else none) with
      | some z => z.length ≤ sizeLine ∧ if nw then ∀ p, S1 p = none → k (.ref p) (hput S1 p (.lst z)) else k (.lst z) S1
      | none => False) := k1
    by_cases hn : -(2 ^ 62) ≤ n ∧ n < 2 ^ 62
    · rw [if_pos hn] at k1
      obtain ⟨k1, k2⟩ := k1
      simp only [List.length_map, List.length_range] at k1
      refine ⟨n, rfl, ⟨by omega, by omega, hn.1, hn.2, by rw [sizeLine_eq] at k1; rw [Int.sub_zero]; exact k1⟩, ?_⟩
      exact lrng_res (lo := 0) (hi := n) (by rw [Int.sub_zero]) g1 w1 k2
    · rw [if_neg hn] at k1; exact k1.elim
  | _ => exact k1.elim
/-! ### methods of built-in types -/
structure CallOk (X : Cx) (o : Expr) (apos cpos : Pos) (es : List Expr) : Prop where
  line : (apos.endLine == cpos.line) = true
  stars : noStar es = true
  few : es.length ≤ 20
def isCallE : Expr → Bool
  | .Call _ _ _ _ => true
  | _ => false
theorem attr_base (h : isCallE o = false) (m : Str) : attributeBase o m X.env (eval o X.env) = eval o X.env := by
  cases o <;> first | rfl | (simp [isCallE] at h)
theorem few_of {es : List Expr} (hs : noStar es = true) (hf : es.length ≤ 20) : ((backTo cpos (starEach es X.env)).all (fun x => !x.1) && (backToKw cpos (keywordEach [] X.env)).all (fun x => x.1.isSome)
      && decide (es.length + ([] : List Keyword).length + (if ([] : List Keyword).isEmpty then 0 else 1) < 30)) = true := by
  rw [noStar_all hs]
  have : (backToKw cpos (keywordEach [] X.env)).all (fun x => x.1.isSome) = true := rfl
  rw [this]
  simp only [Bool.and_self, Bool.true_and, decide_eq_true_eq]
  have : (([] : List Keyword).length + (if ([] : List Keyword).isEmpty then 0 else 1)) = 0 := rfl
  omega
/-- a list's method that changes it -/
theorem de_lmeth {m : Mid} {name : Str} {id : String} {r : V → List V → Hp → VK → Prop} (slot : Slot "list" name id) (hty : typeOf (.builtin id) = pure (.type "method_descriptor")) (hm : MtR X id r)
    (hrec : ∀ S x, recvOk m S x = true → ∃ a ds, x = .ref a ∧ S a = some (.lst ds))
    (hr : ∀ H S a vs ds z S' (Q : VK), Gd X.K X.mg e0 H S → Reps X.K H S ds vs → mthD m S (.ref a) ds = some (z, S') → (∀ v H', Gr X.K X.mg e0 H' S' → W H S H' S' → Rep X.K H' S' z v → Q v H') → r (.ref a) vs H Q)
    (ho : DE X e0 c o co) (ha : DA X e0 c (e :: es) ces) (hb : isCallE o = false) (k : CallOk X o apos cpos (e :: es)) : DE X e0 c (.Call (.Attribute o name apos) (e :: es) [] cpos) (.meth m co ces) := by
  have hs := k.stars
  unfold noStar at hs
  rw [Bool.and_eq_true] at hs
  refine rdE_of (pe_bm PySem.F.plainAttrs_list slot hty hm ho ha (attr_base hb _) (few_of k.stars k.few) k.line (star_no hs.1) (noStar_any hs.2)) fun σ H ρ S k g sl w => ?_
  simp only [wpE] at w
  refine ⟨ρ, S, _, g, sl, w, fun x H1 d1 S1 g1 w1 r1 k1 => ?_⟩
  obtain ⟨k0, k1⟩ := k1
  obtain ⟨a, ds0, rfl, hS⟩ := hrec _ _ k0
  have ev := rep_ref r1; subst ev
  refine ⟨?_, ρ, S1, _, g1, sl.mono w1, k1, fun vs H2 ds S2 g2 w2 r2 k2 => ?_⟩
  · obtain ⟨vs, h1, _⟩ := g1.rel a _ hS
    exact .inl ⟨rfl, vs, SqL.of h1⟩
  · split at k2
    · rename_i z S3 hz
      exact hr H2 S2 a vs ds z S3 _ g2 r2 hz fun v H' g' w' r' => ⟨z, S3, g', (w1.trans w2).trans w', r', k2⟩
    · exact k2.elim
theorem de_lmeth0 {m : Mid} {name : Str} {id : String} {r : V → List V → Hp → VK → Prop} (slot : Slot "list" name id) (hty : typeOf (.builtin id) = pure (.type "method_descriptor")) (hm : MtR X id r)
    (hrec : ∀ S x, recvOk m S x = true → ∃ a ds, x = .ref a ∧ S a = some (.lst ds))
    (hr : ∀ H S a z S' (Q : VK), Gd X.K X.mg e0 H S → mthD m S (.ref a) [] = some (z, S') → (∀ v H', Gr X.K X.mg e0 H' S' → W H S H' S' → Rep X.K H' S' z v → Q v H') → r (.ref a) [] H Q)
    (ho : DE X e0 c o co) (hb : isCallE o = false) (hl : (apos.endLine == cpos.line) = true) : DE X e0 c (.Call (.Attribute o name apos) [] [] cpos) (.meth m co []) := by
  refine rdE_of (pe_bm0 PySem.F.plainAttrs_list slot hty hm ho (attr_base hb _) hl) fun σ H ρ S k g sl w => ?_
  simp only [wpE, wpEs] at w
  refine ⟨ρ, S, _, g, sl, w, fun x H1 d1 S1 g1 w1 r1 k1 => ?_⟩
  obtain ⟨k0, k2⟩ := k1
  obtain ⟨a, ds0, rfl, hS⟩ := hrec _ _ k0
  have ev := rep_ref r1; subst ev
  refine ⟨?_, ?_⟩
  · obtain ⟨vs, h1, _⟩ := g1.rel a _ hS
    exact .inl ⟨rfl, vs, SqL.of h1⟩
  · split at k2
    · rename_i z S3 hz
      exact hr H1 S1 a z S3 _ g1 hz fun v H' g' w' r' => ⟨z, S3, g', w1.trans w', r', k2⟩
    · exact k2.elim
theorem recv_lst {m : Mid} (hm : m = .append ∨ m = .extend ∨ m = .pop ∨ m = .popAt ∨ m = .insert ∨ m = .remove) : ∀ S x, recvOk m S x = true → ∃ a ds, x = .ref a ∧ S a = some (.lst ds) := fun S x h => by
  cases x with
  | ref a =>
    have h : (match S a with
      | some (.lst _) => true
      | _ => false) = true := by rcases hm with rfl | rfl | rfl | rfl | rfl | rfl <;> exact h
    cases q : S a with
    | none => rw [q] at h; cases h
    | some o =>
      rw [q] at h
      cases o with
      | lst ds => exact ⟨a, ds, rfl, q⟩
      | _ => cases h
  | _ => rcases hm with rfl | rfl | rfl | rfl | rfl | rfl <;> cases h
/-- a list in the data heap is put anew -/
theorem putL {H : Hp} {S : Hs} {a : Addr} {ds ds' : List D} {vs' : List V} {z : D} {v : V} {Q : VK} (g : Gd X.K X.mg e0 H S) (hS : S a = some (.lst ds)) (r : Reps X.K H S ds' vs') (rz : Rep X.K H S z v)
    (q : ∀ v H', Gr X.K X.mg e0 H' (hput S a (.lst ds')) → W H S H' (hput S a (.lst ds')) → Rep X.K H' (hput S a (.lst ds')) z v → Q v H') : Q v (upd H a (.lst vs')) := by
  have ne : S a ≠ none := by rw [hS]; exact fun h => by cases h
  exact q v _ (g.toGr.put ne ⟨vs', upd_same, r.mono (W.put ne)⟩) (W.put ne) (rz.mono (W.put ne))
theorem de_append (ho : DE X e0 c o co) (ha : DA X e0 c (e :: es) ces) (hb : isCallE o = false) (k : CallOk X o apos cpos (e :: es)) : DE X e0 c (.Call (.Attribute o "append" apos) (e :: es) [] cpos) (.meth .append co ces) := by
  refine de_lmeth PySem.F.slot_list_append PySem.F.type_list_append mt_append (recv_lst (.inl rfl)) (fun H S a vs ds z S' Q g r h q => ?_) ho ha hb k
  rcases ds with _ | ⟨y, _ | ⟨y2, t⟩⟩
  · cases h
  · obtain ⟨v, rfl, r1⟩ := reps1 r; replace r := r1
    have h : (match S a with
      | some (.lst xs) => if xs.length < sizeLine then some (D.non, hput S a (.lst (xs ++ [y]))) else none
      | _ => none) = some (z, S') := h
    cases e : S a with
    | none => rw [e] at h; cases h
    | some o =>
      rw [e] at h
      cases o with
      | lst xs =>
        have h : (if xs.length < sizeLine then some (D.non, hput S a (.lst (xs ++ [y]))) else none) = some (z, S') := h
        split at h
        · rename_i hl
          obtain ⟨rfl, rfl⟩ := Prod.mk.inj (Option.some.inj h)
          obtain ⟨us, h1, h2⟩ := g.rel a _ e
          exact ⟨a, us, v, rfl, rfl, h1, by rw [← h2.length]; exact hl, putL g e (h2.append (.cons r .nil)) (by unfold Rep; rfl) q⟩
        · cases h
      | _ => cases h
  · cases h
theorem de_extend (ho : DE X e0 c o co) (ha : DA X e0 c (e :: es) ces) (hb : isCallE o = false) (k : CallOk X o apos cpos (e :: es)) : DE X e0 c (.Call (.Attribute o "extend" apos) (e :: es) [] cpos) (.meth .extend co ces) := by
  refine de_lmeth PySem.F.slot_list_extend PySem.F.type_list_extend mt_extend (recv_lst (.inr (.inl rfl))) (fun H S a vs ds z S' Q g r h q => ?_) ho ha hb k
  rcases ds with _ | ⟨y, _ | ⟨y2, t⟩⟩
  · cases h
  · obtain ⟨v, rfl, r1⟩ := reps1 r; replace r := r1
    have h : (match S a, vw S y with
      | some (.lst xs), .lst ys => if xs.length + ys.length ≤ sizeLine then some (D.non, hput S a (.lst (xs ++ ys))) else none
      | _, _ => none) = some (z, S') := h
    cases e : S a with
    | none => rw [e] at h; cases h
    | some o =>
      rw [e] at h
      cases o with
      | lst xs =>
        cases ev : vw S y with
        | lst ys =>
          rw [ev] at h
          have h : (if xs.length + ys.length ≤ sizeLine then some (D.non, hput S a (.lst (xs ++ ys))) else none) = some (z, S') := h
          split at h
          · rename_i hl
            obtain ⟨rfl, rfl⟩ := Prod.mk.inj (Option.some.inj h)
            obtain ⟨us, h1, h2⟩ := g.rel a _ e
            obtain ⟨b, ws, rfl, h3, h4⟩ := vw_lst g.toGr r ev
            exact ⟨a, b, us, ws, rfl, rfl, h1, h3, by rw [← h2.length, ← h4.length]; exact hl, putL g e (h2.append h4) (by unfold Rep; rfl) q⟩
          · cases h
        | _ => rw [ev] at h; cases h
      | _ => cases h
  · cases h
theorem de_pop (ho : DE X e0 c o co) (hb : isCallE o = false) (hl : (apos.endLine == cpos.line) = true) : DE X e0 c (.Call (.Attribute o "pop" apos) [] [] cpos) (.meth .pop co []) := by
  refine de_lmeth0 PySem.F.slot_list_pop PySem.F.type_list_pop mt_pop (recv_lst (.inr (.inr (.inl rfl)))) (fun H S a z S' Q g h q => ?_) ho hb hl
  have h : (match S a with
    | some (.lst xs) => (xs[xs.length - 1]?).map fun y => (y, hput S a (.lst xs.dropLast))
    | _ => none) = some (z, S') := h
  cases e : S a with
  | none => rw [e] at h; cases h
  | some o =>
    rw [e] at h
    cases o with
    | lst xs =>
      obtain ⟨y, h1, h2⟩ := Option.map_eq_some_iff.mp (show (xs[xs.length - 1]?).map (fun y => (y, hput S a (.lst xs.dropLast))) = some (z, S') from h)
      obtain ⟨rfl, rfl⟩ := Prod.mk.inj h2
      obtain ⟨us, h3, h4⟩ := g.rel a _ e
      obtain ⟨v, h5, h6⟩ := h4.get h1
      exact ⟨a, us, v, rfl, rfl, h3, by rw [← h4.length]; exact h5, putL g e h4.dropLast h6 q⟩
    | _ => cases h
theorem de_popAt (ho : DE X e0 c o co) (ha : DA X e0 c (e :: es) ces) (hb : isCallE o = false) (k : CallOk X o apos cpos (e :: es)) : DE X e0 c (.Call (.Attribute o "pop" apos) (e :: es) [] cpos) (.meth .popAt co ces) := by
  refine de_lmeth PySem.F.slot_list_pop PySem.F.type_list_pop mt_popAt (recv_lst (.inr (.inr (.inr (.inl rfl))))) (fun H S a vs ds z S' Q g r h q => ?_) ho ha hb k
  rcases ds with _ | ⟨y, _ | ⟨y2, t⟩⟩
  · cases h
  · obtain ⟨v, rfl, r1⟩ := reps1 r; replace r := r1
    cases y with
    | int i =>
      have ev := rep_int r; subst ev
      have h : (match S a with
        | some (.lst xs) => if 0 ≤ i ∧ i < 2 ^ 62 then (xs[i.toNat]?).map fun y => (y, hput S a (.lst (xs.eraseIdx i.toNat))) else none
        | _ => none) = some (z, S') := h
      cases e : S a with
      | none => rw [e] at h; cases h
      | some o =>
        rw [e] at h
        cases o with
        | lst xs =>
          have h : (if 0 ≤ i ∧ i < 2 ^ 62 then (xs[i.toNat]?).map fun y => (y, hput S a (.lst (xs.eraseIdx i.toNat))) else none) = some (z, S') := h
          split at h
          · rename_i hi
            obtain ⟨y, h1, h2⟩ := Option.map_eq_some_iff.mp h
            obtain ⟨rfl, rfl⟩ := Prod.mk.inj h2
            obtain ⟨us, h3, h4⟩ := g.rel a _ e
            obtain ⟨v, h5, h6⟩ := h4.get h1
            have hlt : i.toNat < us.length := (List.getElem?_eq_some_iff.mp h5).1
            exact ⟨a, us, i, i.toNat, v, rfl, rfl, h3, by omega, by omega, seqIndex_of hi.1 (by omega), h5, putL g e (h4.erase _) h6 q⟩
          · cases h
        | _ => cases h
    | _ => cases h
  · exfalso
    cases y <;> cases h
theorem de_insert (ho : DE X e0 c o co) (ha : DA X e0 c (e :: es) ces) (hb : isCallE o = false) (k : CallOk X o apos cpos (e :: es)) : DE X e0 c (.Call (.Attribute o "insert" apos) (e :: es) [] cpos) (.meth .insert co ces) := by
  refine de_lmeth PySem.F.slot_list_insert PySem.F.type_list_insert mt_insert (recv_lst (.inr (.inr (.inr (.inr (.inl rfl)))))) (fun H S a vs ds z S' Q g r h q => ?_) ho ha hb k
  rcases ds with _ | ⟨x, _ | ⟨y, _ | ⟨y2, t⟩⟩⟩
  · cases h
  · exfalso
    cases x <;> cases h
  · obtain ⟨v, u, rfl, r1, r2⟩ := reps2 r
    cases x with
    | int i =>
      have ev := rep_int r1; subst ev
      have h : (match S a with
        | some (.lst xs) => if 0 ≤ i ∧ i < 2 ^ 62 ∧ xs.length < sizeLine then some (D.non, hput S a (.lst (xs.take i.toNat ++ [y] ++ xs.drop i.toNat))) else none
        | _ => none) = some (z, S') := h
      cases e : S a with
      | none => rw [e] at h; cases h
      | some o =>
        rw [e] at h
        cases o with
        | lst xs =>
          have h : (if 0 ≤ i ∧ i < 2 ^ 62 ∧ xs.length < sizeLine then some (D.non, hput S a (.lst (xs.take i.toNat ++ [y] ++ xs.drop i.toNat))) else none) = some (z, S') := h
          split at h
          · rename_i hi
            obtain ⟨rfl, rfl⟩ := Prod.mk.inj (Option.some.inj h)
            obtain ⟨us, h3, h4⟩ := g.rel a _ e
            exact ⟨a, us, i, u, rfl, rfl, h3, by rw [← h4.length]; exact hi.2.2, hi.1, by omega, putL g e (((h4.take _).append (.cons r2 .nil)).append (h4.drop _)) (by unfold Rep; rfl) q⟩
          · cases h
        | _ => cases h
    | _ => cases h
  · exfalso
    cases x <;> cases h
/-- the first place of what is in -/
theorem first_at {i : Int} : ∀ {ns : List Int}, i ∈ ns → ∃ j, ns[j]? = some i ∧ (∀ m, m < j → ns[m]? ≠ some i) ∧ ns.eraseIdx j = ns.erase i
  | n :: ns, h => by
    by_cases e : n = i
    · subst e
      exact ⟨0, rfl, fun m hm => by omega, by simp⟩
    · obtain ⟨j, h1, h2, h3⟩ := first_at ((List.mem_cons.mp h).resolve_left (fun z => e z.symm))
      refine ⟨j + 1, by simpa using h1, fun m hm => ?_, ?_⟩
      · cases m with
        | zero => simpa using e
        | succ m => simpa using h2 m (by omega)
      · rw [List.eraseIdx_cons_succ, h3, List.erase_cons_tail (by simpa using e)]
theorem de_remove (ho : DE X e0 c o co) (ha : DA X e0 c (e :: es) ces) (hb : isCallE o = false) (k : CallOk X o apos cpos (e :: es)) : DE X e0 c (.Call (.Attribute o "remove" apos) (e :: es) [] cpos) (.meth .remove co ces) := by
  refine de_lmeth PySem.F.slot_list_remove PySem.F.type_list_remove mt_remove (recv_lst (.inr (.inr (.inr (.inr (.inr rfl)))))) (fun H S a vs ds z S' Q g r h q => ?_) ho ha hb k
  rcases ds with _ | ⟨x, _ | ⟨y, t⟩⟩
  · cases h
  · obtain ⟨v, rfl, r1⟩ := reps1 r
    cases x with
    | int i =>
      have ev := rep_int r1; subst ev
      have h : (match S a with
        | some (.lst xs) => (intsOf xs).bind fun ns => if i ∈ ns then some (D.non, hput S a (.lst ((ns.erase i).map .int))) else none
        | _ => none) = some (z, S') := h
      cases e : S a with
      | none => rw [e] at h; cases h
      | some o =>
        rw [e] at h
        cases o with
        | lst xs =>
          obtain ⟨ns, h1, h2⟩ := Option.bind_eq_some_iff.mp (show (intsOf xs).bind (fun ns => if i ∈ ns then some (D.non, hput S a (.lst ((ns.erase i).map .int))) else none) = some (z, S') from h)
          split at h2
          · rename_i hi
            obtain ⟨rfl, rfl⟩ := Prod.mk.inj (Option.some.inj h2)
            have := intsOf_some h1; subst this
            obtain ⟨us, h3, h4⟩ := g.rel a _ e
            have := h4.of_ints; subst this
            obtain ⟨j, q1, q2, q3⟩ := first_at hi
            refine ⟨a, ns, i, j, rfl, rfl, h3, q1, q2, ?_⟩
            rw [q3]
            exact putL g e (Reps.ints _) (by unfold Rep; rfl) q
          · cases h2
        | _ => cases h
    | _ => cases h
  · exfalso
    cases x <;> cases h
/-- d.get(k, x) -/
theorem de_get2 {f : Expr} {cf : CE} (hu : X.A.units + 65 < cLine) (ho : DE X e0 c o co) (ha : DE X e0 c e ce) (hf : DE X e0 c f cf) (hb : isCallE o = false) (k : CallOk X o apos cpos [e, f]) (h1 : ce.isStar = false) (h2 : cf.isStar = false) :
    DE X e0 c (.Call (.Attribute o "get" apos) [e, f] [] cpos) (.meth .get2 co [ce, cf]) := by
  have hs := k.stars
  unfold noStar noStar noStar at hs
  simp only [Bool.and_true, Bool.and_eq_true] at hs
  refine rdE_of (pe_dget2 (by omega) ho ha hf ⟨attr_base hb _, few_of k.stars k.few, k.line, by rw [star_no hs.1, star_no hs.2]; rfl⟩) fun σ H ρ S kk g sl w => ?_
  simp only [wpE, wpEs, h1, h2] at w
  refine ⟨ρ, S, _, g, sl, w, fun x H1 d1 S1 g1 w1 r1 k1 => ?_⟩
  obtain ⟨k0, k1⟩ := k1
  obtain ⟨a, rfl, hd⟩ : ∃ a, d1 = .ref a ∧ IsD H1 a := by
    cases d1 with
    | ref a =>
      refine ⟨a, rfl, ?_⟩
      have k0 : (match S1 a with
        | some (.dK _ _) => true
        | some (.dT _ _) => true
        | _ => false) = true := k0
      cases q : S1 a with
      | none => rw [q] at k0; cases k0
      | some o =>
        rw [q] at k0
        have rl := g1.rel a o q
        cases o with
        | dK lk kvs => cases lk with
          | false => obtain ⟨ks, h1, h2⟩ := rl; exact .inl ⟨ks, .inl h1⟩
          | true => obtain ⟨o, ks, h1, h2⟩ := rl; exact .inl ⟨ks, .inr ⟨o, h1⟩⟩
        | dT lk kvs => cases lk with
          | false => obtain ⟨ks, h1, h2⟩ := rl; exact .inr ⟨ks, .inl h1⟩
          | true => obtain ⟨o, ks, h1, h2⟩ := rl; exact .inr ⟨ks, .inr ⟨o, h1⟩⟩
        | _ => cases k0
    | _ => cases k0
  have ev := rep_ref r1; subst ev
  refine ⟨a, rfl, hd, ρ, S1, _, g1, sl.mono w1, k1, fun y H2 d2 S2 g2 w2 r2 k2 => ⟨ρ, S2, _, g2, (sl.mono w1).mono w2, k2, fun z H3 d3 S3 g3 w3 r3 k3 => ?_⟩⟩
  have w4 := (w1.trans w2).trans w3
  have k3 : (match (dAt S3 (.ref a) d2).map fun o => (o.getD d3, S3) with
    | some (z, S4) => kk z S4
    | none => False) := k3
  cases q : dAt S3 (.ref a) d2 with
  | none => rw [q] at k3; exact k3.elim
  | some oo =>
    rw [q] at k3
    have k3 : kk (oo.getD d3) S3 := k3
    obtain ⟨o', q1, _, q2⟩ := dAt_get g3.toGr (r2.mono w3) q
    refine ⟨o', q1, ?_⟩
    rcases q2 with ⟨rfl, rfl⟩ | ⟨e, v, rfl, rfl, q3⟩
    · exact ⟨d3, S3, g3.toGr, w4, r3, k3⟩
    · exact ⟨e, S3, g3.toGr, w4, q3, k3⟩
end
end Mp

/-! Mp9: calls of defs, targets, what is walked, comprehensions, over data. -/
namespace Mp
open PySem PySem.Spec PyProof.Rows L2

/-! ### calls of defs -/
/-- an exception's object: its class, its dict -/
def XRel (K : PySem.W.Frag) (mg : Str → Option Value) (H : Hp) (S : Hs) (x : Exc) (cls : Value) (d : Option Addr) : Prop :=
  ∃ Ca dx fs, mg x.C = some (.ref Ca) ∧ cls = .ref Ca ∧ d = some dx ∧ S dx = none ∧ H dx = some (.xd fs) ∧ FRel K H S x.fs fs
theorem XRel.mono {K : PySem.W.Frag} {mg : Str → Option Value} {H H' : Hp} {S S' : Hs} {x : Exc} {cls : Value} {d : Option Addr} (w : W H S H' S') (h : XRel K mg H S x cls d) : XRel K mg H' S' x cls d := by
  obtain ⟨Ca, dx, fs, h1, h2, h3, h4, h5, h6⟩ := h
  exact ⟨Ca, dx, fs, h1, h2, h3, (w dx _ h5 h4).2, (w dx _ h5 h4).1, h6.mono w⟩
/-- what a def promises, by data -/
def spF (K : PySem.W.Frag) (mg : Str → Option Value) (G : CallSem) (f : Str) (n : Nat) : Sp := fun vs H Q E =>
  ∃ ds S k ke, Gd K mg (H, S) H S ∧ Reps K H S ds vs ∧ vs.length = n ∧ G f ds S k ke ∧
    (∀ v H' d S', Gd K mg (H, S) H' S' → Rep K H' S' d v → k d S' → Q v H') ∧
    (∀ cls d H' x S', Gd K mg (H, S) H' S' → XRel K mg H' S' x cls d → ke x S' → E cls d H')
/-- every parameter by its name, in order -/
def KBd (K : PySem.W.Frag) (fd : FuncData) (ps : List Str) : Prop := ∀ (s : Shared) (ws : List Value), K.In s.heap → ws.length = ps.length → BindsTo s fd ⟨[], ps.zip ws⟩ (ps.zip ws)
structure CallF (X : Cx) (G : CallSem) (x : Str) (ps : List Str) : Prop where
  ex : ∃ fa fd k, X.mg x = some (.ref fa) ∧ PySem.W.keepIn X.K (.ref fa) = true ∧ Binds X.K fd ps [] ∧ KBd X.K fd ps ∧ Room k X.A ∧ FnOk X.prog X.w X.K X.mg X.base (L2.CX X.prog X.w) k fa fd ps (spF X.K X.mg G x ps.length)
/-- what is wished of an exception at the slots -/
def EX (X : Cx) (e0 : Hp × Hs) (c : Cw) : L2.St → XK := fun σ cls d H => ∃ ρ S x, Gd X.K X.mg e0 H S ∧ Slots X.K H S ρ σ ∧ c.E ρ x S ∧ XRel X.K X.mg H S x cls d

section
variable {X : Cx} {e0 : Hp × Hs} {c : Cw} {p pos apos cpos : Pos} {a b d e o : Expr} {es : List Expr} {ca cb cd ce co : CE} {ces : List CE} {x : Str} {ps : List Str}
theorem gd_self {K : PySem.W.Frag} {mg : Str → Option Value} {H : Hp} {S : Hs} (g : Gd K mg e0 H S) : Gd K mg (H, S) H S := ⟨⟨g.rel, W.refl H S⟩, g.siz⟩
theorem gd_up {K : PySem.W.Frag} {mg : Str → Option Value} {H H' : Hp} {S S' : Hs} (g : Gd K mg e0 H S) (g' : Gd K mg (H, S) H' S') : Gd K mg e0 H' S' := ⟨⟨g'.rel, g.own.trans g'.own⟩, g'.siz⟩
theorem gd_w {K : PySem.W.Frag} {mg : Str → Option Value} {H H' : Hp} {S S' : Hs} (g' : Gd K mg (H, S) H' S') : W H S H' S' := g'.own
/-- the callee's promise from the caller's wish -/
theorem call_res {n : Nat} {σ : L2.St} {H1 H : Hp} {ρ : Ev} {S1 S : Hs} {k : DK} {ds : List D} {vs : List V} (g1 : Gd X.K X.mg e0 H1 S1) (w1 : W H S H1 S1) (sl : Slots X.K H S ρ σ) (r1 : Reps X.K H1 S1 ds vs) (hl : vs.length = n)
    (k1 : c.G x ds S1 k (c.E ρ)) : spF X.K X.mg c.G x n vs H1 (Pe X.K X.mg e0 k H S) (EX X e0 c σ) := by
  refine ⟨ds, S1, k, c.E ρ, gd_self g1, r1, hl, k1, fun v H' d S' g' r' k' => ?_, fun cls d H' x S' g' r' k' => ?_⟩
  · exact ⟨d, S', (gd_up g1 g').toGr, w1.trans (gd_w g'), r', k'⟩
  · exact ⟨ρ, S', x, gd_up g1 g', sl.mono (w1.trans (gd_w g')), k', r'⟩
/-- a def's number of parameters is asked of its arguments -/
def CLen (G : CallSem) (x : Str) (n : Nat) : Prop := ∀ ds S k ke, G x ds S k ke → ds.length = n
theorem de_call (F : CallF X c.G x ps) (hl : CLen c.G x ps.length) (hg : Gl X x) (hd : (x == ("__debug__" : Str)) = false) (hx : ∀ σ, PassesAt (L2.CX X.prog X.w) X σ (EX X e0 c σ)) (ha : DA X e0 c (e :: es) ces) (hs : noStar (e :: es) = true) :
    DE X e0 c (.Call (.Name x p) (e :: es) [] pos) (.call x ces) := by
  obtain ⟨fa, fd, k, hm, hk, hb, _, hr, hf⟩ := F.ex
  have hs2 := hs
  unfold noStar at hs2
  rw [Bool.and_eq_true] at hs2
  refine rdE_of (pe_callSD (ds := []) (dvs := []) (E := EX X e0 c) hf hr hg hm hk hb .nil hx ha hd (star_no hs2.1) (noStar_any hs2.2)) fun σ H ρ S kk g sl w => ?_
  simp only [wpE] at w
  refine ⟨ρ, S, _, g, sl, w, fun vs H1 ds S1 g1 w1 r1 k1 => ?_⟩
  show spF X.K X.mg c.G x ps.length (vs ++ []) H1 _ _
  rw [List.append_nil]
  exact call_res g1 w1 sl r1 (r1.length.symm.trans (hl _ _ _ _ k1)) k1
def tCall0 (sp : Sp) (E : L2.St → XK) : TE := fun σ H Q => sp [] H Q (E σ)
theorem pe_call0S {CX : CXT} {k : Nat} {f : Addr} {fd : FuncData} {sp : Sp} {E : L2.St → XK} (F : FnOk X.prog X.w X.K X.mg X.base CX k f fd ps sp) (hr : Room k X.A) (hg : Gl X x) (hm : X.mg x = some (.ref f)) (hk : PySem.W.keepIn X.K (.ref f) = true) (hb : Binds X.K fd ps []) (hx : ∀ σ, PassesAt CX X σ (E σ))
    (hdb : (x == ("__debug__" : Str)) = false) : PE X (.Call (.Name x p) [] [] pos) (tCall0 sp E) := by
  refine ⟨fun pins s σ H Q I h => ?_⟩
  refine wpAny_Call_Name_kw (ld_glob I hg hm ?_ hdb)
  exact PySem.W.callWith_K0 I.kIn hk (run_fnSD (us := []) (vs := []) (dvs := []) (ds := []) F hr hb .nil (hx σ) I .nil h)
theorem de_call0 (F : CallF X c.G x ps) (hl : CLen c.G x ps.length) (hg : Gl X x) (hd : (x == ("__debug__" : Str)) = false) (hx : ∀ σ, PassesAt (L2.CX X.prog X.w) X σ (EX X e0 c σ)) : DE X e0 c (.Call (.Name x p) [] [] pos) (.call x []) := by
  obtain ⟨fa, fd, k, hm, hk, hb, _, hr, hf⟩ := F.ex
  refine rdE_of (pe_call0S (E := EX X e0 c) hf hr hg hm hk hb hx hd) fun σ H ρ S kk g sl w => ?_
  simp only [wpE, wpEs] at w
  exact call_res (ds := []) (vs := []) g (W.refl H S) sl .nil (hl _ _ _ _ w) w
/-- keywords alone, in the parameters' order -/
def tCallKS (n : Nat) (sp : Sp) (E : L2.St → XK) (tk : TA) : TE := fun σ H Q => tk σ H fun zs H2 => zs.length = n ∧ sp zs H2 Q (E σ)
theorem pe_callKS {CX : CXT} {k : Nat} {f : Addr} {fd : FuncData} {sp : Sp} {E : L2.St → XK} {kws : List Keyword} {tk : TA} (F : FnOk X.prog X.w X.K X.mg X.base CX k f fd ps sp) (hr : Room k X.A) (hg : Gl X x) (hm : X.mg x = some (.ref f)) (hk : PySem.W.keepIn X.K (.ref f) = true) (hb : KBd X.K fd ps) (hx : ∀ σ, PassesAt CX X σ (E σ))
    (hkw : PK X kws tk) (hall : (backToKw pos (keywordEach kws X.env)).all (·.1.isSome) = true) (hks : (backToKw pos (keywordEach kws X.env)).filterMap (·.1) = ps)
    (hdb : (x == ("__debug__" : Str)) = false) (hpl : ((backTo pos (starEach [] X.env)).any (·.1) || (backToKw pos (keywordEach kws X.env)).any (·.1.isNone)) = false) :
    PE X (.Call (.Name x p) [] kws pos) (tCallKS ps.length sp E tk) := by
  refine ⟨fun pins s σ H Q I h => ?_⟩
  refine wpAny_Call_Name_kw (ld_glob I hg hm ?_ hdb)
  refine PySem.W.callWith_KW0 (h₀ := X.base) I.ok.mod.kin hk hall (thn (hkw.run pos pins s σ H _ I h) fun ws s2 ⟨zs, H2, I2, rz, l2, q2⟩ => ⟨I2.kIn, ?_⟩) hpl
  rw [hks]
  refine wpAny_call (codeAny_mono (F.run X.A X.stack s2 H2 ⟨[], ps.zip ws⟩ ws zs Q (E σ) hr I2.env0 (hb s2 ws I2.kIn (rz.length.symm.trans l2)) rz q2) fun r s' hq => ?_)
  cases r with
  | error e => exact hx σ pins H2 s2 e s' I2 hq
  | ok fl =>
    cases fl with
    | ret u => exact I2.after hq
    | next => exact False.elim hq
    | brk => exact False.elim hq
    | cont => exact False.elim hq
/-- keywords' values, by data -/
theorem dk_nil : PK X [] (rdA X.K X.mg e0 (wpEs c [])) := by
  refine ⟨fun pos pins s σ H Q I q => ?_⟩
  obtain ⟨ρ, S, k, g, sl, w, f⟩ := q
  refine (pk_nil (X := X)).run pos pins s σ H Q I ?_
  simp only [wpEs] at w
  exact f [] H [] S g (W.refl H S) .nil w
theorem dk_cons {nm : Option Str} {kpos : Pos} {kws : List Keyword} (ha : DE X e0 c e ce) (hr : PK X kws (rdA X.K X.mg e0 (wpEs c ces))) (hc : ce.isStar = false) : PK X (⟨nm, e, kpos⟩ :: kws) (rdA X.K X.mg e0 (wpEs c (ce :: ces))) := by
  refine ⟨fun pos pins s σ H Q I q => ?_⟩
  obtain ⟨ρ, S, k, g, sl, w, f⟩ := q
  refine (pk_cons (nm := nm) (kpos := kpos) ha hr).run pos pins s σ H Q I ?_
  simp only [wpEs, hc] at w
  refine ⟨ρ, S, _, g, sl, w, fun x H1 d1 S1 g1 w1 r1 k1 => ⟨ρ, S1, _, g1, sl.mono w1, k1, fun xs H2 ds S2 g2 w2 r2 k2 => ?_⟩⟩
  exact f (x :: xs) H2 (d1 :: ds) S2 g2 (w1.trans w2) (.cons (r1.mono w2) r2) k2
def kwNames : List Keyword → Option (List Str)
  | [] => some []
  | ⟨some n, _, _⟩ :: r => (kwNames r).map (n :: ·)
  | ⟨none, _, _⟩ :: _ => none
theorem kw_facts {P : Pos} : ∀ {kws : List Keyword} {ns : List Str}, kwNames kws = some ns → (backToKw P (keywordEach kws X.env)).all (·.1.isSome) = true ∧ (backToKw P (keywordEach kws X.env)).filterMap (·.1) = ns ∧ (backToKw P (keywordEach kws X.env)).any (·.1.isNone) = false
  | [], _, h => by
    cases h
    exact ⟨rfl, rfl, rfl⟩
  | ⟨none, _, _⟩ :: _, _, h => by cases h
  | ⟨some n, _, _⟩ :: r, ns, h => by
    unfold kwNames at h
    obtain ⟨ms, h1, h2⟩ := Option.map_eq_some_iff.mp h
    subst h2
    obtain ⟨q1, q2, q3⟩ := kw_facts (P := P) h1
    refine ⟨?_, ?_, ?_⟩
    · show (true && (backToKw P (keywordEach r X.env)).all (·.1.isSome)) = true
      rw [q1]; rfl
    · show n :: (backToKw P (keywordEach r X.env)).filterMap (·.1) = n :: ms
      rw [q2]
    · show (false || (backToKw P (keywordEach r X.env)).any (·.1.isNone)) = false
      rw [q3]; rfl
theorem de_callk {kws : List Keyword} (F : CallF X c.G x ps) (hl : CLen c.G x ps.length) (hg : Gl X x) (hd : (x == ("__debug__" : Str)) = false) (hx : ∀ σ, PassesAt (L2.CX X.prog X.w) X σ (EX X e0 c σ)) (hk : PK X kws (rdA X.K X.mg e0 (wpEs c ces))) (hn : kwNames kws = some ps) {ks : List Str} :
    DE X e0 c (.Call (.Name x p) [] kws pos) (.callk x [] ks ces) := by
  obtain ⟨fa, fd, k, hm, hkp, _, hb, hr, hf⟩ := F.ex
  obtain ⟨q1, q2, q3⟩ := kw_facts (X := X) (P := pos) hn
  refine rdE_of (pe_callKS (E := EX X e0 c) hf hr hg hm hkp hb hx hk q1 q2 hd (by rw [q3]; rfl)) fun σ H ρ S kk g sl w => ?_
  simp only [wpE, wpEs] at w
  refine ⟨ρ, S, _, g, sl, w, fun vs H1 ds S1 g1 w1 r1 k1 => ?_⟩
  have hl1 := r1.length.symm.trans (hl _ _ _ _ k1)
  exact ⟨hl1, call_res g1 w1 sl r1 hl1 k1⟩
end

/-! ### targets -/
mutual
def gIx : CG → List Nat
  | .nm i => [i]
  | .tg gs => gIxs gs
def gIxs : List CG → List Nat
  | [] => []
  | g :: gs => gIx g ++ gIxs gs
end
section
variable (K : PySem.W.Frag) (mg : Str → Option Value) (e0 : Hp × Hs)
def SameBut (is : List Nat) (σ σ' : L2.St) : Prop := ∀ vs : List Nat, (∀ i ∈ is, i ∈ vs) → wipe σ' vs = wipe σ vs
def rdG (g : CG) : TG := fun x σ H Q => ∃ ρ S d ρ', Gd K mg e0 H S ∧ Slots K H S ρ σ ∧ Rep K H S d x ∧ asgG S g d ρ = some ρ' ∧ ∀ σ', Slots K H S ρ' σ' → SameBut (gIx g) σ σ' → Q σ' H
def rdGs (gs : List CG) : TGs := fun xs σ H Q => ∃ ρ S ds ρ', Gd K mg e0 H S ∧ Slots K H S ρ σ ∧ Reps K H S ds xs ∧ asgGs S gs ds ρ = some ρ' ∧ ∀ σ', Slots K H S ρ' σ' → SameBut (gIxs gs) σ σ' → Q σ' H
end
theorem wipe_at {σ : L2.St} : ∀ {vs : List Nat} {j : Nat}, (wipe σ vs)[j]? = if j < σ.length then (if j ∈ vs then some none else σ[j]?) else none
  | [], j => by
    show σ[j]? = _
    by_cases h : j < σ.length
    · rw [if_pos h, if_neg (by simp)]
    · rw [if_neg h]; exact List.getElem?_eq_none (by omega)
  | v :: vs, j => by
    show ((wipe σ vs).set v none)[j]? = _
    by_cases e : v = j
    · subst e
      by_cases h : v < σ.length
      · rw [List.getElem?_set_self (by rw [wipe_length]; exact h), if_pos h, if_pos (by simp)]
      · rw [if_neg h]; exact List.getElem?_eq_none (by rw [List.length_set, wipe_length]; omega)
    · rw [List.getElem?_set_ne e, wipe_at]
      by_cases h : j < σ.length
      · rw [if_pos h, if_pos h]
        by_cases hm : j ∈ vs
        · rw [if_pos hm, if_pos (List.mem_cons_of_mem _ hm)]
        · rw [if_neg hm, if_neg (by simp only [List.mem_cons, not_or]; exact ⟨fun z => e z.symm, hm⟩)]
      · rw [if_neg h, if_neg h]
theorem wipe_set {σ : L2.St} {vs : List Nat} {i : Nat} {o : Option V} (h : i ∈ vs) : wipe (σ.set i o) vs = wipe σ vs := by
  apply List.ext_getElem?
  intro j
  rw [wipe_at, wipe_at, List.length_set]
  by_cases hj : j < σ.length
  · rw [if_pos hj, if_pos hj]
    by_cases hm : j ∈ vs
    · rw [if_pos hm, if_pos hm]
    · rw [if_neg hm, if_neg hm, List.getElem?_set_ne (fun z : i = j => hm (by subst z; exact h))]
  · rw [if_neg hj, if_neg hj]
section
variable {X : Cx} {e0 : Hp × Hs} {pos : Pos} {x : Str} {e : Expr} {es : List Expr} {g : CG} {gs : List CG}
abbrev DG (X : Cx) (e0 : Hp × Hs) (e : Expr) (g : CG) : Prop := PG X e (rdG X.K X.mg e0 g)
abbrev DGs (X : Cx) (e0 : Hp × Hs) (es : List Expr) (gs : List CG) : Prop := PGs X es (rdGs X.K X.mg e0 gs)
theorem PG.imp {t u : TG} (h : PG X e t) (hi : ∀ v σ H Q, u v σ H Q → t v σ H Q) : PG X e u := ⟨fun pins s σ H v w Q I r q => h.run pins s σ H v w Q I r (hi _ _ _ _ q)⟩
theorem PGs.imp {t u : TGs} (h : PGs X es t) (hi : ∀ v σ H Q, u v σ H Q → t v σ H Q) : PGs X es u := ⟨fun pins s σ H v w Q I r q => h.run pins s σ H v w Q I r (hi _ _ _ _ q)⟩
theorem PG.orr {t u : TG} (h : PG X e t) (h' : PG X e u) : PG X e (fun v σ H Q => t v σ H Q ∨ u v σ H Q) := ⟨fun pins s σ H v w Q I r q => q.elim (fun q => h.run pins s σ H v w Q I r q) fun q => h'.run pins s σ H v w Q I r q⟩
theorem dg_nm {i : Nat} (hN : X.N.Nodup) (hi : X.N[i]? = some x) (hx : Loc X.env.scope x) (hf : X.fn x = true ∨ X.env.scope.names.lookup x = some .local) : DG X e0 (.Name x pos) (.nm i) := by
  refine PG.imp (pg_name hN hi hx hf) fun v σ H Q q => ?_
  obtain ⟨ρ, S, d, ρ', g, sl, r, e, f⟩ := q
  have e : (if i < ρ.length then some (ρ.set i (some d)) else none) = some ρ' := by simpa only [asgG] using e
  by_cases hl : i < ρ.length
  · rw [if_pos hl] at e
    cases e
    exact f _ (sl.set r i) fun vs hv => wipe_set (hv i (by simp [gIx]))
  · rw [if_neg hl] at e; cases e
theorem dgs_nil : DGs X e0 [] [] := by
  refine PGs.imp pgs_nil fun v σ H Q q => ?_
  obtain ⟨ρ, S, ds, ρ', g, sl, r, e, f⟩ := q
  cases ds with
  | nil =>
    have e : some ρ = some ρ' := by simpa only [asgGs] using e
    cases e
    unfold Reps at r
    exact ⟨r, f σ sl fun vs _ => rfl⟩
  | cons _ _ => simp [asgGs] at e
theorem dgs_cons (h1 : DG X e0 e g) (h2 : DGs X e0 es gs) (hs : notStar e = true) : DGs X e0 (e :: es) (g :: gs) := by
  refine PGs.imp (pgs_cons h1 h2 (by cases e <;> first | rfl | (simp [notStar] at hs))) fun v σ H Q q => ?_
  obtain ⟨ρ, S, ds, ρ', gd, sl, r, e, f⟩ := q
  cases ds with
  | nil => simp [asgGs] at e
  | cons d ds =>
    have e : (asgG S g d ρ).bind (asgGs S gs ds) = some ρ' := by simpa only [asgGs] using e
    obtain ⟨ρ1, e1, e2⟩ := Option.bind_eq_some_iff.mp e
    unfold Reps at r
    obtain ⟨w, ws, rfl, r1, r2⟩ := r
    refine ⟨w, ws, rfl, ρ, S, d, ρ1, gd, sl, r1, e1, fun σ1 sl1 b1 => ⟨ρ1, S, ds, ρ', gd, sl1, r2, e2, fun σ2 sl2 b2 => ?_⟩⟩
    refine f σ2 sl2 fun vs hv => ?_
    rw [b2 vs fun i hi => hv i (by simp only [gIxs, List.mem_append]; exact .inr hi), b1 vs fun i hi => hv i (by simp only [gIxs, List.mem_append]; exact .inl hi)]
theorem asgGs_len {S : Hs} : ∀ {gs : List CG} {ds : List D} {ρ ρ' : Ev}, asgGs S gs ds ρ = some ρ' → ds.length = gs.length
  | [], [], _, _, _ => rfl
  | [], _ :: _, _, _, h => by simp [asgGs] at h
  | _ :: _, [], _, _, h => by simp [asgGs] at h
  | g :: gs, d :: ds, ρ, ρ', h => by
    have h : (asgG S g d ρ).bind (asgGs S gs ds) = some ρ' := by simpa only [asgGs] using h
    obtain ⟨ρ1, e1, e2⟩ := Option.bind_eq_some_iff.mp h
    rw [List.length_cons, List.length_cons, asgGs_len e2]
theorem each_len : ∀ {es : List Expr}, (assignEach es X.env).length = es.length
  | [] => rfl
  | e :: es => by
    have : (assignEach (e :: es) X.env).length = (assignEach es X.env).length + 1 := by cases e <;> rfl
    rw [this, each_len, List.length_cons]
theorem each_plain : ∀ {es : List Expr}, noStar es = true → (assignEach es X.env).findIdx? (·.1) = none
  | [], _ => rfl
  | e :: es, h => by
    unfold noStar at h
    rw [Bool.and_eq_true] at h
    have e1 : assignEach (e :: es) X.env = (false, assign e X.env) :: assignEach es X.env := by cases e <;> first | rfl | (simp [notStar] at h)
    rw [e1, List.findIdx?_cons, each_plain h.2]
    rfl
theorem dg_tg {k : Nat} (hc : X.calm = true) (h : DGs X e0 es gs) (hl : es.length = gs.length) (hs : noStar es = true) : DG X e0 (.Tuple es k pos) (.tg gs) := by
  refine PG.imp (PG.orr (pg_tup (n := gs.length) hc h (each_len.trans hl) (each_plain hs)) (pg_unl (n := gs.length) hc h (each_len.trans hl) (each_plain hs))) fun v σ H Q q => ?_
  obtain ⟨ρ, S, d, ρ', g, sl, r, e, f⟩ := q
  simp only [asgG] at e
  cases hq : seqOf S d with
  | none => rw [hq] at e; cases e
  | some ds =>
    rw [hq] at e
    have e : asgGs S gs ds ρ = some ρ' := e
    obtain ⟨p, vs, rfl, sq, rr⟩ := seqOf_cases g.toGr r hq
    have hlen := rr.length.symm.trans (asgGs_len e)
    have fin : rdGs X.K X.mg e0 gs vs σ H Q := ⟨ρ, S, ds, ρ', g, sl, rr, e, fun σ' sl' b => f σ' sl' fun us hu => b us fun i hi => hu i (by simpa only [gIx] using hi)⟩
    rcases sq with t | t
    · exact .inl ⟨p, vs, rfl, t, hlen, fin⟩
    · exact .inr ⟨p, vs, rfl, t, hlen, fin⟩
end
end Mp

/-! Mp10: what is walked (enumerate of a tuple too), comprehensions. -/
namespace Mp
open PySem PySem.Spec PyProof.Rows L2
open AutoSeq1 (wpAny_loadPart')

/-! ### enumerate of a tuple -/
theorem meets_enum_tup (l : Addr) (items : Array Value) (n : Nat) (dct : Option Addr) (sl : Array (Option Value)) :
    Meets (Builtin.«enumerate.__new__» ⟨[.type "enumerate", .ref l], []⟩) (fun _ R s => s.heap.get? l = some { cls := .type "tuple", dict := dct, data := .seq items n, slots := sl } ∧
      R (.ok (.ret (.ref (s.heap.push { cls := .type "tuple_iterator", data := .fields #[.ref l, .int 0 0] }).objs.size)))
        { s with heap := (s.heap.push { cls := .type "tuple_iterator", data := .fields #[.ref l, .int 0 0] }).push { cls := .type "enumerate", data := .fields #[.none, .bool false, .ref s.heap.objs.size, rawInt 0, .none, .none] } }) :=
  .of_wp fun prog w A R s h => by
    obtain ⟨hp, g, d, tk, os⟩ := s; obtain ⟨hl, h⟩ := h
    have hsub := sub_enumerate
    have hL : Heap.IsTuple (Shared.heap ⟨hp, g, d, tk, os⟩) l items := ⟨_, hl, rfl, n, rfl⟩
    wp_walk using wpAny_loadPart' hl
    refine wpAny_stack_any fun st => wpAny_pure ?_
    split
    · rename_i c _ _ _ _ _
      cases (c == Value.type "enumerate")
      · wp_walk using wpAny_loadPart' hl, wpAny_pyIter_tuple hL
        exact ⟨_, rfl, h⟩
      · wp_walk using wpAny_loadPart' hl, wpAny_pyIter_tuple hL
        exact ⟨_, rfl, h⟩
    · wp_walk using wpAny_loadPart' hl, wpAny_pyIter_tuple hL
      exact ⟨_, rfl, h⟩
theorem call_enum_tup {prog : Program} {w : World} {A : Around} {E : Value → Shared → Prop} {s : Shared} {l : Addr} {items : Array Value} {Q : Value → Shared → Prop} (hL : s.heap.IsTuple l items)
    (h : ∀ h', IsEnum h' (s.heap.objs.size + 1) s.heap.objs.size 0 .none → h'.IsTupleIter s.heap.objs.size l 0 → h'.objs.size = s.heap.objs.size + 2 →
      (∀ b o, s.heap.get? b = some o → h'.get? b = some o) → Q (.ref (s.heap.objs.size + 1)) { s with heap := h' }) :
    wpAny (model prog w) A (call (.type "enumerate") [.ref l]) Q E s := by
  obtain ⟨⟨c, dct, dt, sl⟩, hl, hc, n, hd⟩ := hL
  replace hc : c = .type "tuple" := hc
  replace hd : dt = .seq items n := hd
  subst hc hd
  refine callType_new F.called_enumerate (by decide) (F.typeCall_enumerate_1 _) (F.newCall_enumerate_1 _) (fun obj => F.args_object_init_2 obj _) F.entry_enumerate_new
    (meets_enum_tup l items n dct sl) ⟨hl, ?_⟩
  have hz : (s.heap.push { cls := .type "tuple_iterator", data := .fields #[.ref l, .int 0 0] }).objs.size = s.heap.objs.size + 1 := Heap.size_push ..
  show _ ∧ _
  rw [hz]
  have he : IsEnum ((s.heap.push { cls := .type "tuple_iterator", data := .fields #[.ref l, .int 0 0] }).push
      { cls := .type "enumerate", data := .fields #[.none, .bool false, .ref s.heap.objs.size, rawInt 0, .none, .none] }) (s.heap.objs.size + 1) s.heap.objs.size 0 .none := by
    have := Heap.get?_push_size (s.heap.push { cls := .type "tuple_iterator", data := .fields #[.ref l, .int 0 0] })
      (o := { cls := .type "enumerate", data := .fields #[.none, .bool false, .ref s.heap.objs.size, rawInt 0, .none, .none] }) rfl
    rw [hz] at this; exact this
  refine ⟨⟨_, he, rfl⟩, h _ he ⟨_, Heap.get?_push_of_some _ (Heap.get?_push_size _ rfl), rfl, rfl⟩ (by rw [Heap.size_push, hz]) fun b o x => Heap.get?_push_of_some _ (Heap.get?_push_of_some _ x)⟩
/-- the tuple at a, each item in a new pair -/
def IteT (K : PySem.W.Frag) (a : Addr) : It :=
  ⟨fun i H => ∃ (xs : List V) (x : V), SqT K H a xs ∧ xs[i]? = some x, fun i H v H' => ∃ T x, v = .ref T ∧ H T = none ∧ H' = upd H T (.tup [.int (i : Nat), x]) ∧ ∀ xs, SqT K H a xs → xs[i]? = some x, fun i H => ∃ xs : List V, SqT K H a xs ∧ xs.length = i⟩
theorem tup_ne_iter {h : Heap} {a it : Addr} {items : Array Value} {i : Nat} (p : h.IsTuple a items) (q : h.IsTupleIter it a i) : a ≠ it := by
  rintro rfl
  obtain ⟨o, e, c, _⟩ := p
  obtain ⟨o', e', c', _⟩ := q
  rw [e] at e'; cases e'
  rw [c] at c'
  exact absurd c' (by decide)
theorem turn_enumT {P : Program} {w : World} {K : PySem.W.Frag} {elts : List Expr} {kk : Nat} {tpos : Pos} (a e it : Addr) :
    Turn P w K (.Tuple elts kk tpos) (IteT K a) [e, it] e (fun i h => (∃ old, IsEnum h e it ((i : Nat) : Int) old) ∧ h.IsTupleIter it a i ∧ e ≠ it) where
  mem := by simp
  obj := fun i h st b hb => by
    obtain ⟨⟨old, he⟩, ⟨o, ho, hc, hd⟩, _⟩ := st
    have e' : b = e ∨ b = it := by simpa using hb
    rcases e' with z | z
    · rw [z]; exact ⟨_, he, fun v q => nomatch q⟩
    · rw [z]; exact ⟨o, ho, fun v q => by rw [hd] at q; cases q⟩
  keep := fun i h h' st k => let ⟨⟨old, he⟩, hi, hne⟩ := st; ⟨⟨old, k e (by simp) _ he⟩, hi.at fun o q => k it (by simp) o q, hne⟩
  item := by
    intro X hP hw hK hc i pins s σ H E I hf st hg
    subst hP hw hK
    obtain ⟨⟨old, he⟩, hit, hne⟩ := st
    obtain ⟨xs, x, hq, hx⟩ := hg
    obtain ⟨its, rv, p, hz⟩ := I.tuple hq
    obtain ⟨u, hu, ru⟩ := rv.get hx
    have p' : s.heap.IsTuple a its.toArray := p
    have hel : e < s.heap.objs.size := Heap.lt_size he
    have hil : it < s.heap.objs.size := by obtain ⟨_, q, _⟩ := hit; exact Heap.lt_size q
    have hat := tup_ne_iter p' hit
    have hae : a ≠ e := by
      rintro rfl
      obtain ⟨o, q, c, _⟩ := p'
      rw [he] at q; cases q
      have c : Value.type "enumerate" = Value.type "tuple" := c
      exact absurd c (by decide)
    have hlt : i < its.toArray.size := by
      have := (List.getElem?_eq_some_iff.mp hu).1
      simpa using this
    refine wpAny_pyNext_enum_itemD (Draws.tuple (prog := X.prog) (w := X.w) (A := X.A.in1) (I.ok.hd hc) it a hat its.toArray) he ⟨hit, p'⟩ hlt hne (by simp; exact ⟨hne, fun z => hae z.symm⟩) fun y h' tk hy ho st' hT hsz hk => ?_
    have hyu : y = u := by
      have : its[i]? = some y := by simpa using hy
      rw [hu] at this; cases this; rfl
    subst hyu
    obtain ⟨hit', _⟩ := st'
    refine ⟨_, rfl, wpAny_letOwnedTupleGo_enum (s := { s with heap := h', toks := tk + 1 }) ho fun h'' he' sb => ?_⟩
    have hT2 : h''.get? s.heap.objs.size = some { cls := .type "tuple", data := .seq #[.int i tk, y] } := (sb.2 _ (Nat.ne_of_gt hel)).trans hT
    have new : ObjOk X.prog X.w (upd H s.heap.objs.size (.tup [.int (i : Nat), x])) h'' s.heap.objs.size (.tup [.int (i : Nat), x]) :=
      ⟨by show 2 ≤ sizeLine; decide, [.int i tk, y], .cons ⟨_, rfl⟩ (.cons ru .nil), ⟨_, hT2, rfl, _, rfl⟩⟩
    have I1 : Inv X pins σ (upd H s.heap.objs.size (.tup [.int (i : Nat), x])) { s with heap := h'', toks := tk + 1 } :=
      I.turnedNew (ch := [e, it]) (fun b ob hb q => (sb.2 b (fun z => hb (by simp [z]))).trans (hk b ob (fun z => hb (by simp [z])) (fun z => hb (by simp [z])) q)) hf (Nat.le_refl _) new
    refine ⟨.ref s.heap.objs.size, _, I1, rfl, ⟨_, x, rfl, I.hok.fresh (Nat.le_refl _), rfl, fun ys hy => by rw [I.tuple_inj hy hq]; exact hx⟩, ⟨⟨y, ?_⟩, hit'.at fun o q => (sb.2 it (Ne.symm hne)).trans q, hne⟩, fun b hb => ?_⟩
    · have e1 : ((i + 1 : Nat) : Int) = (i : Int) + 1 := by omega
      rw [e1]; exact he'
    · have hb' : b < s.heap.objs.size := by
        have e' : b = e ∨ b = it := by simpa using hb
        rcases e' with z | z
        · rw [z]; exact hel
        · rw [z]; exact hil
      rw [upd_ne (Nat.ne_of_lt hb')]
      exact (hf b hb).1
  done := by
    intro X hP hw hK hc i pins s σ H E I hf st hg
    subst hP hw hK
    obtain ⟨⟨old, he⟩, hit, hne⟩ := st
    obtain ⟨xs, hq, hx⟩ := hg
    obtain ⟨its, rv, p, hz⟩ := I.tuple hq
    have p' : s.heap.IsTuple a its.toArray := p
    obtain ⟨f0, f1, f2, f3, f4, f5⟩ := hf it (by simp)
    have hl := rv.length
    have hat := tup_ne_iter p' hit
    have hn : its.toArray.size = i := by simp; omega
    have D := Draws.tuple (prog := X.prog) (w := X.w) (A := X.A.in1) (I.ok.hd hc) it a hat its.toArray
    exact wpAny_pyNext_enum_endD D he (by rw [hn]; exact ⟨hit, p'⟩) fun h' eb => ⟨rfl, I.turned (t' := s.toks) (fun b o hb q => eb b o hb q) f0 f1 f3 f4 f5⟩
  self := fun A i s Q E st h => let ⟨⟨_, he⟩, _⟩ := st; wpAny_pyIter_enum he h
def iEnumA (K : PySem.W.Frag) (ta : TA) : TI := fun σ H R => ta σ H fun vs H1 => ∃ a xs, vs = [.ref a] ∧ ((SqL K H1 a xs ∧ R (Ite K a) H1) ∨ (SqT K H1 a xs ∧ R (IteT K a) H1))
theorem pi_enumA {X : Cx} {e : Expr} {ta : TA} {p pos tpos : Pos} {elts : List Expr} {kk : Nat} (hg : Gl X "enumerate") (hm : X.mg "enumerate" = none) (ha : PA X [e] ta) (hs : starEach [e] X.env = [(false, eval e X.env)]) :
    PI X (.Tuple elts kk tpos) (.Call (.Name "enumerate" p) [e] [] pos) (iEnumA X.K ta) := by
  refine ⟨fun pins s σ H R I h => ?_⟩
  refine Call_ (ld_blt I hg hm boot_enumerate (PyProof.Rows.callWith_type1 (thn (ha.run pos pins s σ H _ I h) fun us s1 ⟨vs, H1, I1, r1, q1⟩ => ?_) hs rfl))
  obtain ⟨a, xs, ex, q1⟩ := q1
  subst ex
  cases r1 with
  | cons r rr =>
    cases rr
    cases r
    have fp : ∀ b ∈ [s1.heap.objs.size + 1, s1.heap.objs.size], FpOk X pins H1 b := fun b hb => by
      have e' : b = s1.heap.objs.size + 1 ∨ b = s1.heap.objs.size := by simpa using hb
      have hle : s1.heap.objs.size ≤ b := by
        rcases e' with z | z
        · rw [z]; exact Nat.le_add_right _ _
        · rw [z]; exact Nat.le_refl _
      exact I1.fpOk hle (I1.hok.fresh hle)
    rcases q1 with ⟨hq, q⟩ | ⟨hq, q⟩
    · obtain ⟨its, rv, p', hz⟩ := I1.list hq
      refine call_enumerate_list p'.isList fun h' he hit hsz hk => wpAny_pyIter_enum he ?_
      exact ⟨s1.heap.objs.size + 1, [s1.heap.objs.size + 1, s1.heap.objs.size], _, _, H1, rfl, I1.kept (t' := s1.toks) hk, turn_enum a (s1.heap.objs.size + 1) s1.heap.objs.size, ⟨⟨.none, he⟩, hit, Nat.succ_ne_self _⟩, fp, q⟩
    · obtain ⟨its, rv, p', hz⟩ := I1.tuple hq
      refine call_enum_tup (items := its.toArray) p' fun h' he hit hsz hk => wpAny_pyIter_enum he ?_
      exact ⟨s1.heap.objs.size + 1, [s1.heap.objs.size + 1, s1.heap.objs.size], _, _, H1, rfl, I1.kept (t' := s1.toks) hk, turn_enumT a (s1.heap.objs.size + 1) s1.heap.objs.size, ⟨⟨.none, he⟩, hit, Nat.succ_ne_self _⟩, fp, q⟩
/-- a list, a tuple or a text -/
def iSeq (K : PySem.W.Frag) (te : TE) : TI := fun σ H R => te σ H fun x H1 => (∃ a xs, x = .ref a ∧ SqL K H1 a xs ∧ R (Itl K a) H1) ∨ (∃ a xs, x = .ref a ∧ SqT K H1 a xs ∧ R (Itt K a) H1) ∨ ∃ z, x = .str z ∧ R (Its z) H1
theorem pi_seq {X : Cx} {tg e : Expr} {te : TE} (he : PE X e te) : PI X tg e (iSeq X.K te) := by
  refine ⟨fun pins s σ H R I h => ?_⟩
  refine thn (he.run pins s σ H _ I h) fun v s1 ⟨x, H1, I1, r1, q1⟩ => ?_
  have fp : ∀ b ∈ [s1.heap.objs.size], FpOk X pins H1 b := fun b hb => by
    have e : b = s1.heap.objs.size := by simpa using hb
    subst e
    exact I1.fpOk (Nat.le_refl _) (I1.hok.fresh (Nat.le_refl _))
  rcases q1 with ⟨a, xs, rfl, hq, q⟩ | ⟨a, xs, rfl, hq, q⟩ | ⟨z, rfl, q⟩
  · cases r1
    obtain ⟨its, rv, p, hz⟩ := I1.list hq
    exact wpAny_pyIter_list p.isList ⟨s1.heap.objs.size, [s1.heap.objs.size], _, _, H1, rfl, I1.kept (t' := s1.toks) fun b o e => Heap.get?_push_of_some _ e, turn_list a _, ⟨_, Heap.get?_push_size _ rfl, rfl, rfl⟩, fp, q⟩
  · cases r1
    obtain ⟨its, rv, p, hz⟩ := I1.tuple hq
    exact wpAny_pyIter_tuple (show s1.heap.IsTuple a its.toArray from p) ⟨s1.heap.objs.size, [s1.heap.objs.size], _, _, H1, rfl, I1.kept (t' := s1.toks) fun b o e => Heap.get?_push_of_some _ e, turn_tuple a _, ⟨_, Heap.get?_push_size _ rfl, rfl, rfl⟩, fp, q⟩
  · obtain ⟨t, rfl⟩ := r1
    cases ha : z.cps.all (· < 128)
    · exact wpAny_pyIter_wide ha (pi_one (tk := s1.toks) I1 _ (turn_str _ z t "str_iterator" (.inr rfl)) ⟨_, Heap.get?_push_size _ rfl, rfl, rfl⟩ q)
    · exact wpAny_pyIter_ascii ha (pi_one (tk := s1.toks) I1 _ (turn_str _ z t "str_ascii_iterator" (.inl rfl)) ⟨_, Heap.get?_push_size _ rfl, rfl, rfl⟩ q)

/-! ### what is walked, by data -/
section
variable (K : PySem.W.Frag) (mg : Str → Option Value) (e0 : Hp × Hs)
/-- J walks xs while ok holds (from H1, S1 on) -/
structure WkD (J : It) (xs : List D) (ok : Hs → Prop) (H1 : Hp) (S1 : Hs) : Prop where
  go : ∀ i H S, Gd K mg e0 H S → W H1 S1 H S → ok S → i < xs.length → J.go i H
  yld : ∀ i H S x H', Gd K mg e0 H S → W H1 S1 H S → ok S → i < xs.length → J.yld i H x H' → ∃ d, xs[i]? = some d ∧ Gd K mg e0 H' S ∧ W H S H' S ∧ Rep K H' S d x
  stop : ∀ H S, Gd K mg e0 H S → W H1 S1 H S → ok S → J.stop xs.length H
def rdI (wp : Ev → (List D → (Hs → Prop) → Hs → Prop) → Hs → Prop) : TI := fun σ H R => ∃ ρ S k, Gd K mg e0 H S ∧ Slots K H S ρ σ ∧ wp ρ k S ∧
  ∀ J H' S' xs ok, Gd K mg e0 H' S' → W H S H' S' → WkD K mg e0 J xs ok H' S' → k xs ok S' → R J H'
end
section
variable {X : Cx} {e0 : Hp × Hs} {c : Cw} {p pos tpos : Pos} {e e2 tg : Expr} {es elts : List Expr} {ce ce2 : CE} {ces : List CE}
abbrev DI (X : Cx) (e0 : Hp × Hs) (c : Cw) (tg e : Expr) (ci : CI) : Prop := PI X tg e (rdI X.K X.mg e0 (wpI c ci))
/-- the wish of an iterable, without the lengths (they come from the state) -/
def Pi (K : PySem.W.Frag) (mg : Str → Option Value) (e0 : Hp × Hs) (k : List D → (Hs → Prop) → Hs → Prop) (H : Hp) (S : Hs) : It → Hp → Prop := fun J H' => ∃ S' xs ok, Gd K mg e0 H' S' ∧ W H S H' S' ∧ WkD K mg e0 J xs ok H' S' ∧ k xs ok S'
theorem rdI_of {t : TI} {wp : Ev → (List D → (Hs → Prop) → Hs → Prop) → Hs → Prop} (h : PI X tg e t) (hi : ∀ σ H ρ S k, Gd X.K X.mg e0 H S → Slots X.K H S ρ σ → wp ρ k S → t σ H (Pi X.K X.mg e0 k H S)) : PI X tg e (rdI X.K X.mg e0 wp) := by
  refine ⟨fun pins s σ H R I q => ?_⟩
  obtain ⟨ρ, S, k, g, sl, w, f⟩ := q
  refine thn (h.run pins s σ H _ I (hi σ H ρ S k g sl w)) fun v s1 h1 => thn h1 fun itv s2 h2 => ?_
  obtain ⟨it, fp, tn, J, H2, e, I2, T, st2, f2, S', xs, ok, g', w', wk, k'⟩ := h2
  exact ⟨it, fp, tn, J, H2, e, I2, T, st2, f2, f J H2 S' xs ok g' w' wk k'⟩
theorem PI.orr {t u : TI} (h : PI X tg e t) (h' : PI X tg e u) : PI X tg e (fun σ H Q => t σ H Q ∨ u σ H Q) := ⟨fun pins s σ H R I q => q.elim (fun q => h.run pins s σ H R I q) fun q => h'.run pins s σ H R I q⟩
section
variable {K : PySem.W.Frag} {mg : Str → Option Value} {H1 : Hp} {S1 : Hs} {ds : List D} {vs : List V} {a : Addr}
theorem wk_tup (t : TupAt K H1 S1 a vs) (r : Reps K H1 S1 ds vs) : WkD K mg e0 (Itt K a) ds (fun _ => True) H1 S1 where
  go := fun i H S g w _ hi => ⟨vs, vs[i]'(by rw [← r.length]; exact hi), (t.mono w).sq, by rw [List.getElem?_eq_getElem]⟩
  yld := fun i H S x H' g w _ hi y => by
    obtain ⟨rfl, y⟩ := y
    obtain ⟨d, h1, h2⟩ := r.getV (y vs (t.mono w).sq)
    exact ⟨d, h1, g, W.refl _ _, h2.mono w⟩
  stop := fun H S g w _ => ⟨vs, (t.mono w).sq, by rw [r.length]; exact Nat.le_refl _⟩
theorem wk_lst (hs : S1 a = none) (t : H1 a = some (.lst vs)) (r : Reps K H1 S1 ds vs) : WkD K mg e0 (Itl K a) ds (fun _ => True) H1 S1 where
  go := fun i H S g w _ hi => ⟨vs, vs[i]'(by rw [← r.length]; exact hi), SqL.of (w a _ t hs).1, by rw [List.getElem?_eq_getElem]⟩
  yld := fun i H S x H' g w _ hi y => by
    obtain ⟨rfl, y⟩ := y
    obtain ⟨d, h1, h2⟩ := r.getV (y vs (SqL.of (w a _ t hs).1))
    exact ⟨d, h1, g, W.refl _ _, h2.mono w⟩
  stop := fun H S g w _ => ⟨vs, SqL.of (w a _ t hs).1, by rw [r.length]; exact Nat.le_refl _⟩
theorem wk_ref : WkD K mg e0 (Itl K a) ds (fun S' => S' a = some (.lst ds)) H1 S1 where
  go := fun i H S g w ok hi => by
    obtain ⟨vs, h1, h2⟩ := g.rel a _ ok
    exact ⟨vs, vs[i]'(by rw [← h2.length]; exact hi), SqL.of h1, by rw [List.getElem?_eq_getElem]⟩
  yld := fun i H S x H' g w ok hi y => by
    obtain ⟨vs, h1, h2⟩ := g.rel a _ ok
    obtain ⟨rfl, y⟩ := y
    obtain ⟨d, h3, h4⟩ := h2.getV (y vs (SqL.of h1))
    exact ⟨d, h3, g, W.refl _ _, h4⟩
  stop := fun H S g w ok => by
    obtain ⟨vs, h1, h2⟩ := g.rel a _ ok
    exact ⟨vs, SqL.of h1, by rw [h2.length]; exact Nat.le_refl _⟩
theorem wk_str {x : Str} (o : PyData.strOk x = true) : WkD K mg e0 (Its x) (x.cps.toList.map fun c => .str ⟨#[c]⟩) (fun _ => True) H1 S1 where
  go := fun i H S g w _ hi => by
    rw [List.length_map] at hi
    show i < x.cps.size
    simpa using hi
  yld := fun i H S v H' g w _ hi y => by
    obtain ⟨rfl, c, hc, rfl⟩ := y
    refine ⟨.str ⟨#[c]⟩, by rw [List.getElem?_map]; simp [hc], g, W.refl _ _, ?_⟩
    unfold Rep
    refine ⟨rfl, ?_⟩
    unfold PyData.strOk at o ⊢
    have := (Array.all_eq_true_iff_forall_mem.mp o) c (Array.mem_of_getElem? hc)
    simpa using this
  stop := fun H S g w _ => by
    rw [List.length_map]
    show x.cps.size ≤ _
    simp
theorem wk_rng {lo : Int} {n : Nat} : WkD K mg e0 (Itr lo n) ((List.range n).map fun (i : Nat) => D.int (lo + (i : Int))) (fun _ => True) H1 S1 where
  go := fun i H S g w _ hi => by
    rw [List.length_map, List.length_range] at hi
    exact hi
  yld := fun i H S v H' g w _ hi y => by
    obtain ⟨rfl, rfl⟩ := y
    rw [List.length_map, List.length_range] at hi
    exact ⟨.int (lo + (i : Int)), by rw [List.getElem?_map, List.getElem?_range hi]; rfl, g, W.refl _ _, by unfold Rep; rfl⟩
  stop := fun H S g w _ => by
    rw [List.length_map, List.length_range]
    exact Nat.le_refl _
end
/-- items, and where they lie -/
theorem items_of {H : Hp} {S : Hs} {d : D} {v : V} {ds : List D} {ok : Hs → Prop} (g : Gd X.K X.mg e0 H S) (r : Rep X.K H S d v) (h : itemsOf S d = some (ds, ok)) :
    (∃ a vs, v = .ref a ∧ SqL X.K H a vs ∧ WkD X.K X.mg e0 (Itl X.K a) ds ok H S) ∨ (∃ a vs, v = .ref a ∧ SqT X.K H a vs ∧ WkD X.K X.mg e0 (Itt X.K a) ds ok H S) ∨ ∃ z, v = .str z ∧ WkD X.K X.mg e0 (Its z) ds ok H S := by
  cases d with
  | tup es =>
    cases h
    obtain ⟨a, vs, rfl, t, q⟩ := r.inj_tup
    exact .inr (.inl ⟨a, vs, rfl, t.sq, wk_tup t q⟩)
  | lst es =>
    cases h
    obtain ⟨a, vs, rfl, h1, h2, h3⟩ := r.inj_lst
    exact .inl ⟨a, vs, rfl, SqL.of h2, wk_lst h1 h2 h3⟩
  | str z =>
    cases h
    obtain ⟨rfl, o⟩ := rep_str r
    exact .inr (.inr ⟨z, rfl, wk_str o⟩)
  | ref a =>
    have ev := rep_ref r; subst ev
    simp only [itemsOf] at h
    cases q : S a with
    | none => rw [q] at h; cases h
    | some o =>
      rw [q] at h
      cases o with
      | lst es =>
        cases h
        obtain ⟨vs, h1, h2⟩ := g.rel a _ q
        exact .inl ⟨a, vs, rfl, SqL.of h1, wk_ref⟩
      | _ => cases h
  | _ => simp [itemsOf] at h
theorem di_seq (ha : DE X e0 c e ce) : DI X e0 c tg e (.seq ce) := by
  refine rdI_of (pi_seq ha) fun σ H ρ S k g sl w => ?_
  simp only [wpI] at w
  refine ⟨ρ, S, _, g, sl, w, fun v H1 d1 S1 g1 w1 r1 k1 => ?_⟩
  split at k1
  · rename_i ds ok hq
    rcases items_of g1 r1 hq with ⟨a, vs, e, t, wk⟩ | ⟨a, vs, e, t, wk⟩ | ⟨z, e, wk⟩
    · exact .inl ⟨a, vs, e, t, S1, ds, ok, g1, w1, wk, k1⟩
    · exact .inr (.inl ⟨a, vs, e, t, S1, ds, ok, g1, w1, wk, k1⟩)
    · exact .inr (.inr ⟨z, e, S1, ds, ok, g1, w1, wk, k1⟩)
  · exact k1.elim
theorem di_rng1 (hg : Gl X "range") (hm : X.mg "range" = none) (ha : DE X e0 c e ce) (hs : notStar e = true) (hst : ce.isStar = false) : DI X e0 c tg (.Call (.Name "range" p) [e] [] pos) (.rng [ce]) := by
  refine rdI_of (pi_range1 hg hm (pa_cons ha pa_nil (star_no hs)) (star_no hs)) fun σ H ρ S k g sl w => ?_
  simp only [wpI, wpEs, hst] at w
  refine ⟨ρ, S, _, g, sl, w, fun v H1 d1 S1 g1 w1 r k1 => ?_⟩
  split at k1
  · rename_i xs hq
    cases d1 with
    | int n =>
      have ev := rep_int r; subst ev
      simp only [rngOf] at hq
      split at hq
      · rename_i hn
        cases hq
        exact ⟨n, rfl, hn.1, hn.2, S1, _, _, g1, w1, wk_rng, k1⟩
      · cases hq
    | _ => simp [rngOf] at hq
  · exact k1.elim
theorem di_rng2 (hg : Gl X "range") (hm : X.mg "range" = none) (ha : DE X e0 c e ce) (hb : DE X e0 c e2 ce2) (hs : notStar e = true) (hs2 : notStar e2 = true) (hst : ce.isStar = false) (hst2 : ce2.isStar = false) : DI X e0 c tg (.Call (.Name "range" p) [e, e2] [] pos) (.rng [ce, ce2]) := by
  refine rdI_of (pi_range2 hg hm (pa_cons ha (pa_cons hb pa_nil (star_no hs2)) (star_no hs)) (by rw [star_no hs, star_no hs2]; rfl) (star_no hs2)) fun σ H ρ S k g sl w => ?_
  simp only [wpI, wpEs, hst, hst2] at w
  refine ⟨ρ, S, _, g, sl, w, fun v H1 d1 S1 g1 w1 r1 k1 => ⟨ρ, S1, _, g1, sl.mono w1, k1, fun v2 H2 d2 S2 g2 w2 r2 k2 => ?_⟩⟩
  split at k2
  · rename_i xs hq
    cases d1 with
    | int n =>
      cases d2 with
      | int m =>
        have ev := rep_int r1; subst ev
        have ev := rep_int r2; subst ev
        simp only [rngOf] at hq
        split at hq
        · rename_i hn
          cases hq
          exact ⟨n, m, rfl, ⟨hn.1.1, hn.1.2, hn.2.1, hn.2.2⟩, S2, _, _, g2, w1.trans w2, wk_rng, k2⟩
        · cases hq
      | _ => simp [rngOf] at hq
    | _ => simp [rngOf] at hq
  · exact k2.elim
theorem sized_pair {H : Hp} {T : Addr} {x y : V} (h : Sized H) : Sized (upd H T (.tup [x, y])) := fun a => by
  by_cases e : a = T
  · subst e
    refine ⟨fun xs z => ?_, fun xs z => ?_⟩
    · rw [upd_same] at z; cases z
    · rw [upd_same] at z
      cases z
      show 2 ≤ sizeLine
      decide
  · rw [upd_ne e]; exact h a
/-- a pair made at a turn -/
theorem pair_new {H : Hp} {S : Hs} {T : Addr} {x y : D} {u v : V} (g : Gd X.K X.mg e0 H S) (h : H T = none) (r1 : Rep X.K H S x u) (r2 : Rep X.K H S y v) :
    Gd X.K X.mg e0 (upd H T (.tup [u, v])) S ∧ W H S (upd H T (.tup [u, v])) S ∧ Rep X.K (upd H T (.tup [u, v])) S (.tup [x, y]) (.ref T) := by
  have w : W H S (upd H T (.tup [u, v])) S := W.new h
  refine ⟨⟨g.toGr.new h, sized_pair g.siz⟩, w, ?_⟩
  unfold Rep
  exact ⟨T, [u, v], rfl, .inl ⟨g.toGr.fresh h, upd_same⟩, .cons (r1.mono w) (.cons (r2.mono w) .nil)⟩
theorem enum_at : ∀ {ds : List D} {n i : Nat} {d : D}, ds[i]? = some d → (enumFrom' n ds)[i]? = some (.tup [.int ((n + i : Nat) : Int), d])
  | [], _, _, _, h => by simp at h
  | e :: ds, n, 0, d, h => by
    have : e = d := by simpa using h
    subst this
    rfl
  | e :: ds, n, i + 1, d, h => by
    show (enumFrom' (n + 1) ds)[i]? = _
    rw [enum_at (n := n + 1) (by simpa using h)]
    congr 5
    omega
theorem enum_len : ∀ {ds : List D} {n : Nat}, (enumFrom' n ds).length = ds.length
  | [], _ => rfl
  | _ :: ds, n => by
    show (enumFrom' (n + 1) ds).length + 1 = _
    rw [enum_len]; rfl
theorem wk_enumL {a : Addr} {ds : List D} {ok : Hs → Prop} {H1 : Hp} {S1 : Hs} (wk : WkD X.K X.mg e0 (Itl X.K a) ds ok H1 S1) : WkD X.K X.mg e0 (Ite X.K a) (enumFrom' 0 ds) ok H1 S1 where
  go := fun i H S g w o hi => wk.go i H S g w o (by rw [enum_len] at hi; exact hi)
  yld := fun i H S v H' g w o hi y => by
    obtain ⟨T, x, rfl, hT, rfl, q⟩ := y
    obtain ⟨d, h1, _, _, h4⟩ := wk.yld i H S x H g w o (by rw [enum_len] at hi; exact hi) ⟨rfl, q⟩
    obtain ⟨q1, q2, q3⟩ := pair_new (x := .int (i : Nat)) g hT (by unfold Rep; rfl) h4
    exact ⟨_, by rw [enum_at h1]; rw [Nat.zero_add], q1, q2, q3⟩
  stop := fun H S g w o => by rw [enum_len]; exact wk.stop H S g w o
theorem wk_enumT {a : Addr} {ds : List D} {ok : Hs → Prop} {H1 : Hp} {S1 : Hs} {vs : List V} (t : ∀ H S, Gd X.K X.mg e0 H S → W H1 S1 H S → SqT X.K H a vs) (hl : vs.length = ds.length) (wk : WkD X.K X.mg e0 (Itt X.K a) ds ok H1 S1) : WkD X.K X.mg e0 (IteT X.K a) (enumFrom' 0 ds) ok H1 S1 where
  go := fun i H S g w o hi => wk.go i H S g w o (by rw [enum_len] at hi; exact hi)
  yld := fun i H S v H' g w o hi y => by
    obtain ⟨T, x, rfl, hT, rfl, q⟩ := y
    obtain ⟨d, h1, _, _, h4⟩ := wk.yld i H S x H g w o (by rw [enum_len] at hi; exact hi) ⟨rfl, q⟩
    obtain ⟨q1, q2, q3⟩ := pair_new (x := .int (i : Nat)) g hT (by unfold Rep; rfl) h4
    exact ⟨_, by rw [enum_at h1]; rw [Nat.zero_add], q1, q2, q3⟩
  stop := fun H S g w o => ⟨vs, t H S g w, by rw [enum_len]; exact hl⟩
theorem di_enum {k : Nat} (hg : Gl X "enumerate") (hm : X.mg "enumerate" = none) (ha : DE X e0 c e ce) (hs : notStar e = true) : DI X e0 c (.Tuple elts k tpos) (.Call (.Name "enumerate" p) [e] [] pos) (.enum ce) := by
  refine rdI_of (pi_enumA hg hm (pa_cons ha pa_nil (star_no hs)) (star_no hs)) fun σ H ρ S k g sl w => ?_
  simp only [wpI] at w
  refine ⟨ρ, S, _, g, sl, w, fun v H1 d1 S1 g1 w1 r1 k1 => ?_⟩
  split at k1
  · rename_i ds ok hq
    cases d1 with
    | tup es =>
      cases hq
      obtain ⟨a, vs, rfl, t, q⟩ := r1.inj_tup
      exact ⟨a, vs, rfl, .inr ⟨t.sq, S1, _, _, g1, w1, wk_enumT (fun H S _ w => (t.mono w).sq) q.length.symm (wk_tup t q), k1⟩⟩
    | lst es =>
      cases hq
      obtain ⟨a, vs, rfl, h1, h2, h3⟩ := r1.inj_lst
      exact ⟨a, vs, rfl, .inl ⟨SqL.of h2, S1, _, _, g1, w1, wk_enumL (wk_lst h1 h2 h3), k1⟩⟩
    | ref a =>
      have ev := rep_ref r1; subst ev
      simp only [itemsE, itemsOf] at hq
      cases q : S1 a with
      | none => rw [q] at hq; cases hq
      | some o =>
        rw [q] at hq
        cases o with
        | lst es =>
          cases hq
          obtain ⟨vs, h1, h2⟩ := g1.rel a _ q
          exact ⟨a, vs, rfl, .inl ⟨SqL.of h1, S1, _, _, g1, w1, wk_enumL wk_ref, k1⟩⟩
        | _ => cases hq
    | str z => simp [itemsE] at hq
    | _ => simp [itemsE, itemsOf] at hq
  · exact k1.elim
end
end Mp

/-! Mp11: comprehensions. -/
namespace Mp
open PySem PySem.Spec PyProof.Rows L2

theorem wipe_idem {σ : L2.St} {vs : List Nat} : wipe (wipe σ vs) vs = wipe σ vs := by
  apply List.ext_getElem?
  intro j
  rw [wipe_at, wipe_at, wipe_length]
  by_cases hj : j < σ.length
  · rw [if_pos hj, if_pos hj]
    by_cases hm : j ∈ vs
    · rw [if_pos hm, if_pos hm]
    · rw [if_neg hm, if_neg hm]
  · rw [if_neg hj, if_neg hj]
theorem pe_imp {X : Cx} {e : Expr} {t u : TE} (h : PE X e t) (hi : ∀ σ H Q, u σ H Q → t σ H Q) : PE X e u := ⟨fun pins s σ H Q I q => h.run pins s σ H Q I (hi _ _ _ q)⟩
theorem ps_imp {X : Cx} {e : Stmt} {t u : TS} (h : PS X e t) (hi : ∀ D σ H, u D σ H → t D σ H) : PS X e u := ⟨fun pins s σ H D I q => h.run pins s σ H D I (hi _ _ _ q)⟩
theorem pss_imp {X : Cx} {e : List Stmt} {t u : TS} (h : PSs X e t) (hi : ∀ D σ H, u D σ H → t D σ H) : PSs X e u := ⟨fun pins s σ H D I q => h.run pins s σ H D I (hi _ _ _ q)⟩
theorem sized_upd {H : Hp} {p : Addr} {vs : List V} (h : Sized H) (hl : vs.length ≤ sizeLine) : Sized (upd H p (.lst vs)) := fun a => by
  by_cases e : a = p
  · subst e
    refine ⟨fun xs z => ?_, fun xs z => ?_⟩
    · rw [upd_same] at z; cases z; exact hl
    · rw [upd_same] at z; cases z
  · rw [upd_ne e]; exact h a
theorem drop_at {α : Type} {xs : List α} {i : Nat} (h : i < xs.length) : xs.drop i = xs[i] :: xs.drop (i + 1) := List.drop_eq_getElem_cons h
theorem gd_lstNew {K : PySem.W.Frag} {mg : Str → Option Value} {e0 : Hp × Hs} {H : Hp} {S : Hs} {p : Addr} (g : Gd K mg e0 H S) (h : H p = none) : Gd K mg e0 (upd H p (.lst [])) (hput S p (.lst [])) :=
  ⟨g.toGr.newS (u := .lst []) h ⟨[], upd_same, .nil⟩, sized_upd g.siz (Nat.zero_le _)⟩
theorem gd_lstPut {K : PySem.W.Frag} {mg : Str → Option Value} {e0 : Hp × Hs} {H : Hp} {S : Hs} {p : Addr} {acc ds : List D} {vs : List V} (g : Gd K mg e0 H S) (h : S p = some (.lst acc)) (r : Reps K H S ds vs) (hl : vs.length ≤ sizeLine) :
    Gd K mg e0 (upd H p (.lst vs)) (hput S p (.lst ds)) ∧ W H S (upd H p (.lst vs)) (hput S p (.lst ds)) := by
  have hs : S p ≠ none := by rw [h]; exact fun z => by cases z
  exact ⟨⟨g.toGr.put hs ⟨vs, upd_same, r.mono (W.put hs)⟩, sized_upd g.siz hl⟩, W.put hs⟩
section
variable {X : Cx} {e0 : Hp × Hs} {c : Cw} {σ : L2.St} {H : Hp} {Q : VK} {ce : CE} {g : CG} {ci : CI} {cifs : List CE} {own : List (Str × Nat)} {nw : Bool}
theorem lc_imp (hgi : ∀ i ∈ gIx g, i ∈ own.map (·.2)) (h : rdE X.K X.mg e0 (wpE c (.comp nw ce g ci cifs own)) σ H Q) :
    tLc (rdI X.K X.mg e0 (wpI c ci)) (rdG X.K X.mg e0 g) (rdT X.K X.mg e0 (wpT c.noE cifs)) (rdE X.K X.mg e0 (wpE c.noE ce)) (own.map (·.2)) σ H Q := by
  obtain ⟨ρ, S, k, gd, sl, w, f⟩ := h
  simp only [wpE] at w
  refine ⟨ρ, S, _, gd, sl, w, fun J H1 S1 xs ok g1 w1 wk k1 => fun p hp => ?_⟩
  replace k1 := k1 p (g1.toGr.fresh hp)
  have g1' := gd_lstNew g1 hp
  have wn : Mp.W H1 S1 (upd H1 p (.lst [])) (hput S1 p (.lst [])) := W.newS hp
  generalize hstep : (fun (x : D) (kk : Option D → Hs → Prop) (S2 : Hs) => match asgG S2 g x (wipeD ρ (own.map (·.2))) with
        | some ρ2 => wpT (c.noE) cifs ρ2 (fun b S3 => if b then wpE (c.noE) ce ρ2 (fun y S4 => kk (some y) S4) S3 else kk none S3) S2
        | none => False) = step at k1
  refine ⟨fun i m H' => ∃ S', Gd X.K X.mg e0 H' S' ∧ Mp.W (upd H1 p (.lst [])) (hput S1 p (.lst [])) H' S' ∧ i ≤ xs.length ∧ m = xs.length - i ∧ cmpL ok p step (xs.drop i) (fun S2 => ∃ acc, S2 p = some (.lst acc) ∧ if nw then k (.ref p) S2 else k (.lst acc) (hdel S2 p)) S',
    ⟨xs.length, hput S1 p (.lst []), g1', W.refl _ _, Nat.zero_le _, by simp, k1⟩, ?_⟩
  rintro i m H' ⟨S', g', w', hi, rfl, cl⟩
  by_cases hlt : i < xs.length
  · rw [drop_at hlt] at cl
    obtain ⟨o, cl⟩ := cl
    refine .inr ⟨wk.go i H' S' g' (wn.trans w') o hlt, fun H'' => ∃ S'', Gd X.K X.mg e0 H'' S'' ∧ Mp.W (upd H1 p (.lst [])) (hput S1 p (.lst [])) H'' S'' ∧ cmpL ok p step (xs.drop (i + 1)) (fun S2 => ∃ acc, S2 p = some (.lst acc) ∧ if nw then k (.ref p) S2 else k (.lst acc) (hdel S2 p)) S'',
      fun H'' ⟨S'', g'', w'', c''⟩ => ⟨xs.length - (i + 1), by omega, S'', g'', w'', hlt, rfl, c''⟩, fun x H2 y => ?_⟩
    obtain ⟨d, hd, g2, w2, r2⟩ := wk.yld i H' S' x H2 g' (wn.trans w') o hlt y
    have ed : xs[i] = d := by
      rw [List.getElem?_eq_getElem hlt] at hd
      exact Option.some.inj hd
    rw [ed, ← hstep] at cl
    simp only [] at cl
    split at cl
    · rename_i ρ2 hρ
      have wall : Mp.W H S H2 S' := ((w1.trans wn).trans w').trans w2
      refine ⟨wipeD ρ (own.map (·.2)), S', d, ρ2, g2, (sl.mono wall).wipe _, r2, hρ, fun σ2 sl2 sb => ⟨(sb _ hgi).trans wipe_idem, ρ2, S', _, g2, sl2, cl, fun b H3 S3 g3 w3 k3 => ?_⟩⟩
      cases b with
      | false =>
        rw [if_neg Bool.false_ne_true] at k3 ⊢
        exact ⟨S3, g3, (w'.trans w2).trans w3, by rw [hstep] at k3; exact k3⟩
      | true =>
        rw [if_pos rfl] at k3 ⊢
        refine ⟨ρ2, S3, _, g3, sl2.mono w3, k3, fun yv H4 dy S4 g4 w4 r4 k4 => ?_⟩
        obtain ⟨acc, e1, e2, e3⟩ := k4
        obtain ⟨vs, q1, q2⟩ := g4.rel p _ e1
        have hl := q2.length
        obtain ⟨gp, wp⟩ := gd_lstPut (ds := acc ++ [dy]) (vs := vs ++ [yv]) g4 e1 (q2.append (.cons r4 .nil)) (by rw [List.length_append]; show vs.length + 1 ≤ _; omega)
        exact ⟨vs, q1, by omega, hput S4 p (.lst (acc ++ [dy])), gp, (((w'.trans w2).trans w3).trans w4).trans wp, by rw [hstep] at e3; exact e3⟩
    · exact cl.elim
  · have e : i = xs.length := by omega
    subst e
    rw [List.drop_length] at cl
    obtain ⟨o, acc, e1, e2⟩ := cl
    refine .inl ⟨wk.stop H' S' g' (wn.trans w') o, ?_⟩
    have wall : Mp.W H S H' S' := (w1.trans wn).trans w'
    cases nw with
    | true => exact f (.ref p) H' (.ref p) S' g' wall (by unfold Rep; rfl) e2
    | false =>
      obtain ⟨vs, q1, q2⟩ := g'.rel p _ e1
      have wl : Mp.W H' S' H' (hdel S' p) := W.less hdel_le
      exact f (.ref p) H' (.lst acc) (hdel S' p) ⟨g'.toGr.less hdel_le, g'.siz⟩ (wall.trans wl) (by unfold Rep; exact ⟨p, vs, rfl, hdel_same, q1, q2.mono wl⟩) e2
variable {elt tg iter : Expr} {ifs : List Expr} {scope : Scope} {pos spos py : Pos} {y : Str}
theorem de_comp (hc : X.calm = true) (hN : X.N.Nodup) (hi : DI X e0 c tg iter ci) (ok : BlkOk X.N X.env.scope scope own)
    (hg : ∀ (s : Shared) (H : Hp) (C : Addr) (cl : List (Str × Addr)) (fp : List Addr), DG (X.blk s H scope (compEnvC scope cl C X.env) fp) e0 tg g)
    (ht : ∀ (s : Shared) (H : Hp) (C : Addr) (cl : List (Str × Addr)) (fp : List Addr), PTs (X.blk s H scope (compEnvC scope cl C X.env) fp) ifs (rdT X.K X.mg e0 (wpT c.noE cifs)))
    (he : ∀ (s : Shared) (H : Hp) (C : Addr) (cl : List (Str × Addr)) (fp : List Addr), DE (X.blk s H scope (compEnvC scope cl C X.env) fp) e0 c.noE elt ce)
    (hgi : ∀ i ∈ gIx g, i ∈ own.map (·.2)) (hs : ∀ x, foldedSetIterable iter X.env x = pure x) : DE X e0 c (.ListComp elt [⟨tg, iter, ifs, 0⟩] scope pos) (.comp nw ce g ci cifs own) :=
  pe_imp (pe_lc hc hN hi ok hg ht he hs) fun σ H Q h => lc_imp hgi h
end
/-- the judgement of a clause's tests -/
theorem dts_nil {X : Cx} {e0 : Hp × Hs} {c : Cw} : PTs X [] (rdT X.K X.mg e0 (wpT c [])) := by
  refine ⟨fun pins s σ H Q I q => ?_⟩
  obtain ⟨ρ, S, k, g, sl, w, f⟩ := q
  simp only [wpT] at w
  exact (pts_nil (X := X)).run pins s σ H Q I (f true H S g (W.refl _ _) w)
theorem dts_one {X : Cx} {e0 : Hp × Hs} {c : Cw} {e : Expr} {ce : CE} (h : DT X e0 c e ce) : PTs X [e] (rdT X.K X.mg e0 (wpT c [ce])) := by
  refine ⟨fun pins s σ H Q I q => (pts_one h).run pins s σ H Q I ?_⟩
  obtain ⟨ρ, S, k, g, sl, w, f⟩ := q
  refine ⟨ρ, S, k, g, sl, ?_, f⟩
  simp only [wpT] at w
  have e : (fun (x : D) (S1 : Hs) => match truth S1 x with
    | some true => k true S1
    | some false => k false S1
    | none => False) = fun x S1 => match truth S1 x with
    | some b => k b S1
    | none => False := by
    funext x S1
    cases truth S1 x with
    | none => rfl
    | some b => cases b <;> rfl
  show wpE c ce ρ (fun x S1 => match truth S1 x with
    | some b => k b S1
    | none => False) S
  rw [← e]
  exact w
end Mp

/-! Mp12: statements. -/
namespace Mp
open PySem PySem.Spec PyProof.Rows L2

section
variable (K : PySem.W.Frag) (mg : Str → Option Value) (e0 : Hp × Hs)
structure SPost (F : Fin) (D : Ends) (H : Hp) (S : Hs) : Prop where
  nx : ∀ σ' H' ρ' S', Gd K mg e0 H' S' → Mp.W H S H' S' → Slots K H' S' ρ' σ' → F.nx ρ' S' → D.nx σ' H'
  rt : ∀ v H' d S', Gd K mg e0 H' S' → Mp.W H S H' S' → Rep K H' S' d v → F.rt d S' → D.rt v H'
  bk : ∀ σ' H' ρ' S', Gd K mg e0 H' S' → Mp.W H S H' S' → Slots K H' S' ρ' σ' → F.bk ρ' S' → D.bk σ' H'
  ct : ∀ σ' H' ρ' S', Gd K mg e0 H' S' → Mp.W H S H' S' → Slots K H' S' ρ' σ' → F.ct ρ' S' → D.ct σ' H'
def rdS (wp : Fin → Ev → Hs → Prop) : TS := fun D σ H => ∃ ρ S F, Gd K mg e0 H S ∧ Slots K H S ρ σ ∧ wp F ρ S ∧ SPost K mg e0 F D H S
end
section
variable {K : PySem.W.Frag} {mg : Str → Option Value} {e0 : Hp × Hs}
theorem SPost.from {F : Fin} {D : Ends} {H H1 : Hp} {S S1 : Hs} (p : SPost K mg e0 F D H S) (w : Mp.W H S H1 S1) : SPost K mg e0 F D H1 S1 :=
  ⟨fun σ' H' ρ' S' g w' => p.nx σ' H' ρ' S' g (w.trans w'), fun v H' d S' g w' => p.rt v H' d S' g (w.trans w'), fun σ' H' ρ' S' g w' => p.bk σ' H' ρ' S' g (w.trans w'), fun σ' H' ρ' S' g w' => p.ct σ' H' ρ' S' g (w.trans w')⟩
end
abbrev DS (X : Cx) (e0 : Hp × Hs) (c : Cw) (st : Stmt) (cs : CS) : Prop := PS X st (rdS X.K X.mg e0 (wpS c cs))
abbrev DSs (X : Cx) (e0 : Hp × Hs) (c : Cw) (sts : List Stmt) (css : List CS) : Prop := PSs X sts (rdS X.K X.mg e0 (wpSs c css))
section
variable {X : Cx} {e0 : Hp × Hs} {c : Cw} {pos pos' spos py : Pos} {e o i tg elt iter : Expr} {ce co ci : CE} {g : CG} {st : Stmt} {sts a b : List Stmt} {cs : CS} {css ca cb : List CS} {x y : Str}
theorem dss_nil : DSs X e0 c [] [] := by
  refine pss_imp pss_nil fun D σ H h => ?_
  obtain ⟨ρ, S, F, g, sl, w, p⟩ := h
  simp only [wpSs] at w
  exact p.nx σ H ρ S g (W.refl _ _) sl w
theorem dss_cons (h1 : DS X e0 c st cs) (h2 : DSs X e0 c sts css) : DSs X e0 c (st :: sts) (cs :: css) := by
  refine pss_imp (pss_cons h1 h2) fun D σ H h => ?_
  obtain ⟨ρ, S, F, g, sl, w, p⟩ := h
  simp only [wpSs] at w
  exact ⟨ρ, S, _, g, sl, w, ⟨fun σ' H' ρ' S' g' w' sl' k => ⟨ρ', S', F, g', sl', k, p.from w'⟩, p.rt, p.bk, p.ct⟩⟩
/-- a ghost step ahead -/
theorem dss_frz {i : Nat} (h : DSs X e0 c sts css) : DSs X e0 c sts (.frz i :: css) := by
  refine pss_imp h fun D σ H h => ?_
  obtain ⟨ρ, S, F, g, sl, w, p⟩ := h
  simp only [wpSs, wpS] at w
  split at w
  · rename_i a hi
    split at w
    · rename_i xs hs
      obtain ⟨vs, h1, h2⟩ := g.rel a _ hs
      have wl : Mp.W H S H (hdel S a) := W.less hdel_le
      refine ⟨ρ.set i (some (.lst xs)), hdel S a, F, ⟨g.toGr.less hdel_le, g.siz⟩, ?_, w, p.from wl⟩
      obtain ⟨v, hv, rv⟩ := sl.2 i _ hi
      have := rep_ref rv; subst this
      have sl2 := (sl.mono wl).set (d := .lst xs) (v := .ref a) (by unfold Rep; exact ⟨a, vs, rfl, hdel_same, h1, h2.mono wl⟩) i
      have e : σ.set i (some (V.ref a)) = σ := by
        apply List.ext_getElem?
        intro j
        by_cases hj : i = j
        · subst hj
          rw [hv, List.getElem?_set_self (by exact (List.getElem?_eq_some_iff.mp hv).1)]
        · rw [List.getElem?_set_ne hj]
      rw [e] at sl2
      exact sl2
    · exact w.elim
  · exact w.elim
theorem ds_bad : DS X e0 c st .bad := by
  refine ps_imp ps_never fun D σ H h => ?_
  obtain ⟨ρ, S, F, g, sl, w, p⟩ := h
  simp only [wpS] at w
theorem dss_bad : DSs X e0 c sts [.bad] := by
  refine pss_imp pss_never fun D σ H h => ?_
  obtain ⟨ρ, S, F, g, sl, w, p⟩ := h
  simp only [wpSs, wpS] at w
/-- what stores to a target -/
theorem asg_imp {te : TE} {D : Ends} {σ : L2.St} {H : Hp} (hte : ∀ Q, rdE X.K X.mg e0 (wpE c ce) σ H Q → te σ H Q) (h : rdS X.K X.mg e0 (wpS c (.asg g ce)) D σ H) : tAsg te (rdG X.K X.mg e0 g) D σ H := by
  obtain ⟨ρ, S, F, gd, sl, w, p⟩ := h
  simp only [wpS] at w
  refine hte _ ⟨ρ, S, _, gd, sl, w, fun v H1 d S1 g1 w1 r1 k1 => ?_⟩
  split at k1
  · rename_i ρ' hρ
    exact ⟨ρ, S1, d, ρ', g1, sl.mono w1, r1, hρ, fun σ' sl' _ => p.nx σ' H1 ρ' S1 g1 w1 sl' k1⟩
  · exact k1.elim
theorem name_imp {te : TE} {n : Nat} {D : Ends} {σ : L2.St} {H : Hp} (hte : ∀ Q, rdE X.K X.mg e0 (wpE c ce) σ H Q → te σ H Q) (h : rdS X.K X.mg e0 (wpS c (.asg (.nm n) ce)) D σ H) : tAsg te (gName n) D σ H := by
  obtain ⟨ρ, S, F, gd, sl, w, p⟩ := h
  simp only [wpS] at w
  refine hte _ ⟨ρ, S, _, gd, sl, w, fun v H1 d S1 g1 w1 r1 k1 => ?_⟩
  simp only [asgG] at k1
  split at k1
  · rename_i ρ' hρ
    split at hρ
    · cases hρ
      exact p.nx _ H1 _ S1 g1 w1 ((sl.mono w1).set r1 n) k1
    · cases hρ
  · exact k1.elim
/-- no comprehension: no store of its value is swapped -/
def noComp : Expr → Bool
  | .ListComp .. => false
  | .SetComp .. => false
  | .DictComp .. => false
  | _ => true
theorem swf {t : Option Expr} {l : Nat} {env : Env} (h : noComp e = true) : swapsWith e t l env = pure false := by
  cases e <;> first | (cases h; done) | rfl
theorem ds_set {n : Nat} (hN : X.N.Nodup) (hi : X.N[n]? = some x) (hx : Loc X.env.scope x) (hf : X.fn x = true ∨ X.env.scope.names.lookup x = some .local) (he : DE X e0 c e ce) (hs : noComp e = true) : DS X e0 c (.Assign [.Name x pos'] e pos) (.asg (.nm n) ce) :=
  ps_imp (ps_set hN hi hx he (swf hs) hf) fun D σ H h => name_imp (fun _ q => q) h
theorem ds_setC {n : Nat} {ifs : List Expr} {scope : Scope} {own : List (Str × Nat)} {cI : CI} {cifs : List CE} {nw : Bool} {gg : CG} (hc : X.calm = true) (hN : X.N.Nodup) (hy : X.N[n]? = some y) (hyl : X.env.scope.names.lookup y = some .local)
    (hsw : swapsWith (.ListComp elt [⟨tg, iter, ifs, 0⟩] scope pos) (some (.Name y py)) spos.line X.env = pure true) (hi : DI X e0 c tg iter cI) (ok : BlkOk X.N X.env.scope scope own)
    (hg : ∀ (s : Shared) (H : Hp) (C : Addr) (cl : List (Str × Addr)) (fp : List Addr), DG (X.blk s H scope (compEnvC scope cl C X.env) fp) e0 tg gg)
    (ht : ∀ (s : Shared) (H : Hp) (C : Addr) (cl : List (Str × Addr)) (fp : List Addr), PTs (X.blk s H scope (compEnvC scope cl C X.env) fp) ifs (rdT X.K X.mg e0 (wpT c.noE cifs)))
    (he : ∀ (s : Shared) (H : Hp) (C : Addr) (cl : List (Str × Addr)) (fp : List Addr), DE (X.blk s H scope (compEnvC scope cl C X.env) fp) e0 c.noE elt ce)
    (hgi : ∀ i ∈ gIx gg, i ∈ own.map (·.2)) (hs : ∀ x, foldedSetIterable iter X.env x = pure x) :
    DS X e0 c (.Assign [.Name y py] (.ListComp elt [⟨tg, iter, ifs, 0⟩] scope pos) spos) (.asg (.nm n) (.comp nw ce gg cI cifs own)) :=
  ps_imp (ps_setLc hc hN hy hyl hsw hi ok hg ht he hs) fun D σ H h => name_imp (fun _ q => lc_imp hgi q) h
theorem ds_asg (he : DE X e0 c e ce) (hg : DG X e0 tg g) (hs : noComp e = true) (hw : swappedStores [tg] e X.env = pure none) (h1 : notStar tg = true) : DS X e0 c (.Assign [tg] e pos) (.asg g ce) :=
  ps_imp (ps_asg he hg (by show swapsWith e (some tg) pos.line X.env = pure false; exact swf hs) hw (by cases tg <;> first | rfl | (simp [notStar] at h1))) fun D σ H h => asg_imp (fun _ q => q) h
/-- a, b = x, y -/
theorem ds_par {n m : Nat} {p q : Expr} {cp cq : CE} {px pyy pt : Pos} {kt k2 pt2} (hc : X.calm = true) (hN : X.N.Nodup) (hi : X.N[n]? = some x) (hj : X.N[m]? = some y) (hij : n ≠ m)
    (hx : X.env.scope.names.lookup x = some .local) (hy : X.env.scope.names.lookup y = some .local) (ha : DA X e0 c [p, q] [cp, cq])
    (hw : swappedStores [.Tuple [.Name x px, .Name y pyy] kt pt] (.Tuple [p, q] k2 pt2) X.env = pure (some [x, y])) :
    DS X e0 c (.Assign [.Tuple [.Name x px, .Name y pyy] kt pt] (.Tuple [p, q] k2 pt2) pos) (.asg (.tg [.nm n, .nm m]) (.tup [cp, cq])) := by
  refine ps_imp (ps_par hc hN hi hj hij hx hy ha hw rfl) fun D σ H h => ?_
  obtain ⟨ρ, S, F, gd, sl, w, pp⟩ := h
  rw [wpS, wpE] at w
  refine ⟨ρ, S, _, gd, sl, w, fun vs H1 ds S1 g1 w1 r1 k1 => ?_⟩
  obtain ⟨_, k1⟩ := k1
  split at k1
  · rename_i ρ' hρ
    simp only [asgG, seqOf] at hρ
    have hl := asgGs_len hρ
    rcases ds with _ | ⟨d1, _ | ⟨d2, _ | ⟨d3, t⟩⟩⟩
    · simp at hl
    · simp at hl
    · obtain ⟨v1, v2, rfl, q1, q2⟩ := reps2 r1
      refine ⟨v1, v2, rfl, ?_⟩
      simp only [asgGs, asgG] at hρ
      split at hρ
      · simp only [Option.bind_some, List.length_set] at hρ
        split at hρ
        · simp only [Option.bind_some] at hρ
          cases hρ
          exact pp.nx _ H1 _ S1 g1 w1 (((sl.mono w1).set q1 n).set q2 m) k1
        · simp at hρ
      · simp at hρ
    · simp at hl
  · exact k1.elim
theorem ds_expr (he : DE X e0 c e ce) (hs : noComp e = true) : DS X e0 c (.Expr e pos) (.expr ce) := by
  refine ps_imp (ps_expr he (swf hs)) fun D σ H h => ?_
  obtain ⟨ρ, S, F, gd, sl, w, p⟩ := h
  simp only [wpS] at w
  exact ⟨ρ, S, _, gd, sl, w, fun v H1 d S1 g1 w1 r1 k1 => p.nx σ H1 ρ S1 g1 w1 (sl.mono w1) k1⟩
theorem ds_doc {j} : DS X e0 c (.Expr (.Constant (.str x) j pos) pos') .pass := by
  refine ps_imp ps_doc fun D σ H h => ?_
  obtain ⟨ρ, S, F, gd, sl, w, p⟩ := h
  simp only [wpS] at w
  exact p.nx σ H ρ S gd (W.refl _ _) sl w
theorem ds_ret (he : DE X e0 c e ce) : DS X e0 c (.Return (some e) pos) (.ret ce) := by
  refine ps_imp (ps_ret he) fun D σ H h => ?_
  obtain ⟨ρ, S, F, gd, sl, w, p⟩ := h
  simp only [wpS] at w
  exact ⟨ρ, S, _, gd, sl, w, fun v H1 d S1 g1 w1 r1 k1 => p.rt v H1 d S1 g1 w1 r1 k1⟩
theorem ds_retN : DS X e0 c (.Return none pos) .retN := by
  refine ps_imp ps_retN fun D σ H h => ?_
  obtain ⟨ρ, S, F, gd, sl, w, p⟩ := h
  simp only [wpS] at w
  exact p.rt .non H .non S gd (W.refl _ _) (by unfold Rep; rfl) w
theorem ds_pass : DS X e0 c (.Pass pos) .pass := by
  refine ps_imp ps_pass fun D σ H h => ?_
  obtain ⟨ρ, S, F, gd, sl, w, p⟩ := h
  simp only [wpS] at w
  exact p.nx σ H ρ S gd (W.refl _ _) sl w
theorem ds_brk : DS X e0 c (.Break pos) .brk := by
  refine ps_imp ps_break fun D σ H h => ?_
  obtain ⟨ρ, S, F, gd, sl, w, p⟩ := h
  simp only [wpS] at w
  exact p.bk σ H ρ S gd (W.refl _ _) sl w
theorem ds_cont : DS X e0 c (.Continue pos) .cont := by
  refine ps_imp ps_continue fun D σ H h => ?_
  obtain ⟨ρ, S, F, gd, sl, w, p⟩ := h
  simp only [wpS] at w
  exact p.ct σ H ρ S gd (W.refl _ _) sl w
theorem ds_if (hc : DT X e0 c e ce) (ha : DSs X e0 c a ca) (hb : DSs X e0 c b cb) : DS X e0 c (.If e a b pos) (.ifs ce ca cb) := by
  refine ps_imp (ps_if hc ha hb) fun D σ H h => ?_
  obtain ⟨ρ, S, F, gd, sl, w, p⟩ := h
  simp only [wpS] at w
  refine ⟨ρ, S, _, gd, sl, wpB_if (P := fun S1 => wpSs c ca F ρ S1) (Q := fun S1 => wpSs c cb F ρ S1) w, fun t H1 S1 g1 w1 k1 => ?_⟩
  cases t with
  | true =>
    rw [if_pos rfl] at k1 ⊢
    exact ⟨ρ, S1, F, g1, sl.mono w1, k1, p.from w1⟩
  | false =>
    rw [if_neg Bool.false_ne_true] at k1 ⊢
    exact ⟨ρ, S1, F, g1, sl.mono w1, k1, p.from w1⟩
theorem ds_whl (hp : PassesOwn (model X.prog X.w) X.A X.env X.xe) (hc : DT X e0 c e ce) (hb : DSs X e0 c b cb) : DS X e0 c (.While e b [] pos) (.whl ce cb) := by
  refine ps_imp (ps_while hp hc hb) fun D σ H h => ?_
  obtain ⟨ρ, S, F, gd, sl, w, p⟩ := h
  simp only [wpS] at w
  obtain ⟨I, ⟨m, i0⟩, step⟩ := w
  refine ⟨fun m σ' H' => ∃ ρ' S', Gd X.K X.mg e0 H' S' ∧ Mp.W H S H' S' ∧ Slots X.K H' S' ρ' σ' ∧ I m ρ' S', ⟨m, ρ, S, gd, W.refl _ _, sl, i0⟩, ?_⟩
  rintro m σ' H' ⟨ρ', S', g', w', sl', i'⟩
  refine ⟨ρ', S', _, g', sl', wpB_if (P := fun S1 => wpSs c cb { nx := fun ρ' S' => ∃ m', m' < m ∧ I m' ρ' S', ct := fun ρ' S' => ∃ m', m' < m ∧ I m' ρ' S', bk := F.nx, rt := F.rt } ρ' S1) (Q := fun S1 => F.nx ρ' S1) (step m ρ' S' i'), fun t H1 S1 g1 w1 k1 => ?_⟩
  cases t with
  | true =>
    rw [if_pos rfl] at k1 ⊢
    refine ⟨fun σ2 H2 => ∃ m', m' < m ∧ ∃ ρ' S', Gd X.K X.mg e0 H2 S' ∧ Mp.W H S H2 S' ∧ Slots X.K H2 S' ρ' σ2 ∧ I m' ρ' S', fun σ2 H2 q => q, ρ', S1, _, g1, sl'.mono w1, k1, ?_⟩
    have pp := (p.from w').from w1
    exact ⟨fun σ2 H2 ρ2 S2 g2 w2 sl2 ⟨m', hm, i2⟩ => ⟨m', hm, ρ2, S2, g2, (w'.trans w1).trans w2, sl2, i2⟩, pp.rt, fun σ2 H2 ρ2 S2 g2 w2 sl2 k => pp.nx σ2 H2 ρ2 S2 g2 w2 sl2 k,
      fun σ2 H2 ρ2 S2 g2 w2 sl2 ⟨m', hm, i2⟩ => ⟨m', hm, ρ2, S2, g2, (w'.trans w1).trans w2, sl2, i2⟩⟩
  | false =>
    rw [if_neg Bool.false_ne_true] at k1 ⊢
    exact p.nx σ' H1 ρ' S1 g1 (w'.trans w1) (sl'.mono w1) k1
theorem ds_for {cI : CI} (hp : PassesOwn (model X.prog X.w) X.A X.env X.xe) (hc : X.calm = true) (hi : DI X e0 c tg iter cI) (hg : DG X e0 tg g) (hb : DSs X e0 c b cb) (hs : ∀ x, foldedSetIterable iter X.env x = pure x) : DS X e0 c (.For tg iter b [] pos) (.forr g cI cb) := by
  refine ps_imp (ps_for hp hc hi hg hb hs) fun D σ H h => ?_
  obtain ⟨ρ, S, F, gd, sl, w, p⟩ := h
  simp only [wpS] at w
  refine ⟨ρ, S, _, gd, sl, w, fun J H1 S1 xs ok g1 w1 wk k1 => ?_⟩
  obtain ⟨step, hstep⟩ : ∃ step, (fun (x : Mp.D) (k : Ev → Hs → Prop) (ρ2 : Ev) (S2 : Hs) => match asgG S2 g x ρ2 with
      | some ρ3 => wpSs c cb { nx := k, ct := k, bk := F.nx, rt := F.rt } ρ3 S2
      | none => False) = step := ⟨_, rfl⟩
  have k1 : forL ok step xs F.nx ρ S1 := by rw [← hstep]; exact k1
  refine ⟨fun i m σ' H' => ∃ ρ' S', Gd X.K X.mg e0 H' S' ∧ Mp.W H1 S1 H' S' ∧ Slots X.K H' S' ρ' σ' ∧ i ≤ xs.length ∧ m = xs.length - i ∧ forL ok step (xs.drop i) F.nx ρ' S',
    ⟨xs.length, ρ, S1, g1, W.refl _ _, sl.mono w1, Nat.zero_le _, by simp, k1⟩, ?_⟩
  rintro i m σ' H' ⟨ρ', S', g', w', sl', hi, rfl, fl⟩
  by_cases hlt : i < xs.length
  · rw [drop_at hlt] at fl
    obtain ⟨o, fl⟩ := fl
    refine .inr ⟨wk.go i H' S' g' w' o hlt, fun σ2 H2 => ∃ ρ2 S2, Gd X.K X.mg e0 H2 S2 ∧ Mp.W H1 S1 H2 S2 ∧ Slots X.K H2 S2 ρ2 σ2 ∧ forL ok step (xs.drop (i + 1)) F.nx ρ2 S2,
      fun σ2 H2 ⟨ρ2, S2, q1, q2, q3, q4⟩ => ⟨xs.length - (i + 1), by omega, ρ2, S2, q1, q2, q3, hlt, rfl, q4⟩, fun x H2 y => ?_⟩
    obtain ⟨d, hd, g2, w2, r2⟩ := wk.yld i H' S' x H2 g' w' o hlt y
    have ed : xs[i] = d := by
      rw [List.getElem?_eq_getElem hlt] at hd
      exact Option.some.inj hd
    rw [ed, ← hstep] at fl
    split at fl
    · rename_i ρ3 hρ
      have wall := (w1.trans w').trans w2
      refine ⟨ρ', S', d, ρ3, g2, sl'.mono w2, r2, hρ, fun σ3 sl3 _ => ⟨ρ3, S', _, g2, sl3, fl, ?_⟩⟩
      have pp := p.from wall
      exact ⟨fun σ4 H4 ρ4 S4 g4 w4 sl4 k => ⟨ρ4, S4, g4, (w'.trans w2).trans w4, sl4, by rw [hstep] at k; exact k⟩, pp.rt, fun σ4 H4 ρ4 S4 g4 w4 sl4 k => pp.nx σ4 H4 ρ4 S4 g4 w4 sl4 k,
        fun σ4 H4 ρ4 S4 g4 w4 sl4 k => ⟨ρ4, S4, g4, (w'.trans w2).trans w4, sl4, by rw [hstep] at k; exact k⟩⟩
    · exact fl.elim
  · have e : i = xs.length := by omega
    subst e
    rw [List.drop_length] at fl
    obtain ⟨o, fl⟩ := fl
    exact .inl ⟨wk.stop H' S' g' w' o, p.nx σ' H' ρ' S' g' (w1.trans w') sl' fl⟩
end
end Mp

/-! Mp13: stores to items. -/
namespace Mp
open PySem PySem.Spec PyProof.Rows L2
section
variable {X : Cx} {e0 : Hp × Hs} {c : Cw} {pos pos' : Pos} {e o i : Expr} {ce co ci : CE}
theorem sw_sub {t j : Expr} {p : Pos} {l : Nat} {env : Env} : swapsWith e (some (.Subscript t j p)) l env = pure false := by
  cases e <;> rfl
theorem ss_sub {t j : Expr} {p : Pos} {env : Env} : swappedStores [.Subscript t j p] e env = pure none := by
  cases e <;> rfl
def rSetD : V → V → V → Hp → (Hp → Prop) → Prop := fun o i v H Q => ∃ a H4, o = .ref a ∧ DPut H a i v H4 ∧ Q H4
theorem set_dict (hu : X.A.units + 1 < cLine) : PSet X rSetD := by
  intro pins s σ H o i v ov iv u Q I ro ri rv h
  obtain ⟨a, H4, rfl, g, q⟩ := h
  obtain rfl : ov = Value.ref a := ro
  exact d_setItem hu I g ri rv fun s4 I4 => ⟨H4, I4, q⟩
theorem pset_or {t u : TSet} (h : PSet X t) (h' : PSet X u) : PSet X (fun o i v H Q => t o i v H Q ∨ u o i v H Q) := fun pins s σ H o i v ov iv w Q I ro ri rv q => q.elim (fun q => h pins s σ H o i v ov iv w Q I ro ri rv q) fun q => h' pins s σ H o i v ov iv w Q I ro ri rv q
theorem sized_dict {H : Hp} {a : Addr} {o : HO} (h : Sized H) (h1 : ∀ xs, o ≠ .lst xs) (h2 : ∀ xs, o ≠ .tup xs) : Sized (upd H a o) := fun b => by
  by_cases e : b = a
  · subst e
    exact ⟨fun xs z => by rw [upd_same] at z; exact absurd (Option.some.inj z) (h1 xs), fun xs z => by rw [upd_same] at z; exact absurd (Option.some.inj z) (h2 xs)⟩
  · rw [upd_ne e]; exact h b
/-- a dict's item is put -/
theorem dSet_put {H : Hp} {S S' : Hs} {a : Addr} {k d : D} {kv v : V} (g : Gd X.K X.mg e0 H S) (rk : Rep X.K H S k kv) (rv : Rep X.K H S d v) (h : dSet S (.ref a) k d = some S') :
    ∃ H', DPut H a kv v H' ∧ Gd X.K X.mg e0 H' S' ∧ Mp.W H S H' S' := by
  simp only [dSet] at h
  cases hs : S a with
  | none => rw [hs] at h; cases h
  | some o =>
    rw [hs] at h
    have ne : S a ≠ none := by rw [hs]; exact fun z => by cases z
    cases o with
    | dK lk kvs =>
      cases lk with
      | true => cases h
      | false =>
        obtain ⟨key, hk, h⟩ := Option.bind_eq_some_iff.mp h
        split at h
        · rename_i hl
          cases h
          obtain ⟨ks, h1, h2⟩ := g.rel a _ hs
          have hkd : k = kD key := by
            cases k with
            | int i => cases hk; rfl
            | str i => cases hk; rfl
            | _ => cases hk
          subst hkd
          obtain ⟨rfl, ok⟩ := rep_key rk
          have hl2 := h2.length
          refine ⟨_, DPut.k h1 (by omega), ⟨g.toGr.put ne ⟨_, upd_same, (h2.put ok rv).mono (W.put ne)⟩, sized_dict g.siz (fun xs z => by cases z) fun xs z => by cases z⟩, W.put ne⟩
        · cases h
    | dT lk kvs =>
      cases lk with
      | true => cases h
      | false =>
        obtain ⟨key, hk, h⟩ := Option.bind_eq_some_iff.mp h
        split at h
        · rename_i hl
          cases h
          obtain ⟨ks, h1, h2⟩ := g.rel a _ hs
          have hkd : k = tD key := by
            cases k with
            | tup ds =>
              have hk : intsOf ds = some key := hk
              rw [intsOf_some hk]; rfl
            | _ => cases hk
          subst hkd
          obtain ⟨b, rfl, hb⟩ := rep_tD rk
          have hl2 := h2.length
          refine ⟨_, DPut.t h1 hb (by omega), ⟨g.toGr.put ne ⟨_, upd_same, (h2.put rv).mono (W.put ne)⟩, sized_dict g.siz (fun xs z => by cases z) fun xs z => by cases z⟩, W.put ne⟩
        · cases h
    | _ => cases h
theorem ds_asgIx (hu : X.A.units + 65 < cLine) (he : DE X e0 c e ce) (ho : DE X e0 c o co) (hi : DE X e0 c i ci) (hp : plainIx i = true) : DS X e0 c (.Assign [.Subscript o i pos'] e pos) (.asgIx co ci ce) := by
  refine ps_imp (ps_asg he (pg_sub ho hi (pset_or set_list (set_dict (by omega))) (by cases i <;> first | (intro _; rfl; done) | (cases hp; done))) (by show swapsWith e (some (.Subscript o i pos')) pos.line X.env = pure false; exact sw_sub) (by exact ss_sub) rfl) fun D σ H h => ?_
  obtain ⟨ρ, S, F, gd, sl, w, p⟩ := h
  simp only [wpS] at w
  refine ⟨ρ, S, _, gd, sl, w, fun v H1 d S1 g1 w1 r1 k1 => ⟨ρ, S1, _, g1, sl.mono w1, k1, fun ov H2 dx S2 g2 w2 r2 k2 => ⟨ρ, S2, _, g2, (sl.mono w1).mono w2, k2, fun iv H3 dy S3 g3 w3 r3 k3 => ?_⟩⟩⟩
  have wall := (w1.trans w2).trans w3
  have rv := (r1.mono w2).mono w3
  split at k3
  · rename_i a
    have ev := rep_ref r2; subst ev
    split at k3
    · rename_i xs hx
      split at k3
      · rename_i j
        split at k3
        · rename_i n hn
          have ev := rep_int r3; subst ev
          obtain ⟨vs, h1, h2⟩ := g3.rel a _ hx
          have hl : (vs.set n v).length ≤ sizeLine := by
            rw [List.length_set]
            exact (g3.siz a).1 vs h1
          obtain ⟨gp, wp⟩ := gd_lstPut g3 hx (h2.set rv n) hl
          exact .inl ⟨a, vs, j, n, rfl, rfl, h1, by rw [← h2.length]; exact hn, p.nx σ _ ρ _ gp (wall.trans wp) ((sl.mono wall).mono wp) k3⟩
        · exact k3.elim
      · exact k3.elim
    · split at k3
      · rename_i S4 hS
        obtain ⟨H4, q1, q2, q3⟩ := dSet_put g3 r3 rv hS
        exact .inr ⟨a, H4, rfl, q1, p.nx σ _ ρ _ q2 (wall.trans q3) ((sl.mono wall).mono q3) k3⟩
      · exact k3.elim
  · exact k3.elim
end
end Mp

/-! Mp14: the text of a def against the small language: a check, and that it is sound. -/
namespace Mp
open PySem PySem.Spec PyProof.Rows L2

structure Ck where
  sc : Scope
  N : List Str
  own : Option Scope
  cons : List (Str × D)
  fns : List (Str × List Str)
  free : List Str
def Ck.fn (cx : Ck) : Str → Bool := match cx.own with
  | none => fun _ => true
  | some s => fun x => s.names.lookup x == some .cell
def Ck.blk (cx : Ck) (scope : Scope) : Ck := { cx with sc := relS scope cx.sc, own := some scope }
def Ck.vis (cx : Ck) (x : Str) : Bool := decide (cx.sc.names.lookup x = some .local) || decide (cx.sc.names.lookup x = some .cell) || decide (cx.sc.names.lookup x = some .free)
def Ck.loc (cx : Ck) (x : Str) : Bool := decide (cx.sc.names.lookup x = some .local) || decide (cx.sc.names.lookup x = some .cell)
def Ck.gl (cx : Ck) (x : Str) : Bool := decide (cx.sc.names.lookup x = some .globalImplicit)
def Ck.fr (cx : Ck) (x : Str) : Bool := cx.gl x && decide (x ∈ cx.free)
def Ck.asg (cx : Ck) (x : Str) : Bool := cx.fn x || decide (cx.sc.names.lookup x = some .local)
def Ck.slot (cx : Ck) (i : Nat) (x : Str) : Bool := decide (cx.N[i]? = some x)
def blkB (cx : Ck) (scope : Scope) (own : List (Str × Nat)) : Bool :=
  decide (scope.kind = .function) && decide (∀ y ∈ scope.names, scope.names.lookup y.1 = some y.2) && decide (∀ p ∈ own, cx.N[p.2]? = some p.1) &&
  decide (∀ y ∈ scope.names, y.2 = .free → cx.sc.names.lookup y.1 = some .cell ∨ cx.sc.names.lookup y.1 = some .free) &&
  decide (∀ y ∈ scope.names, y.2 = .local ∨ y.2 = .cell → y.1 ∈ own.map (·.1) ∨ y.1 ∉ cx.N)
def conB : D → Const → Bool
  | .non, .none => true
  | .bl b, .bool b' => decide (b = b')
  | .int i, .int j => decide (i = j)
  | .str x, .str y => decide (x = y) && PyData.strOk y
  | _, _ => false
def opB : Operator → Bool
  | .Add => true
  | .Sub => true
  | .Mult => true
  | .Mod => true
  | .FloorDiv => true
  | .Pow => true
  | _ => false
def tysB (cx : Ck) : List Ty → List Expr → Bool
  | [], [] => true
  | t :: ts, .Name x _ :: es => tyOk t && decide (x = tyName t) && cx.fr x && tysB cx ts es
  | _, _ => false
def isCmpE : Expr → Bool
  | .Compare _ _ _ _ => true
  | _ => false
def plainT : Expr → Bool
  | .BoolOp _ _ _ => false
  | .Compare _ _ _ _ => false
  | .UnaryOp _ _ _ => false
  | .IfExp _ _ _ _ => false
  | _ => true
def isBoolE : Expr → Bool
  | .BoolOp _ _ _ => true
  | _ => false
mutual
def chkG (cx : Ck) : CG → Expr → Bool
  | .nm i, e => (match e with
    | .Name x _ => cx.slot i x && cx.loc x && cx.asg x
    | _ => false)
  | .tg gs, e => (match e with
    | .Tuple es _ _ => noStar es && decide (es.length = gs.length) && chkGs cx gs es
    | _ => false)
def chkGs (cx : Ck) : List CG → List Expr → Bool
  | [], es => es.isEmpty
  | g :: gs, es => (match es with
    | e :: es => chkG cx g e && chkGs cx gs es
    | [] => false)
end
def nmIs (s : Str) : Expr → Bool
  | .Name x _ => decide (x = s)
  | _ => false
/-- a method's check, without its parts -/
def methB (m : Mid) (o : Expr) (name : Str) (apos cpos : Pos) (es : List Expr) (n : Nat) : Bool :=
  !isCallE o && (apos.endLine == cpos.line) && noStar es && decide (es.length ≤ 20) && (match m with
  | .append => decide (name = ("append" : Str)) && !es.isEmpty
  | .extend => decide (name = ("extend" : Str)) && !es.isEmpty
  | .pop => decide (name = ("pop" : Str)) && es.isEmpty && decide (n = 0)
  | .popAt => decide (name = ("pop" : Str)) && !es.isEmpty
  | .insert => decide (name = ("insert" : Str)) && !es.isEmpty
  | .remove => decide (name = ("remove" : Str)) && !es.isEmpty
  | .get2 => decide (name = ("get" : Str)) && decide (es.length = 2)
  | _ => false)
mutual
def chkE (cx : Ck) : CE → Expr → Bool
  | .var i, e => (match e with
    | .Name x _ => cx.slot i x && cx.vis x && !(x == ("__debug__" : Str)) && !(x == ("__classdict__" : Str))
    | _ => false)
  | .con d, e => (match e with
    | .Constant k _ _ => conB d k
    | _ => false)
  | .glob x d, e => (match e with
    | .Name y _ => decide (x = y) && cx.gl x && decide (cx.cons.lookup x = some d) && !(x == ("__debug__" : Str))
    | _ => false)
  | .tup es, e => (match e with
    | .Tuple es' _ _ => chkEs cx es es'
    | _ => false)
  | .lst es, e => (match e with
    | .List es' _ => chkEs cx es es'
    | _ => false)
  | .nlst es, e => (match e with
    | .List es' _ => chkEs cx es es'
    | _ => false)
  | .op o a b, e => (match e with
    | .BinOp a' o' b' _ => decide (o = o') && opB o && chkE cx a a' && chkE cx b b'
    | _ => false)
  | .cmp o a b, e => (match e with
    | .Compare a' [o'] [b'] _ => decide (o = o') && notSet b' && chkE cx a a' && chkE cx b b'
    | _ => false)
  | .cmp2 o p a b d, e => (match e with
    | .Compare a' [o', p'] [b', d'] _ => decide (o = o') && decide (p = p') && notSet d' && chkE cx a a' && chkE cx b b' && chkE cx d d'
    | _ => false)
  | .neg a, e => (match e with
    | .UnaryOp .USub a' _ => chkE cx a a'
    | _ => false)
  | .not a, e => (match e with
    | .UnaryOp .Not a' _ => chkE cx a a'
    | _ => false)
  | .and a b, e => (match e with
    | .BoolOp .And (a' :: b' :: r) pos => chkE cx a a' && (if r.isEmpty then chkE cx b b' else chkE cx b (.BoolOp .And (b' :: r) pos))
    | _ => false)
  | .or a b, e => (match e with
    | .BoolOp .Or (a' :: b' :: r) pos => chkE cx a a' && (if r.isEmpty then chkE cx b b' else chkE cx b (.BoolOp .Or (b' :: r) pos))
    | _ => false)
  | .ite t a b, e => (match e with
    | .IfExp t' a' b' _ => chkE cx t t' && chkE cx a a' && chkE cx b b'
    | _ => false)
  | .idx a i, e => (match e with
    | .Subscript a' i' _ => plainIx i' && chkE cx a a' && chkE cx i i'
    | _ => false)
  | .sl a lo hi, e => (match e with
    | .Subscript a' (.Slice lo' hi' none _) _ => chkE cx a a' && chkO cx lo lo' && chkO cx hi hi'
    | _ => false)
  | .call f es, e => (match e with
    | .Call (.Name x _) es' [] _ => decide (x = f) && cx.gl f && !(f == ("__debug__" : Str)) && (cx.fns.lookup f).isSome && noStar es' && chkEs cx es es'
    | _ => false)
  | .callk f es ks gs, e => (match e with
    | .Call (.Name x _) [] kws _ => decide (x = f) && cx.gl f && !(f == ("__debug__" : Str)) && (cx.fns.lookup f).isSome && es.isEmpty && decide (kwNames kws = cx.fns.lookup f) && chkK cx gs kws
    | _ => false)
  | .bi b es, e => (match e with
    | .Call (.Name x _) (e :: es') [] _ => biOk b && decide (x = biName b) && cx.fr x && noStar (e :: es') && chkEs cx es (e :: es')
    | _ => false)
  | .bin es, e => (match e with
    | .Call (.Name x _) (e :: es') [] _ => decide (x = ("list" : Str)) && cx.fr x && noStar (e :: es') && chkEs cx es (e :: es')
    | _ => false)
  | .lrng nw es, e => (match e with
    | .Call (.Name x _) [.Call (.Name y _) [a'] [] _] [] _ => decide (x = ("list" : Str)) && cx.fr x && decide (y = ("range" : Str)) && cx.fr y && notStar a' && chkEs cx es [a']
    | _ => false)
  | .isi a ts, e => (match e with
    | .Call (.Name x _) [a', t'] [] _ => decide (x = ("isinstance" : Str)) && cx.fr x && notStar a' && chkE cx a a' && (match t' with
      | .Name _ _ => decide (ts.length = 1) && tysB cx ts [t']
      | .Tuple es _ _ => decide (ts.length ≤ 100) && tysB cx ts es
      | _ => false)
    | _ => false)
  | .comp _ elt g it ifs own, e => (match e with
    | .ListComp elt' [⟨tg, iter, ifs', asy⟩] scope _ => decide (asy = 0) && chkI cx it tg iter && notSet iter && blkB cx scope own && (gIx g).all (fun i => decide (i ∈ own.map (·.2))) && chkG (cx.blk scope) g tg && chkT (cx.blk scope) ifs ifs' && chkE (cx.blk scope) elt elt'
    | _ => false)
  | .meth m a es, e => (match e with
    | .Call (.Attribute o name apos) es' [] cpos => methB m o name apos cpos es' es.length && chkE cx a o && chkEs cx es es'
    | _ => false)
  | .ndct _, e => (match e with
    | .Dict [] [] _ => true
    | _ => false)
  | .bad, _ => true
  | _, _ => false
def chkSt (cx : Ck) : CE → Expr → Bool
  | .star c', e => (match e with
    | .Starred e' _ => chkE cx c' e'
    | _ => false)
  | _, _ => false
def chkEs (cx : Ck) : List CE → List Expr → Bool
  | [], es => es.isEmpty
  | c :: cs, es => (match es with
    | e :: es' => (if notStar e = true then chkE cx c e else chkSt cx c e) && chkEs cx cs es'
    | [] => false)
def chkK (cx : Ck) : List CE → List Keyword → Bool
  | [], es => es.isEmpty
  | c :: cs, es => (match es with
    | ⟨_, e, _⟩ :: es' => chkE cx c e && chkK cx cs es'
    | [] => false)
def chkO (cx : Ck) : Option CE → Option Expr → Bool
  | none, e => e.isNone
  | some c, e => (match e with
    | some e => chkE cx c e
    | none => false)
def chkT (cx : Ck) : List CE → List Expr → Bool
  | [], es => es.isEmpty
  | c :: cs, es => (match es with
    | [e] => cs.isEmpty && chkE cx c e
    | _ => false)
def chkI (cx : Ck) : CI → Expr → Expr → Bool
  | .seq c, _, e => chkE cx c e
  | .rng cs, _, e => (match e with
    | .Call (.Name x _) es [] _ => decide (x = ("range" : Str)) && cx.fr x && noStar es && (decide (es.length = 1) || decide (es.length = 2)) && chkEs cx cs es
    | _ => false)
  | .enum c, tg, e => (match tg, e with
    | .Tuple _ _ _, .Call (.Name x _) [a] [] _ => decide (x = ("enumerate" : Str)) && cx.fr x && notStar a && chkE cx c a
    | _, _ => false)
  | _, _, _ => false
end
end Mp

/-! Mp15: the check of expressions is sound. -/
namespace Mp
open PySem PySem.Spec PyProof.Rows L2

structure Cok (X : Cx) (e0 : Hp × Hs) (c : Cw) (cx : Ck) : Prop where
  sc : X.env.scope = cx.sc
  N : X.N = cx.N
  nd : cx.N.Nodup
  fn : X.fn = cx.fn
  calm : X.calm = true
  un : X.A.units + 65 < cLine
  cons : ∀ x d, cx.cons.lookup x = some d → ∃ u v, X.mg x = some u ∧ RelV v u ∧ ∀ H S, Rep X.K H S d v
  free : ∀ x, x ∈ cx.free → X.mg x = none
  fns : ∀ x ps, cx.fns.lookup x = some ps → CallF X c.G x ps ∧ CLen c.G x ps.length
  pat : ∀ σ, PassesAt (L2.CX X.prog X.w) X σ (EX X e0 c σ)
theorem Cok.blk {X : Cx} {e0 : Hp × Hs} {c : Cw} {cx : Ck} (k : Cok X e0 c cx) {s : Shared} {H : Hp} {scope : Scope} {C : Addr} {cl : List (Str × Addr)} {fp : List Addr} : Cok (X.blk s H scope (compEnvC scope cl C X.env) fp) e0 c.noE (cx.blk scope) where
  sc := by
    show relabel scope X.env = relS scope cx.sc
    rw [← k.sc]; rfl
  N := k.N
  nd := k.nd
  fn := rfl
  calm := k.calm
  un := k.un
  cons := k.cons
  free := k.free
  fns := fun x ps h => ⟨⟨(k.fns x ps h).1.ex⟩, (k.fns x ps h).2⟩
  pat := fun σ pins H' s' e s'' I h => by
    obtain ⟨a, B, H2, cls, d, _, _, _, _, _, _, _, ρ, S, x, _, _, h1, _⟩ := h
    exact h1.elim
section
variable {X : Cx} {e0 : Hp × Hs} {c : Cw} {cx : Ck} {x : Str}
theorem Cok.visP (k : Cok X e0 c cx) (h : cx.vis x = true) : Vis X.env.scope x := by
  unfold Ck.vis at h
  simp only [Bool.or_eq_true, decide_eq_true_eq] at h
  unfold Vis
  rw [k.sc]
  rcases h with (h | h) | h
  · exact .inl h
  · exact .inr (.inl h)
  · exact .inr (.inr h)
theorem Cok.locP (k : Cok X e0 c cx) (h : cx.loc x = true) : L2.Loc X.env.scope x := by
  unfold Ck.loc at h
  simp only [Bool.or_eq_true, decide_eq_true_eq] at h
  unfold L2.Loc
  rw [k.sc]
  exact h
theorem Cok.glP (k : Cok X e0 c cx) (h : cx.gl x = true) : Gl X x := by
  unfold Ck.gl at h
  show X.env.scope.names.lookup x = _
  rw [k.sc]
  exact of_decide_eq_true h
theorem Cok.frP (k : Cok X e0 c cx) (h : cx.fr x = true) : Gl X x ∧ X.mg x = none := by
  unfold Ck.fr at h
  rw [Bool.and_eq_true] at h
  exact ⟨k.glP h.1, k.free x (of_decide_eq_true h.2)⟩
theorem Cok.asgP (k : Cok X e0 c cx) (h : cx.asg x = true) : X.fn x = true ∨ X.env.scope.names.lookup x = some .local := by
  unfold Ck.asg at h
  rw [Bool.or_eq_true] at h
  rw [k.sc, k.fn]
  exact h.imp id of_decide_eq_true
theorem Cok.slotP (k : Cok X e0 c cx) {i : Nat} (h : cx.slot i x = true) : X.N[i]? = some x := by
  rw [k.N]; exact of_decide_eq_true h
theorem Cok.nodup (k : Cok X e0 c cx) : X.N.Nodup := by rw [k.N]; exact k.nd
theorem Cok.blkP (k : Cok X e0 c cx) {scope : Scope} {own : List (Str × Nat)} (h : blkB cx scope own = true) : BlkOk X.N X.env.scope scope own := by
  unfold blkB at h
  simp only [Bool.and_eq_true] at h
  obtain ⟨⟨⟨⟨h1, h2⟩, h3⟩, h4⟩, h5⟩ := h
  refine ⟨of_decide_eq_true h1, of_decide_eq_true h2, ?_, ?_, ?_⟩
  · rw [k.N]; exact of_decide_eq_true h3
  · rw [k.sc]; exact of_decide_eq_true h4
  · rw [k.N]; exact of_decide_eq_true h5
end
/-- the three readings of an expression -/
structure PJ (X : Cx) (e0 : Hp × Hs) (c : Cw) (e : Expr) (ce : CE) : Prop where
  de : DE X e0 c e ce
  dt : DT X e0 c e ce
  dw : isBoolE e = true → DW X e0 c e ce
section
variable {X : Cx} {e0 : Hp × Hs} {c : Cw} {cx : Ck} {e a b d : Expr} {ce ca cb cd : CE} {pos : Pos}
theorem pj (h : DE X e0 c e ce) (he : ∀ whole, isTrue e X.env whole = (do let v ← whole; standAt e.pos; holding [v] (truthy v))) (hb : isBoolE e = false) : PJ X e0 c e ce :=
  ⟨h, dt_of h he, fun z => by rw [hb] at z; cases z⟩
theorem pj_bad : PJ X e0 c e .bad := by
  have no : ∀ {Q : Prop} {ρ : Ev} {k : DK} {S : Hs}, wpE c .bad ρ k S → Q := fun {Q ρ k S} h => by simp only [wpE] at h
  refine ⟨⟨fun pins s σ H Q I q => ?_⟩, ⟨fun pins s σ H Q I q => ?_⟩, fun _ => ⟨fun wh pins s σ H Q I q => ?_⟩⟩
  · obtain ⟨ρ, S, k, _, _, w, _⟩ := q; exact no w
  · obtain ⟨ρ, S, k, _, _, w, _⟩ := q; exact no w
  · obtain ⟨ρ, S, k, _, _, w, _⟩ := q; exact no w
def tIfT (tt ta tb : TT) : TT := fun σ H Q => tt σ H fun c H1 => if c = true then ta σ H1 Q else tb σ H1 Q
theorem dt_ite (hd : DT X e0 c d cd) (ha : DT X e0 c a ca) (hb : DT X e0 c b cb) : DT X e0 c (.IfExp d a b pos) (.ite cd ca cb) := by
  have base : PT X (.IfExp d a b pos) (tIfT (rdT X.K X.mg e0 (wpB c cd)) (rdT X.K X.mg e0 (wpB c ca)) (rdT X.K X.mg e0 (wpB c cb))) := by
    refine ⟨fun pins s σ H Q I h => ?_⟩
    show wpAny _ _ (do if ← isTrue d X.env (eval d X.env) then isTrue a X.env (eval a X.env) else isTrue b X.env (eval b X.env)) _ _ _
    refine wpAny_bind (thn (hd.run pins s σ H _ I h) fun t s1 ⟨H1, I1, q1⟩ => ?_)
    cases t with
    | true => exact ha.run pins s1 σ H1 Q I1 q1
    | false => exact hb.run pins s1 σ H1 Q I1 q1
  refine rdT_of base fun σ H ρ S k g sl w => ?_
  have w : wpB c (.ite cd ca cb) ρ k S := w
  unfold wpB at w
  simp only [wpE] at w
  refine ⟨ρ, S, _, g, sl, wpB_if (P := fun S1 => wpB c ca ρ k S1) (Q := fun S1 => wpB c cb ρ k S1) w, fun t H1 S1 g1 w1 k1 => ?_⟩
  cases t with
  | true =>
    rw [if_pos rfl] at k1 ⊢
    exact ⟨ρ, S1, k, g1, sl.mono w1, k1, fun b H2 S2 g2 w2 k2 => ⟨S2, g2.toGr, w1.trans w2, k2⟩⟩
  | false =>
    rw [if_neg Bool.false_ne_true] at k1 ⊢
    exact ⟨ρ, S1, k, g1, sl.mono w1, k1, fun b H2 S2 g2 w2 k2 => ⟨S2, g2.toGr, w1.trans w2, k2⟩⟩
theorem con_ok {dd : D} {k : Const} {j : Nat} (h : conB dd k = true) : PJ X e0 c (.Constant k j pos) (.con dd) := by
  refine pj ?_ (fun _ => rfl) rfl
  cases dd <;> cases k <;> first | (cases h; done) | skip
  · exact de_non
  · have := of_decide_eq_true h; subst this; exact de_bl
  · have := of_decide_eq_true h; subst this; exact de_int
  · have h2 := (Bool.and_eq_true _ _).mp h
    have := of_decide_eq_true h2.1; subst this; exact de_str h2.2
theorem tys_ok (k : Cok X e0 c cx) : ∀ {ts : List Ty} {es : List Expr}, tysB cx ts es = true → ts.all tyOk = true ∧ Paired (fun y e => PE X e (tC (.ty (tyStr y))) ∧ notStar e = true) ts es
  | [], [], _ => ⟨rfl, .nil⟩
  | [], _ :: _, h => by simp [tysB] at h
  | t :: ts, [], h => by simp [tysB] at h
  | t :: ts, e :: es, h => by
    cases e with
    | Name x p =>
      simp only [tysB, Bool.and_eq_true] at h
      obtain ⟨⟨⟨h1, h2⟩, h3⟩, h4⟩ := h
      obtain ⟨q1, q2⟩ := tys_ok k h4
      obtain ⟨g, m⟩ := k.frP h3
      exact ⟨by rw [List.all_cons, h1, q1]; rfl, .cons ⟨pe_ty h1 (of_decide_eq_true h2) g m, rfl⟩ q2⟩
    | _ => simp [tysB] at h
theorem opB_ok {o : Operator} (h : opB o = true) : o = .Add ∨ o = .Sub ∨ o = .Mult ∨ o = .Mod ∨ o = .FloorDiv ∨ o = .Pow := by
  cases o <;> first | (cases h; done) | simp
mutual
theorem chkG_ok : ∀ (g : CG) {X : Cx} {c : Cw} {cx : Ck} {e : Expr}, Cok X e0 c cx → chkG cx g e = true → DG X e0 e g ∧ notStar e = true
  | .nm i, X, c, cx, e, k, h => by
    cases e with
    | Name x p =>
      simp only [chkG, Bool.and_eq_true] at h
      exact ⟨dg_nm k.nodup (k.slotP h.1.1) (k.locP h.1.2) (k.asgP h.2), rfl⟩
    | _ => simp [chkG] at h
  | .tg gs, X, c, cx, e, k, h => by
    cases e with
    | Tuple es j p =>
      simp only [chkG, Bool.and_eq_true] at h
      exact ⟨dg_tg k.calm (chkGs_ok gs k h.2) (of_decide_eq_true h.1.2) h.1.1, rfl⟩
    | _ => simp [chkG] at h
theorem chkGs_ok : ∀ (gs : List CG) {X : Cx} {c : Cw} {cx : Ck} {es : List Expr}, Cok X e0 c cx → chkGs cx gs es = true → DGs X e0 es gs
  | [], X, c, cx, es, k, h => by
    cases es with
    | nil => exact dgs_nil
    | cons _ _ => simp [chkGs] at h
  | g :: gs, X, c, cx, es, k, h => by
    cases es with
    | nil => simp [chkGs] at h
    | cons e es =>
      simp only [chkGs, Bool.and_eq_true] at h
      obtain ⟨q1, q2⟩ := chkG_ok g k h.1
      exact dgs_cons q1 (chkGs_ok gs k h.2) q2
end
theorem fold_ok {env : Env} (h : notSet e = true) : ∀ x, foldedSetIterable e env x = pure x := by
  intro x
  cases e <;> first | rfl | (simp [notSet] at h)
/-- rows: their stars -/
theorem meth_ok {m : Mid} {o : Expr} {co : CE} {name : Str} {apos cpos : Pos} {es : List Expr} {ces : List CE} (k : Cok X e0 c cx) (ho : DE X e0 c o co) (ha : DA X e0 c es ces) (hl : ∀ e f, es = [e, f] → ∃ c1 c2, ces = [c1, c2] ∧ DE X e0 c e c1 ∧ DE X e0 c f c2 ∧ c1.isStar = false ∧ c2.isStar = false)
    (h : methB m o name apos cpos es ces.length = true) : DE X e0 c (.Call (.Attribute o name apos) es [] cpos) (.meth m co ces) := by
  unfold methB at h
  simp only [Bool.and_eq_true] at h
  obtain ⟨⟨⟨⟨h1, h2⟩, h3⟩, h4⟩, h5⟩ := h
  have hb : isCallE o = false := by simpa using h1
  have few := of_decide_eq_true h4
  cases m with
  | append =>
    simp only [Bool.and_eq_true] at h5
    have := of_decide_eq_true h5.1; subst this
    cases es with
    | nil => simp at h5
    | cons e es => exact de_append ho ha hb ⟨h2, h3, few⟩
  | extend =>
    simp only [Bool.and_eq_true] at h5
    have := of_decide_eq_true h5.1; subst this
    cases es with
    | nil => simp at h5
    | cons e es => exact de_extend ho ha hb ⟨h2, h3, few⟩
  | pop =>
    simp only [Bool.and_eq_true] at h5
    have := of_decide_eq_true h5.1.1; subst this
    have hc := of_decide_eq_true h5.2
    cases es with
    | nil =>
      cases ces with
      | nil => exact de_pop ho hb h2
      | cons _ _ => cases hc
    | cons e es => simp at h5
  | popAt =>
    simp only [Bool.and_eq_true] at h5
    have := of_decide_eq_true h5.1; subst this
    cases es with
    | nil => simp at h5
    | cons e es => exact de_popAt ho ha hb ⟨h2, h3, few⟩
  | insert =>
    simp only [Bool.and_eq_true] at h5
    have := of_decide_eq_true h5.1; subst this
    cases es with
    | nil => simp at h5
    | cons e es => exact de_insert ho ha hb ⟨h2, h3, few⟩
  | remove =>
    simp only [Bool.and_eq_true] at h5
    have := of_decide_eq_true h5.1; subst this
    cases es with
    | nil => simp at h5
    | cons e es => exact de_remove ho ha hb ⟨h2, h3, few⟩
  | get2 =>
    simp only [Bool.and_eq_true] at h5
    have := of_decide_eq_true h5.1; subst this
    have hc := of_decide_eq_true h5.2
    rcases es with _ | ⟨e, _ | ⟨f, _ | ⟨_, _⟩⟩⟩
    · cases hc
    · cases hc
    · obtain ⟨c1, c2, rfl, q1, q2, q3, q4⟩ := hl e f rfl
      exact de_get2 k.un ho q1 q2 hb ⟨h2, h3, few⟩ q3 q4
    · simp at hc
  | _ => cases h5
/-- a row checked: its reading, and each of two -/
structure RowJ (X : Cx) (e0 : Hp × Hs) (c : Cw) (es : List Expr) (ces : List CE) : Prop where
  da : DA X e0 c es ces
  two : ∀ e f, es = [e, f] → noStar es = true → ∃ c1 c2, ces = [c1, c2] ∧ DE X e0 c e c1 ∧ DE X e0 c f c2 ∧ c1.isStar = false ∧ c2.isStar = false
  one : ∀ e, es = [e] → noStar es = true → ∃ c1, ces = [c1] ∧ DE X e0 c e c1 ∧ c1.isStar = false
  nil : es = [] → ces = []
end
end Mp

/-! Mp16: the check of expressions is sound. -/
namespace Mp
open PySem PySem.Spec PyProof.Rows L2

theorem row_nil {X : Cx} {e0 : Hp × Hs} {c : Cw} : RowJ X e0 c [] [] := ⟨da_nil, fun _ _ h => by (cases h), fun _ h => by (cases h), fun _ => rfl⟩
theorem row_cons {X : Cx} {e0 : Hp × Hs} {c : Cw} {e : Expr} {ce : CE} {es : List Expr} {ces : List CE} (h : DE X e0 c e ce) (hs : ce.isStar = false) (hn : notStar e = true) (r : RowJ X e0 c es ces) : RowJ X e0 c (e :: es) (ce :: ces) where
  da := da_cons h r.da hn hs
  two := fun a b h2 n => by
    cases h2
    unfold noStar at n
    rw [Bool.and_eq_true] at n
    obtain ⟨c1, rfl, q, q2⟩ := r.one b rfl n.2
    exact ⟨ce, c1, rfl, h, q, hs, q2⟩
  one := fun a h1 n => by
    cases h1
    have := r.nil rfl; subst this
    exact ⟨ce, rfl, h, hs⟩
  nil := fun h => by cases h
theorem row_star {X : Cx} {e0 : Hp × Hs} {c : Cw} {e : Expr} {ce : CE} {p : Pos} {es : List Expr} {ces : List CE} (h : DE X e0 c e ce) (r : RowJ X e0 c es ces) : RowJ X e0 c (.Starred e p :: es) (.star ce :: ces) where
  da := da_star h r.da
  two := fun a b h2 n => by
    cases h2
    simp [noStar, notStar] at n
  one := fun a h1 n => by
    cases h1
    simp [noStar, notStar] at n
  nil := fun h => by cases h
theorem empty_eq {α : Type} {l : List α} (h : l.isEmpty = true) : l = [] := by
  cases l with
  | nil => rfl
  | cons _ _ => cases h
theorem not_of {b : Bool} (h : (!b) = true) : b = false := by simpa using h
variable {e0 : Hp × Hs}
mutual
theorem chkE_ok : ∀ (ce : CE) {X : Cx} {c : Cw} {cx : Ck} {e : Expr}, Cok X e0 c cx → chkE cx ce e = true → PJ X e0 c e ce ∧ ce.isStar = false
  | .var i, X, c, cx, e, k, h => by
    cases e with
    | Name x p =>
      simp only [chkE, Bool.and_eq_true] at h
      exact ⟨pj (de_var (k.slotP h.1.1.1) (k.visP h.1.1.2) (not_of h.1.2) (not_of h.2)) (fun _ => rfl) rfl, rfl⟩
    | _ => simp [chkE] at h
  | .con d, X, c, cx, e, k, h => by
    cases e with
    | Constant x j p => exact ⟨con_ok (by simpa only [chkE] using h), rfl⟩
    | _ => simp [chkE] at h
  | .glob x d, X, c, cx, e, k, h => by
    cases e with
    | Name y p =>
      simp only [chkE, Bool.and_eq_true] at h
      obtain ⟨⟨⟨h1, h2⟩, h3⟩, h4⟩ := h
      have := of_decide_eq_true h1; subst this
      obtain ⟨u, v, q1, q2, q3⟩ := k.cons x d (of_decide_eq_true h3)
      exact ⟨pj (de_glob (k.glP h2) q1 q2 q3 (not_of h4)) (fun _ => rfl) rfl, rfl⟩
    | _ => simp [chkE] at h
  | .tup es, X, c, cx, e, k, h => by
    cases e with
    | Tuple es' j p => exact ⟨pj (de_tup (chkEs_ok es k (by simpa only [chkE] using h)).da) (fun _ => rfl) rfl, rfl⟩
    | _ => simp [chkE] at h
  | .lst es, X, c, cx, e, k, h => by
    cases e with
    | List es' p => exact ⟨pj (de_lst (chkEs_ok es k (by simpa only [chkE] using h)).da) (fun _ => rfl) rfl, rfl⟩
    | _ => simp [chkE] at h
  | .nlst es, X, c, cx, e, k, h => by
    cases e with
    | List es' p => exact ⟨pj (de_nlst (chkEs_ok es k (by simpa only [chkE] using h)).da) (fun _ => rfl) rfl, rfl⟩
    | _ => simp [chkE] at h
  | .star e, X, c, cx, e', k, h => by simp [chkE] at h
  | .op o a b, X, c, cx, e, k, h => by
    cases e with
    | BinOp a' o' b' p =>
      simp only [chkE, Bool.and_eq_true] at h
      obtain ⟨⟨⟨h1, h2⟩, h3⟩, h4⟩ := h
      have := of_decide_eq_true h1; subst this
      exact ⟨pj (de_op (opB_ok h2) (chkE_ok a k h3).1.de (chkE_ok b k h4).1.de) (fun _ => rfl) rfl, rfl⟩
    | _ => simp [chkE] at h
  | .cmp o a b, X, c, cx, e, k, h => by
    cases e with
    | Compare a' os bs p =>
      rcases os with _ | ⟨o', _ | ⟨_, _⟩⟩
      · simp [chkE] at h
      · rcases bs with _ | ⟨b', _ | ⟨_, _⟩⟩
        · simp [chkE] at h
        · simp only [chkE, Bool.and_eq_true] at h
          obtain ⟨⟨⟨h1, h2⟩, h3⟩, h4⟩ := h
          have := of_decide_eq_true h1; subst this
          obtain ⟨q1, q2⟩ := de_cmp k.un (chkE_ok a k h3).1.de (chkE_ok b k h4).1.de h2 (o := o) (pos := p)
          exact ⟨⟨q1, q2, fun z => by cases z⟩, rfl⟩
        · simp [chkE] at h
      · simp [chkE] at h
    | _ => simp [chkE] at h
  | .cmp2 o o2 a b d, X, c, cx, e, k, h => by
    cases e with
    | Compare a' os bs p =>
      rcases os with _ | ⟨o', _ | ⟨p', _ | ⟨_, _⟩⟩⟩
      · simp [chkE] at h
      · simp [chkE] at h
      · rcases bs with _ | ⟨b', _ | ⟨d', _ | ⟨_, _⟩⟩⟩
        · simp [chkE] at h
        · simp [chkE] at h
        · simp only [chkE, Bool.and_eq_true] at h
          obtain ⟨⟨⟨⟨⟨h1, h2⟩, h3⟩, h4⟩, h5⟩, h6⟩ := h
          have := of_decide_eq_true h1; subst this
          have := of_decide_eq_true h2; subst this
          obtain ⟨q1, q2⟩ := de_cmp2 k.un (chkE_ok a k h4).1.de (chkE_ok b k h5).1.de (chkE_ok d k h6).1.de h3 (o := o) (o' := o2) (pos := p)
          exact ⟨⟨q1, q2, fun z => by cases z⟩, rfl⟩
        · simp [chkE] at h
      · simp [chkE] at h
    | _ => simp [chkE] at h
  | .neg a, X, c, cx, e, k, h => by
    cases e with
    | UnaryOp o a' p =>
      cases o with
      | USub => exact ⟨pj (de_neg (chkE_ok a k (by simpa only [chkE] using h)).1.de) (fun _ => rfl) rfl, rfl⟩
      | _ => simp [chkE] at h
    | _ => simp [chkE] at h
  | .not a, X, c, cx, e, k, h => by
    cases e with
    | UnaryOp o a' p =>
      cases o with
      | Not =>
        have q := (chkE_ok a k (e := a') (by simpa only [chkE] using h)).1
        exact ⟨⟨de_not q.de, dt_not q.dt, fun z => by cases z⟩, rfl⟩
      | _ => simp [chkE] at h
    | _ => simp [chkE] at h
  | .and a b, X, c, cx, e, k, h => by
    cases e with
    | BoolOp o vs p =>
      cases o with
      | And =>
        rcases vs with _ | ⟨a', _ | ⟨b', r⟩⟩
        · simp [chkE] at h
        · simp [chkE] at h
        · simp only [chkE, Bool.and_eq_true] at h
          have qa := (chkE_ok a k h.1).1
          have hb : DE X e0 c (.BoolOp .And (b' :: r) p) b ∧ DW X e0 c (.BoolOp .And (b' :: r) p) b := by
            cases r with
            | nil =>
              have qb := (chkE_ok b k (e := b') (by simpa using h.2)).1
              exact ⟨de_one qb.de, dw_and1 qb.dt⟩
            | cons r0 r1 =>
              have qb := (chkE_ok b k (e := .BoolOp .And (b' :: r0 :: r1) p) (by simpa using h.2)).1
              exact ⟨qb.de, qb.dw rfl⟩
          have dw := dw_and qa.dt hb.2
          exact ⟨⟨de_and qa.de hb.1, dw.pt, fun _ => dw⟩, rfl⟩
      | Or => simp [chkE] at h
    | _ => simp [chkE] at h
  | .or a b, X, c, cx, e, k, h => by
    cases e with
    | BoolOp o vs p =>
      cases o with
      | Or =>
        rcases vs with _ | ⟨a', _ | ⟨b', r⟩⟩
        · simp [chkE] at h
        · simp [chkE] at h
        · simp only [chkE, Bool.and_eq_true] at h
          have qa := (chkE_ok a k h.1).1
          have hb : DE X e0 c (.BoolOp .Or (b' :: r) p) b ∧ DW X e0 c (.BoolOp .Or (b' :: r) p) b := by
            cases r with
            | nil =>
              have qb := (chkE_ok b k (e := b') (by simpa using h.2)).1
              exact ⟨de_one qb.de, dw_or1 qb.dt⟩
            | cons r0 r1 =>
              have qb := (chkE_ok b k (e := .BoolOp .Or (b' :: r0 :: r1) p) (by simpa using h.2)).1
              exact ⟨qb.de, qb.dw rfl⟩
          have dw := dw_or qa.dt hb.2
          exact ⟨⟨de_or qa.de hb.1, dw.pt, fun _ => dw⟩, rfl⟩
      | And => simp [chkE] at h
    | _ => simp [chkE] at h
  | .ite t a b, X, c, cx, e, k, h => by
    cases e with
    | IfExp t' a' b' p =>
      simp only [chkE, Bool.and_eq_true] at h
      have qt := (chkE_ok t k h.1.1).1
      have qa := (chkE_ok a k h.1.2).1
      have qb := (chkE_ok b k h.2).1
      exact ⟨⟨de_ite qt.dt qa.de qb.de, dt_ite qt.dt qa.dt qb.dt, fun z => by cases z⟩, rfl⟩
    | _ => simp [chkE] at h
  | .idx a i, X, c, cx, e, k, h => by
    cases e with
    | Subscript a' i' p =>
      simp only [chkE, Bool.and_eq_true] at h
      exact ⟨pj (de_idx k.un (chkE_ok a k h.1.2).1.de (chkE_ok i k h.2).1.de h.1.1) (fun _ => rfl) rfl, rfl⟩
    | _ => simp [chkE] at h
  | .sl a lo hi, X, c, cx, e, k, h => by
    cases e with
    | Subscript a' i' p =>
      cases i' with
      | Slice lo' hi' st p2 =>
        cases st with
        | none =>
          simp only [chkE, Bool.and_eq_true] at h
          exact ⟨pj (de_sl (chkE_ok a k h.1.1).1.de (chkO_ok lo k h.1.2) (chkO_ok hi k h.2)) (fun _ => rfl) rfl, rfl⟩
        | some _ => simp [chkE] at h
      | _ => simp [chkE] at h
    | _ => simp [chkE] at h
  | .call f es, X, c, cx, e, k, h => by
    cases e with
    | Call g as ks p =>
      cases g with
      | Name x p1 =>
        cases ks with
        | nil =>
          simp only [chkE, Bool.and_eq_true] at h
          obtain ⟨⟨⟨⟨⟨h1, h2⟩, h3⟩, h4⟩, h5⟩, h6⟩ := h
          have := of_decide_eq_true h1; subst this
          obtain ⟨ps, hps⟩ := Option.isSome_iff_exists.mp h4
          obtain ⟨F, L⟩ := k.fns x ps hps
          have row := chkEs_ok es k h6
          refine ⟨pj ?_ (fun _ => rfl) rfl, rfl⟩
          cases as with
          | nil =>
            have := row.nil rfl; subst this
            exact de_call0 F L (k.glP h2) (not_of h3) k.pat
          | cons a0 as => exact de_call F L (k.glP h2) (not_of h3) k.pat row.da h5
        | cons _ _ => simp [chkE] at h
      | _ => simp [chkE] at h
    | _ => simp [chkE] at h
  | .callk f es ks gs, X, c, cx, e, k, h => by
    cases e with
    | Call g as kws p =>
      cases g with
      | Name x p1 =>
        cases as with
        | nil =>
          simp only [chkE, Bool.and_eq_true] at h
          obtain ⟨⟨⟨⟨⟨⟨h1, h2⟩, h3⟩, h4⟩, h5⟩, h6⟩, h7⟩ := h
          have := of_decide_eq_true h1; subst this
          have := empty_eq h5; subst this
          obtain ⟨ps, hps⟩ := Option.isSome_iff_exists.mp h4
          obtain ⟨F, L⟩ := k.fns x ps hps
          have hk := of_decide_eq_true h6
          rw [hps] at hk
          exact ⟨pj (de_callk F L (k.glP h2) (not_of h3) k.pat (chkK_ok gs k h7) hk) (fun _ => rfl) rfl, rfl⟩
        | cons _ _ => simp [chkE] at h
      | _ => simp [chkE] at h
    | _ => simp [chkE] at h
  | .bi b es, X, c, cx, e, k, h => by
    cases e with
    | Call g as ks p =>
      cases g with
      | Name x p1 =>
        cases ks with
        | nil =>
          cases as with
          | nil => simp [chkE] at h
          | cons a0 as =>
            simp only [chkE, Bool.and_eq_true] at h
            obtain ⟨⟨⟨⟨h1, h2⟩, h3⟩, h4⟩, h5⟩ := h
            obtain ⟨g1, m1⟩ := k.frP h3
            exact ⟨pj (de_bi h1 k.calm (of_decide_eq_true h2) g1 m1 (chkEs_ok es k h5).da h4) (fun _ => rfl) rfl, rfl⟩
        | cons _ _ => simp [chkE] at h
      | _ => simp [chkE] at h
    | _ => simp [chkE] at h
  | .bin es, X, c, cx, e, k, h => by
    cases e with
    | Call g as ks p =>
      cases g with
      | Name x p1 =>
        cases ks with
        | nil =>
          cases as with
          | nil => simp [chkE] at h
          | cons a0 as =>
            simp only [chkE, Bool.and_eq_true] at h
            obtain ⟨⟨⟨h1, h2⟩, h3⟩, h4⟩ := h
            have := of_decide_eq_true h1; subst this
            obtain ⟨g1, m1⟩ := k.frP h2
            exact ⟨pj (de_bin k.calm g1 m1 (chkEs_ok es k h4).da h3) (fun _ => rfl) rfl, rfl⟩
        | cons _ _ => simp [chkE] at h
      | _ => simp [chkE] at h
    | _ => simp [chkE] at h
  | .lrng nw es, X, c, cx, e, k, h => by
    cases e with
    | Call g as ks p =>
      cases g with
      | Name x p1 =>
        cases ks with
        | nil =>
          rcases as with _ | ⟨r, _ | ⟨_, _⟩⟩
          · simp [chkE] at h
          · cases r with
            | Call g2 bs ks2 p2 =>
              cases g2 with
              | Name y p3 =>
                cases ks2 with
                | nil =>
                  rcases bs with _ | ⟨a', _ | ⟨_, _⟩⟩
                  · simp [chkE] at h
                  · simp only [chkE, Bool.and_eq_true] at h
                    obtain ⟨⟨⟨⟨⟨h1, h2⟩, h3⟩, h4⟩, h5⟩, h6⟩ := h
                    have := of_decide_eq_true h1; subst this
                    have := of_decide_eq_true h3; subst this
                    obtain ⟨g1, m1⟩ := k.frP h2
                    obtain ⟨g2, m2⟩ := k.frP h4
                    obtain ⟨c1, rfl, q, q2⟩ := (chkEs_ok es k h6).one a' rfl (by unfold noStar; rw [h5]; rfl)
                    exact ⟨pj (de_lrng1 k.calm g1 m1 g2 m2 q h5 q2) (fun _ => rfl) rfl, rfl⟩
                  · simp [chkE] at h
                | cons _ _ => simp [chkE] at h
              | _ => simp [chkE] at h
            | _ => simp [chkE] at h
          · simp [chkE] at h
        | cons _ _ => simp [chkE] at h
      | _ => simp [chkE] at h
    | _ => simp [chkE] at h
  | .isi a ts, X, c, cx, e, k, h => by
    cases e with
    | Call g as ks p =>
      cases g with
      | Name x p1 =>
        cases ks with
        | nil =>
          rcases as with _ | ⟨a', _ | ⟨t', _ | ⟨_, _⟩⟩⟩
          · simp [chkE] at h
          · simp [chkE] at h
          · cases t' with
            | Name y p2 =>
              simp only [chkE, Bool.and_eq_true] at h
              obtain ⟨⟨⟨⟨h1, h2⟩, h3⟩, h4⟩, h5, h6⟩ := h
              have := of_decide_eq_true h1; subst this
              obtain ⟨g1, m1⟩ := k.frP h2
              have hl := of_decide_eq_true h5
              rcases ts with _ | ⟨t, _ | ⟨_, _⟩⟩
              · cases hl
              · simp only [tysB, Bool.and_eq_true] at h6
                obtain ⟨⟨⟨q1, q2⟩, q3⟩, _⟩ := h6
                obtain ⟨g2, m2⟩ := k.frP q3
                exact ⟨pj (de_isi1 q1 g1 m1 (chkE_ok a k h4).1.de h3 (of_decide_eq_true q2) g2 m2) (fun _ => rfl) rfl, rfl⟩
              · simp at hl
            | Tuple es j p2 =>
              simp only [chkE, Bool.and_eq_true] at h
              obtain ⟨⟨⟨⟨h1, h2⟩, h3⟩, h4⟩, h5, h6⟩ := h
              have := of_decide_eq_true h1; subst this
              obtain ⟨g1, m1⟩ := k.frP h2
              obtain ⟨q1, q2⟩ := tys_ok k h6
              exact ⟨pj (de_isiT q1 (of_decide_eq_true h5) g1 m1 (chkE_ok a k h4).1.de h3 q2) (fun _ => rfl) rfl, rfl⟩
            | _ => simp [chkE] at h
          · simp [chkE] at h
        | cons _ _ => simp [chkE] at h
      | _ => simp [chkE] at h
    | _ => simp [chkE] at h
  | .comp nw elt g it ifs own, X, c, cx, e, k, h => by
    cases e with
    | ListComp elt' gens scope p =>
      rcases gens with _ | ⟨⟨tg, iter, ifs', asy⟩, _ | ⟨_, _⟩⟩
      · simp [chkE] at h
      · simp only [chkE, Bool.and_eq_true] at h
        · obtain ⟨⟨⟨⟨⟨⟨⟨h0, h1⟩, h2⟩, h3⟩, h4⟩, h5⟩, h6⟩, h7⟩ := h
          have := of_decide_eq_true h0; subst this
          have hgi : ∀ i ∈ gIx g, i ∈ own.map (·.2) := fun i hi => of_decide_eq_true (List.all_eq_true.mp h4 i hi)
          refine ⟨pj (de_comp k.calm k.nodup (chkI_ok it k h1) (k.blkP h3) (fun s H C cl fp => (chkG_ok (e0 := e0) g (k.blk (s := s) (H := H) (scope := scope) (C := C) (cl := cl) (fp := fp)) h5).1)
            (fun s H C cl fp => chkT_ok ifs (k.blk (s := s) (H := H) (scope := scope) (C := C) (cl := cl) (fp := fp)) h6) (fun s H C cl fp => (chkE_ok elt (k.blk (s := s) (H := H) (scope := scope) (C := C) (cl := cl) (fp := fp)) h7).1.de) hgi (fold_ok h2)) (fun _ => rfl) rfl, rfl⟩
      · simp [chkE] at h
    | _ => simp [chkE] at h
  | .meth m a es, X, c, cx, e, k, h => by
    cases e with
    | Call g as ks p =>
      cases g with
      | Attribute o name p1 =>
        cases ks with
        | nil =>
          simp only [chkE, Bool.and_eq_true] at h
          have row := chkEs_ok es k h.2
          have ns : noStar as = true := by
            have := h.1.1
            unfold methB at this
            simp only [Bool.and_eq_true] at this
            exact this.1.1.2
          exact ⟨pj (meth_ok k (chkE_ok a k h.1.2).1.de row.da (fun e f z => by
            obtain ⟨c1, c2, q1, q2, q3, q4, q5⟩ := row.two e f z ns
            exact ⟨c1, c2, q1, q2, q3, q4, q5⟩) h.1.1) (fun _ => rfl) rfl, rfl⟩
        | cons _ _ => simp [chkE] at h
      | _ => simp [chkE] at h
    | _ => simp [chkE] at h
  | .fld a f, X, c, cx, e, k, h => by simp [chkE] at h
  | .callm C m a es, X, c, cx, e, k, h => by simp [chkE] at h
  | .mk C es, X, c, cx, e, k, h => by simp [chkE] at h
  | .bad, X, c, cx, e, k, h => ⟨pj_bad, rfl⟩
  | .xfld f, X, c, cx, e, k, h => by simp [chkE] at h
  | .ndct t, X, c, cx, e, k, h => by
    cases e with
    | Dict ks vs p =>
      cases ks with
      | nil =>
        cases vs with
        | nil => exact ⟨pj de_ndct (fun _ => rfl) rfl, rfl⟩
        | cons _ _ => simp [chkE] at h
      | cons _ _ => simp [chkE] at h
    | _ => simp [chkE] at h
  | .ddct a b, X, c, cx, e, k, h => by simp [chkE] at h
  | .compk elt g d ifs own, X, c, cx, e, k, h => by simp [chkE] at h
theorem chkEs_ok : ∀ (ces : List CE) {X : Cx} {c : Cw} {cx : Ck} {es : List Expr}, Cok X e0 c cx → chkEs cx ces es = true → RowJ X e0 c es ces
  | [], X, c, cx, es, k, h => by
    have := empty_eq (show es.isEmpty = true by simpa only [chkEs] using h); subst this
    exact row_nil
  | ce :: ces, X, c, cx, es, k, h => by
    cases es with
    | nil => simp [chkEs] at h
    | cons e es =>
      simp only [chkEs, Bool.and_eq_true] at h
      obtain ⟨h1, h2⟩ := h
      by_cases hn : notStar e = true
      · rw [if_pos hn] at h1
        obtain ⟨q1, q2⟩ := chkE_ok ce k h1
        exact row_cons q1.de q2 hn (chkEs_ok ces k h2)
      · rw [if_neg hn] at h1
        obtain ⟨c', e', p, rfl, rfl, q⟩ := chkSt_ok ce k h1
        exact row_star q (chkEs_ok ces k h2)
theorem chkSt_ok : ∀ (ce : CE) {X : Cx} {c : Cw} {cx : Ck} {e : Expr}, Cok X e0 c cx → chkSt cx ce e = true → ∃ c' e' p, ce = .star c' ∧ e = .Starred e' p ∧ DE X e0 c e' c'
  | .star c', X, c, cx, e, k, h => by
    cases e with
    | Starred e' p => exact ⟨c', e', p, rfl, rfl, (chkE_ok c' k (by simpa only [chkSt] using h)).1.de⟩
    | _ => simp [chkSt] at h
  | .var _, X, c, cx, e, k, h => by simp [chkSt] at h
  | .con _, X, c, cx, e, k, h => by simp [chkSt] at h
  | .glob _ _, X, c, cx, e, k, h => by simp [chkSt] at h
  | .tup _, X, c, cx, e, k, h => by simp [chkSt] at h
  | .lst _, X, c, cx, e, k, h => by simp [chkSt] at h
  | .nlst _, X, c, cx, e, k, h => by simp [chkSt] at h
  | .op _ _ _, X, c, cx, e, k, h => by simp [chkSt] at h
  | .cmp _ _ _, X, c, cx, e, k, h => by simp [chkSt] at h
  | .cmp2 _ _ _ _ _, X, c, cx, e, k, h => by simp [chkSt] at h
  | .neg _, X, c, cx, e, k, h => by simp [chkSt] at h
  | .not _, X, c, cx, e, k, h => by simp [chkSt] at h
  | .and _ _, X, c, cx, e, k, h => by simp [chkSt] at h
  | .or _ _, X, c, cx, e, k, h => by simp [chkSt] at h
  | .ite _ _ _, X, c, cx, e, k, h => by simp [chkSt] at h
  | .idx _ _, X, c, cx, e, k, h => by simp [chkSt] at h
  | .sl _ _ _, X, c, cx, e, k, h => by simp [chkSt] at h
  | .call _ _, X, c, cx, e, k, h => by simp [chkSt] at h
  | .callk _ _ _ _, X, c, cx, e, k, h => by simp [chkSt] at h
  | .bi _ _, X, c, cx, e, k, h => by simp [chkSt] at h
  | .bin _, X, c, cx, e, k, h => by simp [chkSt] at h
  | .lrng _ _, X, c, cx, e, k, h => by simp [chkSt] at h
  | .isi _ _, X, c, cx, e, k, h => by simp [chkSt] at h
  | .comp _ _ _ _ _ _, X, c, cx, e, k, h => by simp [chkSt] at h
  | .meth _ _ _, X, c, cx, e, k, h => by simp [chkSt] at h
  | .fld _ _, X, c, cx, e, k, h => by simp [chkSt] at h
  | .callm _ _ _ _, X, c, cx, e, k, h => by simp [chkSt] at h
  | .mk _ _, X, c, cx, e, k, h => by simp [chkSt] at h
  | .bad, X, c, cx, e, k, h => by simp [chkSt] at h
  | .xfld _, X, c, cx, e, k, h => by simp [chkSt] at h
  | .ndct _, X, c, cx, e, k, h => by simp [chkSt] at h
  | .ddct _ _, X, c, cx, e, k, h => by simp [chkSt] at h
  | .compk _ _ _ _ _, X, c, cx, e, k, h => by simp [chkSt] at h
theorem chkK_ok : ∀ (ces : List CE) {X : Cx} {c : Cw} {cx : Ck} {es : List Keyword}, Cok X e0 c cx → chkK cx ces es = true → PK X es (rdA X.K X.mg e0 (wpEs c ces))
  | [], X, c, cx, es, k, h => by
    have := empty_eq (show es.isEmpty = true by simpa only [chkK] using h); subst this
    exact dk_nil
  | ce :: ces, X, c, cx, es, k, h => by
    cases es with
    | nil => simp [chkK] at h
    | cons e es =>
      obtain ⟨nm, e, p⟩ := e
      simp only [chkK, Bool.and_eq_true] at h
      obtain ⟨q1, q2⟩ := chkE_ok ce k h.1
      exact dk_cons q1.de (chkK_ok ces k h.2) q2
theorem chkO_ok : ∀ (ce : Option CE) {X : Cx} {c : Cw} {cx : Ck} {e : Option Expr}, Cok X e0 c cx → chkO cx ce e = true → DO X e0 c e ce
  | none, X, c, cx, e, k, h => by
    cases e with
    | none => exact do_none
    | some _ => simp [chkO] at h
  | some ce, X, c, cx, e, k, h => by
    cases e with
    | none => simp [chkO] at h
    | some e => exact do_some (chkE_ok ce k (by simpa only [chkO] using h)).1.de
theorem chkT_ok : ∀ (ces : List CE) {X : Cx} {c : Cw} {cx : Ck} {es : List Expr}, Cok X e0 c cx → chkT cx ces es = true → PTs X es (rdT X.K X.mg e0 (wpT c ces))
  | [], X, c, cx, es, k, h => by
    have := empty_eq (show es.isEmpty = true by simpa only [chkT] using h); subst this
    exact dts_nil
  | ce :: ces, X, c, cx, es, k, h => by
    rcases es with _ | ⟨e, _ | ⟨_, _⟩⟩
    · simp [chkT] at h
    · simp only [chkT, Bool.and_eq_true] at h
      have := empty_eq h.1; subst this
      exact dts_one (chkE_ok ce k h.2).1.dt
    · simp [chkT] at h
theorem chkI_ok : ∀ (ci : CI) {X : Cx} {c : Cw} {cx : Ck} {tg e : Expr}, Cok X e0 c cx → chkI cx ci tg e = true → DI X e0 c tg e ci
  | .seq ce, X, c, cx, tg, e, k, h => di_seq (chkE_ok ce k (by simpa only [chkI] using h)).1.de
  | .rng ces, X, c, cx, tg, e, k, h => by
    cases e with
    | Call g as ks p =>
      cases g with
      | Name x p1 =>
        cases ks with
        | nil =>
          simp only [chkI, Bool.and_eq_true, Bool.or_eq_true] at h
          obtain ⟨⟨⟨⟨h1, h2⟩, h3⟩, h4⟩, h5⟩ := h
          have := of_decide_eq_true h1; subst this
          obtain ⟨g1, m1⟩ := k.frP h2
          have row := chkEs_ok ces k h5
          rcases as with _ | ⟨a, _ | ⟨b, _ | ⟨_, _⟩⟩⟩
          · simp at h4
          · obtain ⟨c1, rfl, q, q2⟩ := row.one a rfl h3
            unfold noStar at h3
            rw [Bool.and_eq_true] at h3
            exact di_rng1 g1 m1 q h3.1 q2
          · obtain ⟨c1, c2, rfl, q1, q2, q3, q4⟩ := row.two a b rfl h3
            simp only [noStar, Bool.and_eq_true] at h3
            exact di_rng2 g1 m1 q1 q2 h3.1 h3.2.1 q3 q4
          · simp at h4
        | cons _ _ => simp [chkI] at h
      | _ => simp [chkI] at h
    | _ => simp [chkI] at h
  | .enum ce, X, c, cx, tg, e, k, h => by
    cases tg with
    | Tuple elts j tp =>
      cases e with
      | Call g as ks p =>
        cases g with
        | Name x p1 =>
          cases ks with
          | nil =>
            rcases as with _ | ⟨a, _ | ⟨_, _⟩⟩
            · simp [chkI] at h
            · simp only [chkI, Bool.and_eq_true] at h
              obtain ⟨⟨⟨h1, h2⟩, h3⟩, h4⟩ := h
              have := of_decide_eq_true h1; subst this
              obtain ⟨g1, m1⟩ := k.frP h2
              exact di_enum g1 m1 (chkE_ok ce k h4).1.de h3
            · simp [chkI] at h
          | cons _ _ => simp [chkI] at h
        | _ => simp [chkI] at h
      | _ => simp [chkI] at h
    | _ => simp [chkI] at h
  | .zip a b, X, c, cx, tg, e, k, h => by simp [chkI] at h
end
end Mp

/-! Mp17: the check of statements, and that it is sound. -/
namespace Mp
open PySem PySem.Spec PyProof.Rows L2

def notTup : Expr → Bool
  | .Tuple _ _ _ => false
  | _ => true
/-- where name = [..] stores within the block -/
def swapB (cx : Ck) (x : Str) (p : Pos) (scope : Scope) (pos : Pos) : Bool :=
  decide (cx.sc.names.lookup x = some .local) && (p.line == pos.line) && !(scope.names.any fun (n, k) => n == x && (k == .local || k == .cell))
def parB (cx : Ck) (n m : Nat) (x y : Str) (px py : Pos) (a b : Expr) : Bool :=
  cx.slot n x && cx.slot m y && decide (cx.sc.names.lookup x = some .local) && decide (cx.sc.names.lookup y = some .local) && decide (n ≠ m) && decide (x ≠ y) && decide (px.line = py.line) && notStar a && notStar b &&
  !([a, b].all (foldedForSure 8)) && !([a, b].all (constantsAlone 8))
def asgB (cx : Ck) (g : CG) (ce : CE) (tg e : Expr) : Bool := match g with
  | .nm n => (match tg with
    | .Name x p => cx.slot n x && cx.loc x && cx.asg x && chkE cx ce e && (match e with
      | .ListComp _ _ scope pos => true
      | e => noComp e)
    | _ => false)
  | .tg gs => notTup e && noComp e && chkG cx (.tg gs) tg && chkE cx ce e
def asgParB (cx : Ck) (g : CG) (ce : CE) (tg e : Expr) : Bool := match g, ce, tg, e with
  | .tg [.nm n, .nm m], .tup [ca, cb], .Tuple [.Name x px, .Name y py] _ _, .Tuple [a, b] _ _ => parB cx n m x y px py a b && chkEs cx [ca, cb] [a, b]
  | _, _, _, _ => false
def isFrz : CS → Bool
  | .frz _ => true
  | _ => false
def isBad : CS → Bool
  | .bad => true
  | _ => false
mutual
def chkS (cx : Ck) : CS → Stmt → Bool
  | .asg g ce, st => (match st with
    | .Assign [tg] e _ => asgB cx g ce tg e || asgParB cx g ce tg e
    | _ => false)
  | .asgIx o i ce, st => (match st with
    | .Assign [.Subscript o' i' _] e _ => plainIx i' && chkE cx o o' && chkE cx i i' && chkE cx ce e
    | _ => false)
  | .expr ce, st => (match st with
    | .Expr e _ => noComp e && chkE cx ce e
    | _ => false)
  | .ret ce, st => (match st with
    | .Return (some e) _ => chkE cx ce e
    | _ => false)
  | .retN, st => (match st with
    | .Return none _ => true
    | _ => false)
  | .ifs c a b, st => (match st with
    | .If c' a' b' _ => chkE cx c c' && chkSs cx a a' && chkSs cx b b'
    | _ => false)
  | .whl c b, st => (match st with
    | .While c' b' [] _ => chkE cx c c' && chkSs cx b b'
    | _ => false)
  | .forr g it b, st => (match st with
    | .For tg iter b' [] _ => chkG cx g tg && chkI cx it tg iter && notSet iter && chkSs cx b b'
    | _ => false)
  | .brk, st => (match st with
    | .Break _ => true
    | _ => false)
  | .cont, st => (match st with
    | .Continue _ => true
    | _ => false)
  | .pass, st => (match st with
    | .Pass _ => true
    | .Expr (.Constant (.str _) _ _) _ => true
    | _ => false)
  | .bad, _ => true
  | _, _ => false
def chkSs (cx : Ck) : List CS → List Stmt → Bool
  | [], sts => sts.isEmpty
  | c :: cs, sts => (if isFrz c = true then chkSs cx cs sts else if isBad c = true ∧ cs.isEmpty = true then true else (match sts with
    | st :: sts' => chkS cx c st && chkSs cx cs sts'
    | [] => false))
end
section
variable {X : Cx} {e0 : Hp × Hs} {c : Cw} {cx : Ck} {x y : Str}
theorem sw_name {elt : Expr} {gs : List Comprehension} {scope : Scope} {pos py : Pos} {l : Nat} {env : Env} :
    swapsWith (.ListComp elt gs scope pos) (some (.Name y py)) l env = pure (env.blockKind == .function && env.kindOf y == some .local && py.line == pos.line && !(scope.names.any fun (n, k) => n == y && (k == .local || k == .cell))) := rfl
theorem ds_set2 {e : Expr} {ce : CE} {pos' pos : Pos} {n : Nat} (hN : X.N.Nodup) (hi : X.N[n]? = some x) (hx : L2.Loc X.env.scope x) (hf : X.fn x = true ∨ X.env.scope.names.lookup x = some .local) (he : DE X e0 c e ce) (hs : swapsWith e (some (.Name x pos')) pos.line X.env = pure false) : DS X e0 c (.Assign [.Name x pos'] e pos) (.asg (.nm n) ce) :=
  ps_imp (ps_set hN hi hx he hs hf) fun D σ H h => name_imp (fun _ q => q) h
theorem par_sw {a b : Expr} {px py pt pt2 : Pos} {kt k2 : Nat} {env : Env} (hk : env.scope.kind = .function) (hx : env.kindOf x = some .local) (hy : env.kindOf y = some .local) (hl : px.line = py.line) (hxy : x ≠ y) (sa : notStar a = true) (sb : notStar b = true)
    (hf : ([a, b].all (foldedForSure 8)) = false) (hc : ([a, b].all (constantsAlone 8)) = false) : swappedStores [.Tuple [.Name x px, .Name y py] kt pt] (.Tuple [a, b] k2 pt2) env = pure (some [x, y]) := by
  have hb : env.blockKind = .function := by unfold Env.blockKind; rw [hk]; rfl
  unfold swappedStores
  have hx' : (env.kindOf x == some NameKind.local) = true := by rw [hx]; rfl
  have hy' : (env.kindOf y == some NameKind.local) = true := by rw [hy]; rfl
  simp [hb, hx', hy', hl, hf, hc]
  refine (if_neg ?_).trans ?_
  · rintro (h | h)
    · cases a <;> first | (cases h; done) | (cases sa; done)
    · cases b <;> first | (cases h; done) | (cases sb; done)
  have ep : (Expr.Name x px).pos = px := rfl
  have e2 : ([x, y] : List Str).eraseDups.length = 2 := by
    have : (y == x) = false := by
      have : y ≠ x := fun z => hxy z.symm
      simpa using this
    simp [List.eraseDups_cons, this]
  simp [ep, hx, hy, hl, e2]
theorem ds_asgBad {g : CG} {st : Stmt} : DS X e0 c st (.asg g .bad) := by
  refine ps_imp ps_never fun D σ H hh => ?_
  obtain ⟨ρ, S, F, g, sl, w, p⟩ := hh
  rw [wpS, wpE] at w
  exact w.elim
theorem asgB_ok {g : CG} {ce : CE} {tg e : Expr} {pos : Pos} (k : Cok X e0 c cx) (hk : X.env.scope.kind = .function) (h : asgB cx g ce tg e = true) : DS X e0 c (.Assign [tg] e pos) (.asg g ce) := by
  cases g with
  | nm n =>
    cases tg with
    | Name x p =>
      simp only [asgB, Bool.and_eq_true] at h
      obtain ⟨⟨⟨⟨h1, h2⟩, h3⟩, h4⟩, h5⟩ := h
      have main : ∀ hs : swapsWith e (some (.Name x p)) pos.line X.env = pure false, DS X e0 c (.Assign [.Name x p] e pos) (.asg (.nm n) ce) := fun hs => ds_set2 k.nodup (k.slotP h1) (k.locP h2) (k.asgP h3) (chkE_ok ce k h4).1.de hs
      cases e with
      | ListComp elt gens scope p2 =>
        cases hz : swapB cx x p scope p2 with
        | false =>
          refine main ?_
          rw [sw_name]
          unfold swapB at hz
          have e1 : (X.env.kindOf x == some NameKind.local) = decide (cx.sc.names.lookup x = some .local) := by
            show (X.env.scope.names.lookup x == some NameKind.local) = _
            rw [k.sc]
            by_cases q : cx.sc.names.lookup x = some .local
            · rw [decide_eq_true q, q]; rfl
            · rw [decide_eq_false q]; simpa using q
          rw [e1, Bool.and_assoc, Bool.and_assoc, ← Bool.and_assoc (decide _) _ _, hz, Bool.and_false]
        | true =>
          unfold swapB at hz
          simp only [Bool.and_eq_true] at hz
          obtain ⟨⟨z1, z2⟩, z3⟩ := hz
          have hl : X.env.scope.names.lookup x = some .local := by rw [k.sc]; exact of_decide_eq_true z1
          cases ce with
          | comp nw elt' g it ifs own =>
            rcases gens with _ | ⟨⟨tg, iter, ifs', asy⟩, _ | ⟨_, _⟩⟩
            · simp [chkE] at h4
            · simp only [chkE, Bool.and_eq_true] at h4
              obtain ⟨⟨⟨⟨⟨⟨⟨q0, q1⟩, q2⟩, q3⟩, q4⟩, q5⟩, q6⟩, q7⟩ := h4
              have := of_decide_eq_true q0; subst this
              have hgi : ∀ i ∈ gIx g, i ∈ own.map (·.2) := fun i hi => of_decide_eq_true (List.all_eq_true.mp q4 i hi)
              exact ds_setC k.calm k.nodup (k.slotP h1) hl (sw_true hk hl z2 (by simpa using z3)) (chkI_ok it k q1) (k.blkP q3) (fun s H C cl fp => (chkG_ok (e0 := e0) g (k.blk (s := s) (H := H) (scope := scope) (C := C) (cl := cl) (fp := fp)) q5).1)
                (fun s H C cl fp => chkT_ok ifs (k.blk (s := s) (H := H) (scope := scope) (C := C) (cl := cl) (fp := fp)) q6) (fun s H C cl fp => (chkE_ok elt' (k.blk (s := s) (H := H) (scope := scope) (C := C) (cl := cl) (fp := fp)) q7).1.de) hgi (fold_ok q2)
            · simp [chkE] at h4
          | bad => exact ds_asgBad
          | _ => simp [chkE] at h4
      | SetComp _ _ _ _ => cases h5
      | DictComp _ _ _ _ _ => cases h5
      | _ => exact main (swf rfl)
    | _ => simp [asgB] at h
  | tg gs =>
    simp only [asgB, Bool.and_eq_true] at h
    obtain ⟨⟨⟨h1, h2⟩, h3⟩, h4⟩ := h
    obtain ⟨q1, q2⟩ := chkG_ok (e0 := e0) (.tg gs) k h3
    refine ds_asg (chkE_ok ce k h4).1.de q1 h2 ?_ q2
    cases tg <;> cases e <;> first | rfl | (cases h1; done)
theorem asgParB_ok {g : CG} {ce : CE} {tg e : Expr} {pos : Pos} (k : Cok X e0 c cx) (hk : X.env.scope.kind = .function) (h : asgParB cx g ce tg e = true) : DS X e0 c (.Assign [tg] e pos) (.asg g ce) := by
  unfold asgParB at h
  split at h
  · rename_i n m ca cb x px y py kt pt a b k2 pt2
    rw [Bool.and_eq_true] at h
    obtain ⟨h, hr⟩ := h
    unfold parB at h
    simp only [Bool.and_eq_true] at h
    obtain ⟨⟨⟨⟨⟨⟨⟨⟨⟨⟨h1, h2⟩, h3⟩, h4⟩, h5⟩, h6⟩, h7⟩, h8⟩, h9⟩, h10⟩, h11⟩ := h
    have hx : X.env.scope.names.lookup x = some .local := by rw [k.sc]; exact of_decide_eq_true h3
    have hy : X.env.scope.names.lookup y = some .local := by rw [k.sc]; exact of_decide_eq_true h4
    exact ds_par k.calm k.nodup (k.slotP h1) (k.slotP h2) (of_decide_eq_true h5) hx hy (chkEs_ok [ca, cb] k hr).da (par_sw hk hx hy (of_decide_eq_true h7) (of_decide_eq_true h6) h8 h9 (not_of h10) (not_of h11))
  · cases h
/-- the ground of a def's statements -/
structure SCok (X : Cx) (e0 : Hp × Hs) (c : Cw) (cx : Ck) : Prop extends Cok X e0 c cx where
  kind : X.env.scope.kind = .function
  pas : PassesOwn (model X.prog X.w) X.A X.env X.xe
mutual
theorem chkS_ok : ∀ (cs : CS) {X : Cx} {c : Cw} {cx : Ck} {st : Stmt}, SCok X e0 c cx → chkS cx cs st = true → DS X e0 c st cs
  | .asg g ce, X, c, cx, st, k, h => by
    cases st with
    | Assign tgs e p =>
      rcases tgs with _ | ⟨tg, _ | ⟨_, _⟩⟩
      · simp [chkS] at h
      · simp only [chkS, Bool.or_eq_true] at h
        rcases h with h | h
        · exact asgB_ok k.toCok k.kind h
        · exact asgParB_ok k.toCok k.kind h
      · simp [chkS] at h
    | _ => simp [chkS] at h
  | .asgIx o i ce, X, c, cx, st, k, h => by
    cases st with
    | Assign tgs e p =>
      rcases tgs with _ | ⟨tg, _ | ⟨_, _⟩⟩
      · simp [chkS] at h
      · cases tg with
        | Subscript o' i' p2 =>
          simp only [chkS, Bool.and_eq_true] at h
          exact ds_asgIx k.un (chkE_ok ce k.toCok h.2).1.de (chkE_ok o k.toCok h.1.1.2).1.de (chkE_ok i k.toCok h.1.2).1.de h.1.1.1
        | _ => simp [chkS] at h
      · simp [chkS] at h
    | _ => simp [chkS] at h
  | .asgFld o f e, X, c, cx, st, k, h => by simp [chkS] at h
  | .aug i o e, X, c, cx, st, k, h => by simp [chkS] at h
  | .expr ce, X, c, cx, st, k, h => by
    cases st with
    | Expr e p =>
      simp only [chkS, Bool.and_eq_true] at h
      exact ds_expr (chkE_ok ce k.toCok h.2).1.de h.1
    | _ => simp [chkS] at h
  | .ret ce, X, c, cx, st, k, h => by
    cases st with
    | Return e p =>
      cases e with
      | none => simp [chkS] at h
      | some e => exact ds_ret (chkE_ok ce k.toCok (by simpa only [chkS] using h)).1.de
    | _ => simp [chkS] at h
  | .retN, X, c, cx, st, k, h => by
    cases st with
    | Return e p =>
      cases e with
      | none => exact ds_retN
      | some e => simp [chkS] at h
    | _ => simp [chkS] at h
  | .ifs ce a b, X, c, cx, st, k, h => by
    cases st with
    | If c' a' b' p =>
      simp only [chkS, Bool.and_eq_true] at h
      exact ds_if (chkE_ok ce k.toCok h.1.1).1.dt (chkSs_ok a k h.1.2) (chkSs_ok b k h.2)
    | _ => simp [chkS] at h
  | .whl ce b, X, c, cx, st, k, h => by
    cases st with
    | While c' b' el p =>
      cases el with
      | nil =>
        simp only [chkS, Bool.and_eq_true] at h
        exact ds_whl k.pas (chkE_ok ce k.toCok h.1).1.dt (chkSs_ok b k h.2)
      | cons _ _ => simp [chkS] at h
    | _ => simp [chkS] at h
  | .forr g it b, X, c, cx, st, k, h => by
    cases st with
    | For tg iter b' el p =>
      cases el with
      | nil =>
        simp only [chkS, Bool.and_eq_true] at h
        exact ds_for k.pas k.calm (chkI_ok it k.toCok h.1.1.2) (chkG_ok (e0 := e0) g k.toCok h.1.1.1).1 (chkSs_ok b k h.2) (fold_ok h.1.2)
      | cons _ _ => simp [chkS] at h
    | _ => simp [chkS] at h
  | .fork _ _ _, X, c, cx, st, k, h => by simp [chkS] at h
  | .bad, X, c, cx, st, k, h => ds_bad
  | .brk, X, c, cx, st, k, h => by
    cases st with
    | Break p => exact ds_brk
    | _ => simp [chkS] at h
  | .cont, X, c, cx, st, k, h => by
    cases st with
    | Continue p => exact ds_cont
    | _ => simp [chkS] at h
  | .pass, X, c, cx, st, k, h => by
    cases st with
    | Pass p => exact ds_pass
    | Expr e p =>
      cases e with
      | Constant x j q =>
        cases x with
        | str s => exact ds_doc
        | _ => simp [chkS] at h
      | _ => simp [chkS] at h
    | _ => simp [chkS] at h
  | .raise _ _, X, c, cx, st, k, h => by simp [chkS] at h
  | .tri _ _, X, c, cx, st, k, h => by simp [chkS] at h
  | .del _ _, X, c, cx, st, k, h => by simp [chkS] at h
  | .frz _, X, c, cx, st, k, h => by simp [chkS] at h
theorem chkSs_ok : ∀ (css : List CS) {X : Cx} {c : Cw} {cx : Ck} {sts : List Stmt}, SCok X e0 c cx → chkSs cx css sts = true → DSs X e0 c sts css
  | [], X, c, cx, sts, k, h => by
    have := empty_eq (show sts.isEmpty = true by simpa only [chkSs] using h); subst this
    exact dss_nil
  | cs :: css, X, c, cx, sts, k, h => by
    simp only [chkSs] at h
    by_cases hf : isFrz cs = true
    · rw [if_pos hf] at h
      have q := chkSs_ok css k h
      cases cs with
      | frz i => exact dss_frz q
      | _ => cases hf
    · rw [if_neg hf] at h
      by_cases hb : isBad cs = true ∧ css.isEmpty = true
      · have := empty_eq hb.2; subst this
        cases cs with
        | bad => exact dss_bad
        | _ => cases hb.1
      · rw [if_neg hb] at h
        cases sts with
        | nil => cases h
        | cons st sts =>
          rw [Bool.and_eq_true] at h
          exact dss_cons (chkS_ok cs k h.1) (chkSs_ok css k h.2)
end
end
end Mp

/-! Mp18: the program's defs keep their promises. -/
namespace Mp
open PySem PySem.Spec PyProof.Rows L2

abbrev Row := He.DefD × Fn
def rowsFn (l : List Row) (x : Str) : Option Fn := (l.find? fun p => decide (p.1.name = x)).map (·.2)
def rowsPs (l : List Row) : List (Str × List Str) := l.map fun p => (p.1.name, p.2.ps)
def conFa (q : Str × D) : He.Fa := match q.2 with
  | .int i => .int q.1 i
  | .str z => .str q.1 z
  | _ => .glo q.1
def conOk (q : Str × D) : Bool := match q.2 with
  | .int _ => true
  | .str z => PyData.strOk z
  | _ => false
def faOf (l : List Row) (cons : List (Str × D)) (free : List Str) : List He.Fa := (l.map fun p => .glo p.1.name) ++ cons.map conFa ++ free.map .free
/-- how a def's parameters are bound -/
structure BindOk (d : He.DefD) (ps : List Str) : Prop where
  pos : ∀ (kV doc pm : Value) (an : Option Addr) (cdv ct : Value) (us : List Value), us.length = ps.length → bindArgs (PySem.W.fnOf d.name d.qual d.params d.body d.scope .none kV doc pm an cdv ct) ⟨us, []⟩ = pure (ps.zip us)
  kw : ∀ (kV doc pm : Value) (an : Option Addr) (cdv ct : Value) (us : List Value), us.length = ps.length → bindArgs (PySem.W.fnOf d.name d.qual d.params d.body d.scope .none kV doc pm an cdv ct) ⟨[], ps.zip us⟩ = pure (ps.zip us)
def scopeB (sc : Scope) (N ps : List Str) : Bool :=
  decide (sc.kind = .function) && decide (sc.isCoroutine = false) && decide (sc.isGenerator = false) && decide N.Nodup && decide (N.take ps.length = ps) && decide (∀ x ∈ ps, sc.names.lookup x = some .local ∨ sc.names.lookup x = some .cell) && decide (∀ y ∈ sc.names, y.2 ≠ .free)
theorem scopeB_ok {sc : Scope} {N ps : List Str} (h : scopeB sc N ps = true) : FnScope N ps sc := by
  unfold scopeB at h
  simp only [Bool.and_eq_true] at h
  obtain ⟨⟨⟨⟨⟨⟨h1, h2⟩, h3⟩, h4⟩, h5⟩, h6⟩, h7⟩ := h
  exact ⟨of_decide_eq_true h1, of_decide_eq_true h2, of_decide_eq_true h3, of_decide_eq_true h4, of_decide_eq_true h5, of_decide_eq_true h6, of_decide_eq_true h7⟩
def rowCk (l : List Row) (cons : List (Str × D)) (free : List Str) (p : Row) : Ck := ⟨p.1.scope, p.2.N, none, cons, rowsPs l, free⟩
/-- one def's check -/
def rowB (l : List Row) (cons : List (Str × D)) (free : List Str) (p : Row) : Bool :=
  decide (p.1.at_ = (p.1.name, none)) && p.1.dfl.isEmpty && p.1.kwd.isEmpty && scopeB p.1.scope p.2.N p.2.ps && chkSs (rowCk l cons free p) p.2.body p.1.body
section
variable {P : Program} {w : World} {K : PySem.W.Frag} {mg : Str → Option Value} {base : Heap} {l : List Row} {cons : List (Str × D)} {free : List Str}
theorem gd_start {H : Hp} {S S' : Hs} {e0 : Hp × Hs} (g : Gd K mg e0 H S) (le : S'.le S) : Gd K mg e0 H S' := ⟨g.toGr.less le, g.siz⟩
theorem slots_start {H : Hp} {S : Hs} {ds : List D} {vs : List V} {N : List Str} (r : Reps K H S ds vs) : Slots K H S (ds.map some ++ List.replicate (N.length - ds.length) none) (L2.start N vs) := by
  have hl := r.length
  refine ⟨by unfold L2.start; simp only [List.length_append, List.length_map, List.length_replicate, hl], fun i d h => ?_⟩
  by_cases hi : i < ds.length
  · rw [List.getElem?_append_left (by rw [List.length_map]; exact hi), List.getElem?_map] at h
    obtain ⟨d2, h1, h2⟩ := Option.map_eq_some_iff.mp h
    cases h2
    obtain ⟨v, q1, q2⟩ := r.get h1
    refine ⟨v, ?_, q2⟩
    unfold L2.start
    rw [List.getElem?_append_left (by rw [List.length_map, ← hl]; exact hi), List.getElem?_map, q1]
    rfl
  · rw [List.getElem?_append_right (by rw [List.length_map]; omega)] at h
    have h2 := List.mem_of_getElem? h
    rw [List.mem_replicate] at h2
    cases h2.2
/-- what is known of the defs at one depth -/
def FnsAt (P : Program) (w : World) (K : PySem.W.Frag) (mg : Str → Option Value) (base : Heap) (T : Tab) (n : Nat) (x : Str) (f : Fn) : Prop :=
  ∃ fa fd, mg x = some (.ref fa) ∧ PySem.W.keepIn K (.ref fa) = true ∧ Binds K fd f.ps [] ∧ KBd K fd f.ps ∧ FnOk P w K mg base (L2.CX P w) n fa fd f.ps (spF K mg (wpC T n) x f.ps.length) ∧ ∃ oc od osl, K.lookup fa = some ⟨oc, od, .func fd, osl⟩
theorem rows_find {x : Str} {f : Fn} (h : rowsFn l x = some f) : ∃ p ∈ l, p.1.name = x ∧ p.2 = f := by
  unfold rowsFn at h
  obtain ⟨p, h1, h2⟩ := Option.map_eq_some_iff.mp h
  have := List.find?_some h1
  exact ⟨p, List.mem_of_find?_eq_some h1, of_decide_eq_true this, h2⟩
theorem rows_ps {x : Str} {ps : List Str} : ∀ {l : List Row}, (rowsPs l).lookup x = some ps → ∃ f, rowsFn l x = some f ∧ f.ps = ps
  | [], h => by simp [rowsPs] at h
  | p :: l, h => by
    have h : (match x == p.1.name with
      | true => some p.2.ps
      | false => (rowsPs l).lookup x) = some ps := h
    cases e : (x == p.1.name) with
    | true =>
      rw [e] at h
      have e2 : p.1.name = x := (beq_iff_eq.mp e).symm
      exact ⟨p.2, by unfold rowsFn; rw [List.find?_cons_of_pos (by simpa using e2)]; rfl, Option.some.inj h⟩
    | false =>
      rw [e] at h
      obtain ⟨f, q1, q2⟩ := rows_ps (l := l) h
      have e2 : ¬ p.1.name = x := fun z => by rw [z] at e; simp at e
      exact ⟨f, by unfold rowsFn; rw [List.find?_cons_of_neg (by simpa using e2)]; exact q1, q2⟩
theorem clen_wpC {T : Tab} {n : Nat} {x : Str} {f : Fn} (h : T.fn x = some f) : CLen (wpC T n) x f.ps.length := fun ds S k ke q => by
  cases n with
  | zero => simp only [wpC] at q
  | succ n =>
    simp only [wpC, h] at q
    exact q.1
/-- all defs, at every depth -/
theorem fns_ok {T : Tab} (hT : T.fn = rowsFn l) (X : K.In base) (G : base.Ns mainGlobals mg) (c : He.SaysD (faOf l cons free) (l.map (·.1)) K) (hb : ∀ p ∈ l, BindOk p.1 p.2.ps) (hc : (cons.all conOk && l.all (rowB l cons free)) = true) :
    ∀ n x f, T.fn x = some f → FnsAt P w K mg base T n x f := by
  rw [Bool.and_eq_true] at hc
  obtain ⟨hcon, hrow⟩ := hc
  have facts : ∀ a ∈ faOf l cons free, a.ok K = true := fun a ha => by
    obtain ⟨i, hi⟩ := List.getElem?_of_mem ha
    exact c.fact i hi
  have hfree : ∀ x, x ∈ free → mg x = none := fun x hx => He.free_ok X G (facts _ (List.mem_append_right _ (List.mem_map.mpr ⟨x, hx, rfl⟩)))
  have hcons : ∀ x d, cons.lookup x = some d → ∃ u v, mg x = some u ∧ RelV v u ∧ ∀ H S, Rep K H S d v := fun x d h => by
    have hm : (x, d) ∈ cons := PySem.mem_of_lookup h
    have ok := List.all_eq_true.mp hcon _ hm
    have fc := facts (conFa (x, d)) (List.mem_append_left _ (List.mem_append_right _ (List.mem_map.mpr ⟨_, hm, rfl⟩)))
    cases d with
    | int i =>
      obtain ⟨t, ht⟩ := He.int_ok X G (x := x) (i := i) fc
      exact ⟨_, .int i, ht, ⟨t, rfl⟩, fun H S => by unfold Rep; rfl⟩
    | str z =>
      obtain ⟨t, ht⟩ := He.str_ok X G (x := x) (z := z) fc
      exact ⟨_, .str z, ht, ⟨t, rfl⟩, fun H S => by unfold Rep; exact ⟨rfl, ok⟩⟩
    | _ => cases ok
  have one : ∀ p ∈ l, ∃ fd, mg p.1.name = some (.ref (He.ga K p.1.name)) ∧ FunD K p.1.name p.1.qual p.1.params p.1.body p.1.scope [] [] (He.ga K p.1.name) fd ∧ FnScope p.2.N p.2.ps p.1.scope ∧ chkSs (rowCk l cons free p) p.2.body p.1.body = true := fun p hp => by
    have ok := List.all_eq_true.mp hrow p hp
    unfold rowB at ok
    simp only [Bool.and_eq_true] at ok
    obtain ⟨⟨⟨⟨h1, h2⟩, h3⟩, h4⟩, h5⟩ := ok
    have hg := He.glo_ok X G (facts (.glo p.1.name) (List.mem_append_left _ (List.mem_append_left _ (List.mem_map.mpr ⟨p, hp, rfl⟩))))
    obtain ⟨i, hi⟩ := List.getElem?_of_mem hp
    obtain ⟨fd, F⟩ := c.def_ i (d := p.1) (by rw [List.getElem?_map, hi]; rfl)
    have e1 : p.1.dvs K = [] := by unfold He.DefD.dvs; rw [empty_eq h2]; rfl
    have e2 : p.1.kws K = [] := by unfold He.DefD.kws; rw [empty_eq h3]; rfl
    have e3 : He.fAd K p.1.at_ = He.ga K p.1.name := by rw [of_decide_eq_true h1]; rfl
    rw [e1, e2, e3] at F
    exact ⟨fd, hg, F, scopeB_ok h4, h5⟩
  intro n
  induction n with
  | zero =>
    intro x f hx
    rw [hT] at hx
    obtain ⟨p, hp, rfl, rfl⟩ := rows_find hx
    obtain ⟨fd, hg, F, sc, _⟩ := one p hp
    have b := hb p hp
    obtain ⟨oc, od, dV, kV, doc, pm, an, cdv, ct, osl, rfl, lk, hcd, hD, hK⟩ := id F.ex
    have hdV : dV = .none := by
      rcases hD with ⟨_, e⟩ | ⟨e, _⟩
      · exact e
      · exact absurd rfl e
    subst hdV
    refine ⟨_, _, hg, F.kp, .all (b.pos kV doc pm an cdv ct), fun s ws _ hl => .of_eq (b.kw kV doc pm an cdv ct ws hl), ⟨fun vs H Q E h => ?_, fun A outer s H args us vs Q E hr he hbd hv h => ?_⟩, _, _, _, lk⟩
    · obtain ⟨ds, S, k, ke, _, _, _, h, _⟩ := h
      simp only [wpC] at h
    · obtain ⟨ds, S, k, ke, _, _, _, h, _⟩ := h
      simp only [wpC] at h
  | succ n ih =>
    intro x f hx
    have hx2 := hx
    rw [hT] at hx
    obtain ⟨p, hp, rfl, rfl⟩ := rows_find hx
    obtain ⟨fd, hg, F, sc, chk⟩ := one p hp
    have b := hb p hp
    have bs : Binds K fd p.2.ps [] ∧ KBd K fd p.2.ps := by
      obtain ⟨oc, od, dV, kV, doc, pm, an, cdv, ct, osl, rfl, lk, hcd, hD, hK⟩ := id F.ex
      have hdV : dV = .none := by
        rcases hD with ⟨_, e⟩ | ⟨e, _⟩
        · exact e
        · exact absurd rfl e
      subst hdV
      exact ⟨.all (b.pos kV doc pm an cdv ct), fun s ws _ hl => .of_eq (b.kw kV doc pm an cdv ct ws hl)⟩
    refine ⟨_, fd, hg, F.kp, bs.1, bs.2, F.ok sc (fun vs H Q E h => ?_) fun cdv A outer s H vs Q E hr h => ?_, by
      obtain ⟨oc, od, dV, kV, doc, pm, an, cdv, ct, osl, e, lk, _⟩ := id F.ex
      exact ⟨_, _, _, lk⟩⟩
    · obtain ⟨_, _, _, _, _, _, hl, _⟩ := h
      exact hl
    · obtain ⟨ds, S, k, ke, g, r, hl, hw, post, xpost⟩ := h
      simp only [wpC, hx2] at hw
      obtain ⟨hdl, hw⟩ := hw
      refine ⟨rdS K mg (H, S) (wpSs ⟨wpC T n, fun _ => ke, none, T.xf, T.xs⟩ p.2.body), ?_, _, S, _, g, slots_start r, hw, ?_⟩
      · have tk : Takes (cxOf (L2.CX P w) P w K mg base p.2.N p.1.qual p.1.scope (He.ga K p.1.name) cdv A outer s H E) (fun cls d _ H => E cls d H) := takes_of rfl rfl rfl rfl
        have ck : Cok (cxOf (L2.CX P w) P w K mg base p.2.N p.1.qual p.1.scope (He.ga K p.1.name) cdv A outer s H E) (H, S) ⟨wpC T n, fun _ => ke, none, T.xf, T.xs⟩ (rowCk l cons free p) :=
          { sc := rfl, N := rfl, nd := sc.nd, fn := rfl, calm := rfl
            un := by
              have := hr.un
              show (A.deeper _).units + 65 < cLine
              omega
            cons := hcons, free := hfree
            fns := fun y ps hy => by
              obtain ⟨f2, q1, q2⟩ := rows_ps hy
              rw [← hT] at q1
              subst q2
              obtain ⟨fa2, fd2, a1, a2, a3, a4, a5, _⟩ := ih y f2 q1
              exact ⟨⟨fa2, fd2, n, a1, a2, a3, a4, hr, a5⟩, clen_wpC q1⟩
            pat := fun σ => passAt (tk.imp (W' := fun cls d σ H' => EX (cxOf (L2.CX P w) P w K mg base p.2.N p.1.qual p.1.scope (He.ga K p.1.name) cdv A outer s H E) (H, S) ⟨wpC T n, fun _ => ke, none, T.xf, T.xs⟩ σ cls d H') fun cls d σ H' z => by
              obtain ⟨ρ, S2, xx, g2, sl2, e2, r2⟩ := z
              exact xpost cls d H' xx S2 g2 r2 e2) σ }
        exact chkSs_ok p.2.body (e0 := (H, S)) ⟨ck, sc.kind, passes_of rfl⟩ chk
      · exact ⟨fun σ' H' ρ' S' g' w' sl' ⟨S2, le, kk⟩ => post .non H' .non S2 (gd_start g' le) (by unfold Rep; rfl) kk, fun v H' d S' g' w' r' ⟨S2, le, kk⟩ => post v H' d S2 (gd_start g' le) (r'.mono (W.less le)) kk,
          fun _ _ _ _ _ _ _ z => z.elim, fun _ _ _ _ _ _ _ z => z.elim⟩
/-- the law's own promise, at the script -/
theorem law_sp {T : Tab} {n : Nat} {H : Hp} {a : Addr} {ns : List Int} (hO : L2.Only H) (hS : SqL K H a (ns.map V.int)) (h : wpC T n "law" [.scr ns] (fun _ => none) (fun d _ => d = .bl true) (fun _ _ => False)) :
    spF K mg (wpC T n) "law" 1 [.ref a] H (fun v _ => v = .bl true) (fun _ _ _ => False) := by
  refine ⟨[.scr ns], fun _ => none, _, _, ⟨⟨fun _ _ z => (by cases z), W.refl _ _⟩, fun b => ⟨fun xs z => ?_, fun xs z => ?_⟩⟩, .cons ?_ .nil, rfl, h, fun v H' d S' g' r' e => ?_, fun _ _ _ _ _ _ _ z => z.elim⟩
  · rcases hO b with e | ⟨o, u, e⟩ <;> rw [e] at z <;> cases z
  · rcases hO b with e | ⟨o, u, e⟩ <;> rw [e] at z <;> cases z
  · unfold Rep
    refine ⟨a, rfl, ?_⟩
    rcases hS with q | q
    · exact .inl ⟨rfl, q⟩
    · exact .inr q
  · subst e; exact rep_bl r'
/-- a promise that lets nothing out -/
theorem fn_calm {k : Nat} {f : Addr} {fd : FuncData} {ps : List Str} {sp : Sp} (F : FnOk P w K mg base (L2.CX P w) k f fd ps sp) : FnOk P w K mg base L2.CX0 k f fd ps (fun vs H Q _ => sp vs H Q (fun _ _ _ => False)) :=
  ⟨fun vs H Q E h => F.len _ _ _ _ h, fun A outer s H args us vs Q E hr he hb hv hs => codeAny_mono (F.run A outer s H args us vs Q (fun _ _ _ => False) hr he hb hv hs) fun r s' hq => by
    cases r with
    | error e =>
      obtain ⟨_, _, _, _, _, _, _, _, _, _, _, _, z⟩ := hq
      exact z.elim
    | ok v => cases v <;> exact hq⟩
/-- what the head's facts say of the law's def -/
theorem law_facts {h : Heap} {f : Addr} {T : Tab} {n : Nat} {fn : Fn} (hT : T.fn = rowsFn l) (c : He.SaysD (faOf l cons free) (l.map (·.1)) K) (hb : ∀ p ∈ l, BindOk p.1 p.2.ps) (hc : (cons.all conOk && l.all (rowB l cons free)) = true)
    (hl : T.fn "law" = some fn) (hps : fn.ps = (["script"] : List Str)) (X : K.In h) (G : h.Ns mainGlobals mg) (hfa : mg ("law" : Str) = some (.ref f)) :
    ∃ fd : FuncData, (∀ (s : Shared) (v : Value), BindsTo s fd ⟨[v], []⟩ [("script", v)]) ∧ ∀ base : Heap, K.In base → base.Ns mainGlobals mg → FnOk P w K mg base CX0 n f fd (["script"] : List Str) (fun vs H Q _ => spF K mg (wpC T n) "law" 1 vs H Q (fun _ _ _ => False)) := by
  have hfind := hl
  rw [hT] at hfind
  obtain ⟨p, hp, hpn, hpf⟩ := rows_find hfind
  have facts : ∀ a ∈ faOf l cons free, a.ok K = true := fun a ha => by
    obtain ⟨i, hi⟩ := List.getElem?_of_mem ha
    exact c.fact i hi
  have hg := He.glo_ok X G (facts (.glo p.1.name) (List.mem_append_left _ (List.mem_append_left _ (List.mem_map.mpr ⟨p, hp, rfl⟩))))
  have ok := List.all_eq_true.mp ((Bool.and_eq_true _ _).mp hc).2 p hp
  unfold rowB at ok
  simp only [Bool.and_eq_true] at ok
  obtain ⟨⟨⟨⟨h1, h2⟩, h3⟩, h4⟩, h5⟩ := ok
  obtain ⟨i, hi⟩ := List.getElem?_of_mem hp
  obtain ⟨fd, F⟩ := c.def_ i (d := p.1) (by rw [List.getElem?_map, hi]; rfl)
  have e1 : p.1.dvs K = [] := by unfold He.DefD.dvs; rw [empty_eq h2]; rfl
  have e2 : p.1.kws K = [] := by unfold He.DefD.kws; rw [empty_eq h3]; rfl
  have e3 : He.fAd K p.1.at_ = He.ga K p.1.name := by rw [of_decide_eq_true h1]; rfl
  rw [e1, e2, e3] at F
  rw [hpn, hfa] at hg
  cases hg
  have b := hb p hp
  rw [hpf, hps] at b
  refine ⟨fd, fun s v => ?_, fun base XB GB => ?_⟩
  · obtain ⟨oc, od, dV, kV, doc, pm, an, cdv, ct, osl, rfl, lk, hcd, hD, hK⟩ := id F.ex
    have hdV : dV = .none := by
      rcases hD with ⟨_, e⟩ | ⟨e, _⟩
      · exact e
      · exact absurd rfl e
    subst hdV
    exact .of_eq (b.pos kV doc pm an cdv ct [v] rfl)
  · obtain ⟨fa2, fd2, a1, a2, a3, a4, a5, oc2, od2, osl2, lk2⟩ := fns_ok (P := P) (w := w) hT XB GB c hb hc n "law" fn hl
    rw [hfa] at a1
    cases a1
    rw [hps] at a5
    have efd : fd2 = fd := by
      obtain ⟨oc, od, dV, kV, doc, pm, an, cdv, ct, osl, e, lk, _⟩ := id F.ex
      rw [hpn, lk2] at lk
      cases lk
      rfl
    subst efd
    exact fn_calm a5
end
end Mp

/-! Mp19: an evaluator for what changes nothing, and that the predicate transformers follow it. -/
namespace Mp
open PySem PySem.Spec

def S0 : Hs := fun _ => none
def joinO : Option (Option D) → Option D
  | some (some d) => some d
  | _ => none
abbrev Fe := Str → List D → Option D
/-- the items that a comprehension leaves -/
def evMap (f : D → Option (Option D)) : List D → Option (List D)
  | [] => some []
  | x :: xs => (f x).bind fun o => (evMap f xs).map fun r => match o with
    | some y => y :: r
    | none => r
def evSl (x : D) (l h : Option Int) : Option D := slD S0 x l h
mutual
def evE (fe : Fe) : CE → Ev → Option D
  | .var i, ρ => joinO ρ[i]?
  | .con d, _ => some d
  | .glob _ d, _ => some d
  | .tup es, ρ => (evEs fe es ρ).bind fun ds => if ds.length ≤ sizeLine then some (.tup ds) else none
  | .lst es, ρ => (evEs fe es ρ).bind fun ds => if ds.length ≤ sizeLine then some (.lst ds) else none
  | .op o a b, ρ => (evE fe a ρ).bind fun x => (evE fe b ρ).bind fun y => opD o x y
  | .cmp o a b, ρ => (evE fe a ρ).bind fun x => (evE fe b ρ).bind fun y => (cmpD o S0 x y).map .bl
  | .cmp2 o o' a b d, ρ => (evE fe a ρ).bind fun x => (evE fe b ρ).bind fun y => (cmpD o S0 x y).bind fun r => if r = true then (evE fe d ρ).bind fun z => (cmpD o' S0 y z).map .bl else some (.bl false)
  | .neg a, ρ => (evE fe a ρ).bind fun x => match x with
    | .int i => some (.int (-i))
    | _ => none
  | .not a, ρ => (evE fe a ρ).bind fun x => (truth S0 x).map fun b => .bl (!b)
  | .and a b, ρ => (evE fe a ρ).bind fun x => (truth S0 x).bind fun t => if t = true then evE fe b ρ else some x
  | .or a b, ρ => (evE fe a ρ).bind fun x => (truth S0 x).bind fun t => if t = true then some x else evE fe b ρ
  | .ite t a b, ρ => (evE fe t ρ).bind fun x => (truth S0 x).bind fun t => if t = true then evE fe a ρ else evE fe b ρ
  | .idx a i, ρ => (evE fe a ρ).bind fun x => (evE fe i ρ).bind fun y => idxD S0 x y
  | .sl a lo hi, ρ => (evE fe a ρ).bind fun x => (evO fe lo ρ).bind fun l => (evO fe hi ρ).bind fun h => slD S0 x l h
  | .call f es, ρ => (evEs fe es ρ).bind fun ds => fe f ds
  | .callk f es _ gs, ρ => (evEs fe es ρ).bind fun ds => (evEs fe gs ρ).bind fun us => fe f (ds ++ us)
  | .bi b es, ρ => (evEs fe es ρ).bind fun ds => biD b S0 ds
  | .lrng nw es, ρ => if nw = true then none else (evEs fe es ρ).bind fun ds => (rngOf ds).bind fun z => if z.length ≤ sizeLine then some (.lst z) else none
  | .isi a ts, ρ => (evE fe a ρ).bind fun x => (isiD S0 x ts).map .bl
  | .comp nw elt g it ifs own, ρ => if nw = true then none else (evI fe it ρ).bind fun xs => if xs.length ≤ sizeLine then (evMap (fun x => (asgG S0 g x (wipeD ρ (own.map (·.2)))).bind fun ρ2 => (evT fe ifs ρ2).bind fun b => if b = true then (evE fe elt ρ2).map some else some none) xs).map .lst else none
  | _, _ => none
def evEs (fe : Fe) : List CE → Ev → Option (List D)
  | [], _ => some []
  | e :: es, ρ => if e.isStar = true then none else (evE fe e ρ).bind fun x => (evEs fe es ρ).map (x :: ·)
def evO (fe : Fe) : Option CE → Ev → Option (Option Int)
  | none, _ => some none
  | some e, ρ => (evE fe e ρ).bind fun x => match x with
    | .int i => some (some i)
    | _ => none
def evT (fe : Fe) : List CE → Ev → Option Bool
  | [], _ => some true
  | e :: es, ρ => (evE fe e ρ).bind fun x => (truth S0 x).bind fun t => if t = true then evT fe es ρ else some false
def evI (fe : Fe) : CI → Ev → Option (List D)
  | .seq e, ρ => (evE fe e ρ).bind fun x => (itemsOf S0 x).map (·.1)
  | .rng es, ρ => (evEs fe es ρ).bind fun ds => rngOf ds
  | .enum e, ρ => (evE fe e ρ).bind fun x => (itemsE S0 x).map fun q => enumFrom' 0 q.1
  | .zip _ _, _ => none
end
inductive Out where
  | nx (ρ : Ev) | rt (d : D) | bk (ρ : Ev) | ct (ρ : Ev)
def evFor (step : D → Ev → Option Out) : List D → Ev → Option Out
  | [], ρ => some (.nx ρ)
  | x :: xs, ρ => (step x ρ).bind fun o => match o with
    | .nx ρ' => evFor step xs ρ'
    | .ct ρ' => evFor step xs ρ'
    | .bk ρ' => some (.nx ρ')
    | .rt d => some (.rt d)
mutual
def evS (fe : Fe) : CS → Ev → Option Out
  | .asg g e, ρ => (evE fe e ρ).bind fun d => (asgG S0 g d ρ).map .nx
  | .expr e, ρ => (evE fe e ρ).map fun _ => .nx ρ
  | .ret e, ρ => (evE fe e ρ).map .rt
  | .retN, _ => some (.rt .non)
  | .ifs t a b, ρ => (evE fe t ρ).bind fun x => (truth S0 x).bind fun t => if t = true then evSs fe a ρ else evSs fe b ρ
  | .forr g it b, ρ => (evI fe it ρ).bind fun xs => evFor (fun x ρ2 => (asgG S0 g x ρ2).bind fun ρ3 => evSs fe b ρ3) xs ρ
  | .brk, ρ => some (.bk ρ)
  | .cont, ρ => some (.ct ρ)
  | .pass, ρ => some (.nx ρ)
  | _, _ => none
def evSs (fe : Fe) : List CS → Ev → Option Out
  | [], ρ => some (.nx ρ)
  | s :: r, ρ => (evS fe s ρ).bind fun o => match o with
    | .nx ρ' => evSs fe r ρ'
    | o => some o
end
/-- one def's body evaluated -/
def evB (fe : Fe) (fn : Fn) (ds : List D) : Option D := if ds.length = fn.ps.length then (evSs fe fn.body (ds.map some ++ List.replicate (fn.N.length - ds.length) none)).bind fun o => match o with
    | .nx _ => some .non
    | .rt d => some d
    | _ => none
    else none
/-- calls evaluated; X: defs whose answer is known otherwise -/
def evC (T : Tab) (X : Nat → Fe) : Nat → Fe
  | 0, _, _ => none
  | n + 1, f, ds => match X n f ds with
    | some r => some r
    | none => (T.fn f).bind fun fn => evB (evC T X n) fn ds

/-! ### the heap does not matter -/
section
variable {S : Hs}
theorem truth_up {x : D} {b : Bool} (h : truth S0 x = some b) : truth S x = some b := by
  cases x <;> first | exact h | (simp [truth, S0] at h)
theorem seqOf_up {x : D} {ds : List D} (h : seqOf S0 x = some ds) : seqOf S x = some ds := by
  cases x <;> first | exact h | (simp [seqOf, S0] at h)
theorem tnOf_up {x : D} {t : Tn} (h : tnOf S0 x = some t) : tnOf S x = some t := by
  cases x <;> first | exact h | (simp [tnOf, S0] at h)
theorem isiD_up {x : D} {ts : List Ty} {b : Bool} (h : isiD S0 x ts = some b) : isiD S x ts = some b := by
  unfold isiD at h ⊢
  obtain ⟨t, h1, h2⟩ := Option.map_eq_some_iff.mp h
  rw [tnOf_up h1, ← h2]; rfl
theorem vw_S0 (x : D) : vw S0 x = x := by cases x <;> rfl
theorem vw_up {x : D} (h : ∀ a, x ≠ .ref a) : vw S x = x := by
  cases x <;> first | rfl | exact absurd rfl (h _)
theorem itemsOf_up {x : D} {q : List D × (Hs → Prop)} (h : itemsOf S0 x = some q) : itemsOf S x = some (q.1, fun _ => True) := by
  cases x <;> first | (cases h; rfl) | (simp [itemsOf, S0] at h)
theorem itemsE_up {x : D} {q : List D × (Hs → Prop)} (h : itemsE S0 x = some q) : itemsE S x = some (q.1, fun _ => True) := by
  cases x <;> first | (cases h; rfl) | (simp [itemsE, itemsOf, S0] at h)
theorem opD_ref {o : Operator} {x y : D} {z : D} (h : opD o x y = some z) : (∀ a, x ≠ .ref a) ∧ ∀ a, y ≠ .ref a := by
  constructor
  · rintro a rfl
    cases o <;> cases y <;> cases h
  · rintro a rfl
    cases o <;> cases x <;> cases h
theorem opD_up {o : Operator} {x y : D} {z : D} (h : opD o x y = some z) : opD o (vw S x) (vw S y) = some z := by
  obtain ⟨h1, h2⟩ := opD_ref h
  rw [vw_up h1, vw_up h2]; exact h
theorem eqD_ref {x y : D} {b : Bool} (h : eqD x y = some b) : (∀ a, x ≠ .ref a) ∧ ∀ a, y ≠ .ref a := by
  constructor
  · rintro a rfl
    simp [eqD, D.ok, D.plain] at h
  · rintro a rfl
    simp [eqD, D.ok, D.plain] at h
theorem inAny_up {x y : D} {b : Bool} (h : inAny S0 x y = some b) : inAny S x y = some b := by
  cases y with
  | ref a => simp [inAny, S0, dAt] at h
  | _ => exact h
theorem cmpD_up {o : CmpOp} {x y : D} {b : Bool} (h : cmpD o S0 x y = some b) : cmpD o S x y = some b := by
  cases o with
  | Eq =>
    have h : eqD (vw S0 x) (vw S0 y) = some b := h
    rw [vw_S0, vw_S0] at h
    obtain ⟨h1, h2⟩ := eqD_ref h
    show eqD (vw S x) (vw S y) = some b
    rw [vw_up h1, vw_up h2]; exact h
  | NotEq =>
    have h : (eqD (vw S0 x) (vw S0 y)).map (!·) = some b := h
    rw [vw_S0, vw_S0] at h
    obtain ⟨c, h3, h4⟩ := Option.map_eq_some_iff.mp h
    obtain ⟨h1, h2⟩ := eqD_ref h3
    show (eqD (vw S x) (vw S y)).map (!·) = some b
    rw [vw_up h1, vw_up h2]; exact h
  | In => exact inAny_up h
  | NotIn =>
    obtain ⟨c, h3, h4⟩ := Option.map_eq_some_iff.mp (show (inAny S0 x y).map (!·) = some b from h)
    show (inAny S x y).map (!·) = some b
    rw [inAny_up h3, ← h4]; rfl
  | _ => exact h
theorem idxD_up {x i z : D} (h : idxD S0 x i = some z) : idxD S x i = some z := by
  cases x with
  | ref a => cases i <;> simp [idxD, vw, S0, dAt] at h
  | _ => cases i <;> exact h
theorem slD_up {x z : D} {lo hi : Option Int} (h : slD S0 x lo hi = some z) : slD S x lo hi = some z := by
  cases x with
  | ref a => simp [slD, vw, S0] at h
  | _ => exact h
theorem biD_up {b : Bi} {ds : List D} {z : D} (h : biD b S0 ds = some z) : biD b S ds = some z := by
  rcases ds with _ | ⟨x, _ | ⟨y, t⟩⟩
  · cases b <;> cases h
  · cases x with
    | ref a => cases b <;> simp [biD, vw, S0] at h
    | _ => cases b <;> exact h
  · cases b <;> first | exact h | (cases x <;> first | exact h | (cases y <;> first | exact h | (cases t <;> exact h)))
mutual
theorem asgG_up : ∀ {g : CG} {d : D} {ρ ρ' : Ev}, asgG S0 g d ρ = some ρ' → asgG S g d ρ = some ρ'
  | .nm i, d, ρ, ρ', h => by simpa only [asgG] using h
  | .tg gs, d, ρ, ρ', h => by
    simp only [asgG] at h ⊢
    cases q : seqOf S0 d with
    | none => rw [q] at h; cases h
    | some ds =>
      rw [q] at h
      rw [seqOf_up q]
      exact asgGs_up h
theorem asgGs_up : ∀ {gs : List CG} {ds : List D} {ρ ρ' : Ev}, asgGs S0 gs ds ρ = some ρ' → asgGs S gs ds ρ = some ρ'
  | [], [], ρ, ρ', h => by simpa only [asgGs] using h
  | [], _ :: _, ρ, ρ', h => by simp [asgGs] at h
  | _ :: _, [], ρ, ρ', h => by simp [asgGs] at h
  | g :: gs, d :: ds, ρ, ρ', h => by
    have h : (asgG S0 g d ρ).bind (asgGs S0 gs ds) = some ρ' := by simpa only [asgGs] using h
    obtain ⟨ρ1, h1, h2⟩ := Option.bind_eq_some_iff.mp h
    show asgGs S (g :: gs) (d :: ds) ρ = _
    simp only [asgGs]
    rw [asgG_up h1]
    exact asgGs_up h2
end
end

/-! ### the evaluator is followed -/
def FeOk (fe : Fe) (G : CallSem) : Prop := ∀ f ds r S k ke, fe f ds = some r → k r S → G f ds S k ke
theorem cmpL_ev {ok : Hs → Prop} {p : Addr} {step : D → (Option D → Hs → Prop) → Hs → Prop} {fin : Hs → Prop} {S : Hs} {f : D → Option (Option D)} (hok : ∀ S', ok S')
    (hs : ∀ x o S' kk, f x = some o → kk o S' → step x kk S') : ∀ {xs : List D} {acc ys : List D}, evMap f xs = some ys → acc.length + xs.length ≤ sizeLine → fin (hput S p (.lst (acc ++ ys))) → cmpL ok p step xs fin (hput S p (.lst acc))
  | [], acc, ys, e, _, h => by
    cases e
    rw [List.append_nil] at h
    exact ⟨hok _, h⟩
  | x :: xs, acc, ys, e, hl, h => by
    unfold evMap at e
    obtain ⟨o, e1, e2⟩ := Option.bind_eq_some_iff.mp e
    obtain ⟨zs, e3, e4⟩ := Option.map_eq_some_iff.mp e2
    rw [List.length_cons] at hl
    refine ⟨hok _, hs x o _ _ e1 ?_⟩
    cases o with
    | none =>
      cases e4
      exact cmpL_ev hok hs e3 (by omega) h
    | some y =>
      cases e4
      refine ⟨acc, hput_same, by omega, ?_⟩
      rw [hput_hput]
      refine cmpL_ev hok hs e3 (by rw [List.length_append]; simp; omega) ?_
      rw [List.append_assoc]
      exact h
mutual
theorem evE_ok {fe : Fe} : ∀ (e : CE) {c : Cw} {ρ : Ev} {d : D}, FeOk fe c.G → evE fe e ρ = some d → ∀ {S : Hs} {k : DK}, k d S → wpE c e ρ k S
  | .var i, c, ρ, d, hf, h, S, k, hk => by
    simp only [evE] at h
    simp only [wpE]
    cases q : ρ[i]? with
    | none => rw [q] at h; cases h
    | some o =>
      rw [q] at h
      cases o with
      | none => cases h
      | some x => cases h; exact hk
  | .con x, c, ρ, d, hf, h, S, k, hk => by
    simp only [evE] at h; cases h
    simp only [wpE]; exact hk
  | .glob _ x, c, ρ, d, hf, h, S, k, hk => by
    simp only [evE] at h; cases h
    simp only [wpE]; exact hk
  | .tup es, c, ρ, d, hf, h, S, k, hk => by
    simp only [evE] at h
    obtain ⟨ds, h1, h2⟩ := Option.bind_eq_some_iff.mp h
    split at h2
    · rename_i hl
      cases h2
      simp only [wpE]
      exact evEs_ok es hf h1 ⟨hl, hk⟩
    · cases h2
  | .lst es, c, ρ, d, hf, h, S, k, hk => by
    simp only [evE] at h
    obtain ⟨ds, h1, h2⟩ := Option.bind_eq_some_iff.mp h
    split at h2
    · rename_i hl
      cases h2
      simp only [wpE]
      exact evEs_ok es hf h1 ⟨hl, hk⟩
    · cases h2
  | .op o a b, c, ρ, d, hf, h, S, k, hk => by
    simp only [evE] at h
    obtain ⟨x, h1, h2⟩ := Option.bind_eq_some_iff.mp h
    obtain ⟨y, h3, h4⟩ := Option.bind_eq_some_iff.mp h2
    simp only [wpE]
    refine evE_ok a hf h1 (evE_ok b hf h3 ?_)
    rw [opD_up h4]; exact hk
  | .cmp o a b, c, ρ, d, hf, h, S, k, hk => by
    simp only [evE] at h
    obtain ⟨x, h1, h2⟩ := Option.bind_eq_some_iff.mp h
    obtain ⟨y, h3, h4⟩ := Option.bind_eq_some_iff.mp h2
    obtain ⟨z, h5, h6⟩ := Option.map_eq_some_iff.mp h4
    subst h6
    simp only [wpE]
    refine evE_ok a hf h1 (evE_ok b hf h3 ?_)
    rw [cmpD_up h5]; exact hk
  | .cmp2 o o' a b e, c, ρ, d, hf, h, S, k, hk => by
    simp only [evE] at h
    obtain ⟨x, h1, h2⟩ := Option.bind_eq_some_iff.mp h
    obtain ⟨y, h3, h4⟩ := Option.bind_eq_some_iff.mp h2
    obtain ⟨r, h5, h6⟩ := Option.bind_eq_some_iff.mp h4
    simp only [wpE]
    refine evE_ok a hf h1 (evE_ok b hf h3 ?_)
    rw [cmpD_up h5]
    cases r with
    | true =>
      rw [if_pos rfl] at h6
      obtain ⟨z, h7, h8⟩ := Option.bind_eq_some_iff.mp h6
      obtain ⟨t, h9, h10⟩ := Option.map_eq_some_iff.mp h8
      subst h10
      refine evE_ok e hf h7 ?_
      rw [cmpD_up h9]; exact hk
    | false =>
      rw [if_neg Bool.false_ne_true] at h6
      cases h6
      exact hk
  | .neg a, c, ρ, d, hf, h, S, k, hk => by
    simp only [evE] at h
    obtain ⟨x, h1, h2⟩ := Option.bind_eq_some_iff.mp h
    simp only [wpE]
    refine evE_ok a hf h1 ?_
    cases x with
    | int i => cases h2; exact hk
    | _ => cases h2
  | .not a, c, ρ, d, hf, h, S, k, hk => by
    simp only [evE] at h
    obtain ⟨x, h1, h2⟩ := Option.bind_eq_some_iff.mp h
    obtain ⟨b, h3, h4⟩ := Option.map_eq_some_iff.mp h2
    subst h4
    simp only [wpE]
    refine evE_ok a hf h1 ?_
    rw [truth_up h3]; exact hk
  | .and a b, c, ρ, d, hf, h, S, k, hk => by
    simp only [evE] at h
    obtain ⟨x, h1, h2⟩ := Option.bind_eq_some_iff.mp h
    obtain ⟨t, h3, h4⟩ := Option.bind_eq_some_iff.mp h2
    simp only [wpE]
    refine evE_ok a hf h1 ?_
    rw [truth_up h3]
    cases t with
    | true =>
      rw [if_pos rfl] at h4
      exact evE_ok b hf h4 hk
    | false =>
      rw [if_neg Bool.false_ne_true] at h4
      cases h4; exact hk
  | .or a b, c, ρ, d, hf, h, S, k, hk => by
    simp only [evE] at h
    obtain ⟨x, h1, h2⟩ := Option.bind_eq_some_iff.mp h
    obtain ⟨t, h3, h4⟩ := Option.bind_eq_some_iff.mp h2
    simp only [wpE]
    refine evE_ok a hf h1 ?_
    rw [truth_up h3]
    cases t with
    | true =>
      rw [if_pos rfl] at h4
      cases h4; exact hk
    | false =>
      rw [if_neg Bool.false_ne_true] at h4
      exact evE_ok b hf h4 hk
  | .ite t a b, c, ρ, d, hf, h, S, k, hk => by
    simp only [evE] at h
    obtain ⟨x, h1, h2⟩ := Option.bind_eq_some_iff.mp h
    obtain ⟨r, h3, h4⟩ := Option.bind_eq_some_iff.mp h2
    simp only [wpE]
    refine evE_ok t hf h1 ?_
    rw [truth_up h3]
    cases r with
    | true =>
      rw [if_pos rfl] at h4
      exact evE_ok a hf h4 hk
    | false =>
      rw [if_neg Bool.false_ne_true] at h4
      exact evE_ok b hf h4 hk
  | .idx a i, c, ρ, d, hf, h, S, k, hk => by
    simp only [evE] at h
    obtain ⟨x, h1, h2⟩ := Option.bind_eq_some_iff.mp h
    obtain ⟨y, h3, h4⟩ := Option.bind_eq_some_iff.mp h2
    simp only [wpE]
    refine evE_ok a hf h1 (evE_ok i hf h3 ?_)
    rw [idxD_up h4]; exact hk
  | .sl a lo hi, c, ρ, d, hf, h, S, k, hk => by
    simp only [evE] at h
    obtain ⟨x, h1, h2⟩ := Option.bind_eq_some_iff.mp h
    obtain ⟨l, h3, h4⟩ := Option.bind_eq_some_iff.mp h2
    obtain ⟨r, h5, h6⟩ := Option.bind_eq_some_iff.mp h4
    simp only [wpE]
    refine evE_ok a hf h1 (evO_ok lo hf h3 (evO_ok hi hf h5 ?_))
    rw [slD_up h6]; exact hk
  | .call f es, c, ρ, d, hf, h, S, k, hk => by
    simp only [evE] at h
    obtain ⟨ds, h1, h2⟩ := Option.bind_eq_some_iff.mp h
    simp only [wpE]
    exact evEs_ok es hf h1 (hf _ _ _ _ _ _ h2 hk)
  | .callk f es ks gs, c, ρ, d, hf, h, S, k, hk => by
    simp only [evE] at h
    obtain ⟨ds, h1, h2⟩ := Option.bind_eq_some_iff.mp h
    obtain ⟨us, h3, h4⟩ := Option.bind_eq_some_iff.mp h2
    simp only [wpE]
    exact evEs_ok es hf h1 (evEs_ok gs hf h3 (hf _ _ _ _ _ _ h4 hk))
  | .bi b es, c, ρ, d, hf, h, S, k, hk => by
    simp only [evE] at h
    obtain ⟨ds, h1, h2⟩ := Option.bind_eq_some_iff.mp h
    simp only [wpE]
    refine evEs_ok es hf h1 ?_
    rw [biD_up h2]; exact hk
  | .lrng nw es, c, ρ, d, hf, h, S, k, hk => by
    simp only [evE] at h
    cases nw with
    | true => simp at h
    | false =>
      rw [if_neg Bool.false_ne_true] at h
      obtain ⟨ds, h1, h2⟩ := Option.bind_eq_some_iff.mp h
      obtain ⟨z, h3, h4⟩ := Option.bind_eq_some_iff.mp h2
      split at h4
      · rename_i hl
        cases h4
        simp only [wpE]
        refine evEs_ok es hf h1 ?_
        rw [h3]
        exact ⟨hl, by simpa using hk⟩
      · cases h4
  | .isi a ts, c, ρ, d, hf, h, S, k, hk => by
    simp only [evE] at h
    obtain ⟨x, h1, h2⟩ := Option.bind_eq_some_iff.mp h
    obtain ⟨b, h3, h4⟩ := Option.map_eq_some_iff.mp h2
    subst h4
    simp only [wpE]
    refine evE_ok a hf h1 ?_
    rw [isiD_up h3]; exact hk
  | .comp nw elt g it ifs own, c, ρ, d, hf, h, S, k, hk => by
    simp only [evE] at h
    cases nw with
    | true => simp at h
    | false =>
      rw [if_neg Bool.false_ne_true] at h
      obtain ⟨xs, h1, h2⟩ := Option.bind_eq_some_iff.mp h
      split at h2
      · rename_i hl
        obtain ⟨ys, h3, h4⟩ := Option.map_eq_some_iff.mp h2
        subst h4
        simp only [wpE]
        refine evI_ok it hf h1 fun ok hok => fun p hp => ?_
        refine cmpL_ev (acc := []) hok (fun x o S' kk e hkk => ?_) h3 (by simpa using hl) ?_
        · obtain ⟨ρ2, e1, e2⟩ := Option.bind_eq_some_iff.mp e
          obtain ⟨b, e3, e4⟩ := Option.bind_eq_some_iff.mp e2
          rw [asgG_up e1]
          refine evT_ok ifs hf e3 ?_
          cases b with
          | true =>
            rw [if_pos rfl] at e4
            obtain ⟨y, e5, e6⟩ := Option.map_eq_some_iff.mp e4
            subst e6
            exact evE_ok elt (c := c.noE) hf e5 hkk
          | false =>
            rw [if_neg Bool.false_ne_true] at e4
            cases e4
            exact hkk
        · refine ⟨ys, hput_same, ?_⟩
          rw [List.nil_append, hdel_hput hp]
          simpa using hk
      · cases h2
  | .nlst _, c, ρ, d, hf, h, S, k, hk => by simp [evE] at h
  | .star _, c, ρ, d, hf, h, S, k, hk => by simp [evE] at h
  | .bin _, c, ρ, d, hf, h, S, k, hk => by simp [evE] at h
  | .meth _ _ _, c, ρ, d, hf, h, S, k, hk => by simp [evE] at h
  | .fld _ _, c, ρ, d, hf, h, S, k, hk => by simp [evE] at h
  | .callm _ _ _ _, c, ρ, d, hf, h, S, k, hk => by simp [evE] at h
  | .mk _ _, c, ρ, d, hf, h, S, k, hk => by simp [evE] at h
  | .bad, c, ρ, d, hf, h, S, k, hk => by simp [evE] at h
  | .xfld _, c, ρ, d, hf, h, S, k, hk => by simp [evE] at h
  | .ndct _, c, ρ, d, hf, h, S, k, hk => by simp [evE] at h
  | .ddct _ _, c, ρ, d, hf, h, S, k, hk => by simp [evE] at h
  | .compk _ _ _ _ _, c, ρ, d, hf, h, S, k, hk => by simp [evE] at h
theorem evEs_ok {fe : Fe} : ∀ (es : List CE) {c : Cw} {ρ : Ev} {ds : List D}, FeOk fe c.G → evEs fe es ρ = some ds → ∀ {S : Hs} {k : List D → Hs → Prop}, k ds S → wpEs c es ρ k S
  | [], c, ρ, ds, hf, h, S, k, hk => by
    simp only [evEs] at h; cases h
    simp only [wpEs]; exact hk
  | e :: es, c, ρ, ds, hf, h, S, k, hk => by
    simp only [evEs] at h
    cases hs : e.isStar with
    | true => rw [hs] at h; simp at h
    | false =>
      rw [hs, if_neg Bool.false_ne_true] at h
      obtain ⟨x, h1, h2⟩ := Option.bind_eq_some_iff.mp h
      obtain ⟨r, h3, h4⟩ := Option.map_eq_some_iff.mp h2
      subst h4
      simp only [wpEs, hs]
      exact evE_ok e hf h1 (evEs_ok es hf h3 hk)
theorem evO_ok {fe : Fe} : ∀ (e : Option CE) {c : Cw} {ρ : Ev} {o : Option Int}, FeOk fe c.G → evO fe e ρ = some o → ∀ {S : Hs} {k : Option Int → Hs → Prop}, k o S → wpO c e ρ k S
  | none, c, ρ, o, hf, h, S, k, hk => by
    simp only [evO] at h; cases h
    simp only [wpO]; exact hk
  | some e, c, ρ, o, hf, h, S, k, hk => by
    simp only [evO] at h
    obtain ⟨x, h1, h2⟩ := Option.bind_eq_some_iff.mp h
    simp only [wpO]
    refine evE_ok e hf h1 ?_
    cases x with
    | int i => cases h2; exact hk
    | _ => cases h2
theorem evT_ok {fe : Fe} : ∀ (es : List CE) {c : Cw} {ρ : Ev} {b : Bool}, FeOk fe c.G → evT fe es ρ = some b → ∀ {S : Hs} {k : Bool → Hs → Prop}, k b S → wpT c.noE es ρ k S
  | [], c, ρ, b, hf, h, S, k, hk => by
    simp only [evT] at h; cases h
    simp only [wpT]; exact hk
  | e :: es, c, ρ, b, hf, h, S, k, hk => by
    simp only [evT] at h
    obtain ⟨x, h1, h2⟩ := Option.bind_eq_some_iff.mp h
    obtain ⟨t, h3, h4⟩ := Option.bind_eq_some_iff.mp h2
    simp only [wpT]
    refine evE_ok e (c := c.noE) hf h1 ?_
    rw [truth_up h3]
    cases t with
    | true =>
      rw [if_pos rfl] at h4
      exact evT_ok es hf h4 hk
    | false =>
      rw [if_neg Bool.false_ne_true] at h4
      cases h4; exact hk
theorem evI_ok {fe : Fe} : ∀ (i : CI) {c : Cw} {ρ : Ev} {xs : List D}, FeOk fe c.G → evI fe i ρ = some xs → ∀ {S : Hs} {k : List D → (Hs → Prop) → Hs → Prop}, (∀ ok : Hs → Prop, (∀ S', ok S') → k xs ok S) → wpI c i ρ k S
  | .seq e, c, ρ, xs, hf, h, S, k, hk => by
    simp only [evI] at h
    obtain ⟨x, h1, h2⟩ := Option.bind_eq_some_iff.mp h
    obtain ⟨q, h3, h4⟩ := Option.map_eq_some_iff.mp h2
    subst h4
    simp only [wpI]
    refine evE_ok e hf h1 ?_
    rw [itemsOf_up h3]
    exact hk _ fun _ => trivial
  | .rng es, c, ρ, xs, hf, h, S, k, hk => by
    simp only [evI] at h
    obtain ⟨ds, h1, h2⟩ := Option.bind_eq_some_iff.mp h
    simp only [wpI]
    refine evEs_ok es hf h1 ?_
    rw [h2]
    exact hk _ fun _ => trivial
  | .enum e, c, ρ, xs, hf, h, S, k, hk => by
    simp only [evI] at h
    obtain ⟨x, h1, h2⟩ := Option.bind_eq_some_iff.mp h
    obtain ⟨q, h3, h4⟩ := Option.map_eq_some_iff.mp h2
    subst h4
    simp only [wpI]
    refine evE_ok e hf h1 ?_
    rw [itemsE_up h3]
    exact hk _ fun _ => trivial
  | .zip _ _, c, ρ, xs, hf, h, S, k, hk => by simp [evI] at h
end
/-- what an outcome asks -/
def Fin.at_ (F : Fin) (S : Hs) : Out → Prop
  | .nx ρ => F.nx ρ S
  | .rt d => F.rt d S
  | .bk ρ => F.bk ρ S
  | .ct ρ => F.ct ρ S
theorem forL_ev {ok : Hs → Prop} {step : D → (Ev → Hs → Prop) → Ev → Hs → Prop} {st : D → Ev → Option Out} {S : Hs} {F : Fin} (hok : ∀ S', ok S')
    (hs : ∀ x k ρ o, st x ρ = some o → (match o with
      | .nx ρ' => k ρ' S
      | .ct ρ' => k ρ' S
      | .bk ρ' => F.nx ρ' S
      | .rt d => F.rt d S) → step x k ρ S) : ∀ {xs : List D} {ρ : Ev} {o : Out}, evFor st xs ρ = some o → F.at_ S o → forL ok step xs F.nx ρ S
  | [], ρ, o, e, h => by
    cases e
    exact ⟨hok _, h⟩
  | x :: xs, ρ, o, e, h => by
    unfold evFor at e
    obtain ⟨o1, e1, e2⟩ := Option.bind_eq_some_iff.mp e
    refine ⟨hok _, hs x _ ρ o1 e1 ?_⟩
    cases o1 with
    | nx ρ' => exact forL_ev hok hs e2 h
    | ct ρ' => exact forL_ev hok hs e2 h
    | bk ρ' => cases e2; exact h
    | rt d => cases e2; exact h
mutual
theorem evS_ok {fe : Fe} : ∀ (s : CS) {c : Cw} {ρ : Ev} {o : Out}, FeOk fe c.G → evS fe s ρ = some o → ∀ {S : Hs} {F : Fin}, F.at_ S o → wpS c s F ρ S
  | .asg g e, c, ρ, o, hf, h, S, F, hF => by
    simp only [evS] at h
    obtain ⟨d, h1, h2⟩ := Option.bind_eq_some_iff.mp h
    obtain ⟨ρ', h3, h4⟩ := Option.map_eq_some_iff.mp h2
    subst h4
    simp only [wpS]
    refine evE_ok e hf h1 ?_
    rw [asgG_up h3]; exact hF
  | .expr e, c, ρ, o, hf, h, S, F, hF => by
    simp only [evS] at h
    obtain ⟨d, h1, h2⟩ := Option.map_eq_some_iff.mp h
    subst h2
    simp only [wpS]
    exact evE_ok e hf h1 hF
  | .ret e, c, ρ, o, hf, h, S, F, hF => by
    simp only [evS] at h
    obtain ⟨d, h1, h2⟩ := Option.map_eq_some_iff.mp h
    subst h2
    simp only [wpS]
    exact evE_ok e hf h1 hF
  | .retN, c, ρ, o, hf, h, S, F, hF => by
    simp only [evS] at h; cases h
    simp only [wpS]; exact hF
  | .ifs t a b, c, ρ, o, hf, h, S, F, hF => by
    simp only [evS] at h
    obtain ⟨x, h1, h2⟩ := Option.bind_eq_some_iff.mp h
    obtain ⟨r, h3, h4⟩ := Option.bind_eq_some_iff.mp h2
    simp only [wpS]
    refine evE_ok t hf h1 ?_
    rw [truth_up h3]
    cases r with
    | true =>
      rw [if_pos rfl] at h4
      exact evSs_ok a hf h4 hF
    | false =>
      rw [if_neg Bool.false_ne_true] at h4
      exact evSs_ok b hf h4 hF
  | .forr g it b, c, ρ, o, hf, h, S, F, hF => by
    simp only [evS] at h
    obtain ⟨xs, h1, h2⟩ := Option.bind_eq_some_iff.mp h
    simp only [wpS]
    refine evI_ok it hf h1 fun ok hok => forL_ev hok (fun x k ρ2 o2 e hk => ?_) h2 hF
    obtain ⟨ρ3, e1, e2⟩ := Option.bind_eq_some_iff.mp e
    rw [asgG_up e1]
    exact evSs_ok b hf e2 (by cases o2 <;> exact hk)
  | .brk, c, ρ, o, hf, h, S, F, hF => by
    simp only [evS] at h; cases h
    simp only [wpS]; exact hF
  | .cont, c, ρ, o, hf, h, S, F, hF => by
    simp only [evS] at h; cases h
    simp only [wpS]; exact hF
  | .pass, c, ρ, o, hf, h, S, F, hF => by
    simp only [evS] at h; cases h
    simp only [wpS]; exact hF
  | .asgIx _ _ _, c, ρ, o, hf, h, S, F, hF => by simp [evS] at h
  | .asgFld _ _ _, c, ρ, o, hf, h, S, F, hF => by simp [evS] at h
  | .aug _ _ _, c, ρ, o, hf, h, S, F, hF => by simp [evS] at h
  | .whl _ _, c, ρ, o, hf, h, S, F, hF => by simp [evS] at h
  | .fork _ _ _, c, ρ, o, hf, h, S, F, hF => by simp [evS] at h
  | .bad, c, ρ, o, hf, h, S, F, hF => by simp [evS] at h
  | .raise _ _, c, ρ, o, hf, h, S, F, hF => by simp [evS] at h
  | .tri _ _, c, ρ, o, hf, h, S, F, hF => by simp [evS] at h
  | .del _ _, c, ρ, o, hf, h, S, F, hF => by simp [evS] at h
  | .frz _, c, ρ, o, hf, h, S, F, hF => by simp [evS] at h
theorem evSs_ok {fe : Fe} : ∀ (ss : List CS) {c : Cw} {ρ : Ev} {o : Out}, FeOk fe c.G → evSs fe ss ρ = some o → ∀ {S : Hs} {F : Fin}, F.at_ S o → wpSs c ss F ρ S
  | [], c, ρ, o, hf, h, S, F, hF => by
    simp only [evSs] at h; cases h
    simp only [wpSs]; exact hF
  | s :: r, c, ρ, o, hf, h, S, F, hF => by
    simp only [evSs] at h
    obtain ⟨o1, h1, h2⟩ := Option.bind_eq_some_iff.mp h
    simp only [wpSs]
    refine evS_ok s hf h1 ?_
    cases o1 with
    | nx ρ' => exact evSs_ok r hf h2 hF
    | rt d => cases h2; exact hF
    | bk ρ' => cases h2; exact hF
    | ct ρ' => cases h2; exact hF
end
/-- calls follow it -/
theorem evC_ok {T : Tab} {X : Nat → Fe} (hX : ∀ n, FeOk (X n) (wpC T (n + 1))) : ∀ n, FeOk (evC T X n) (wpC T n)
  | 0, f, ds, r, S, k, ke, h, hk => by cases h
  | n + 1, f, ds, r, S, k, ke, h, hk => by
    unfold evC at h
    cases hx : X n f ds with
    | some r2 =>
      rw [hx] at h
      cases h
      exact hX n f ds _ S k ke hx hk
    | none =>
      rw [hx] at h
      obtain ⟨fn, h1, h2⟩ := Option.bind_eq_some_iff.mp h
      unfold evB at h2
      simp only [wpC, h1]
      split at h2
      · rename_i hl
        obtain ⟨o, h3, h4⟩ := Option.bind_eq_some_iff.mp h2
        refine ⟨hl, evSs_ok fn.body (evC_ok hX n) h3 ?_⟩
        have le : S.le S := fun _ _ h => h
        cases o with
        | nx ρ => cases h4; exact ⟨S, le, hk⟩
        | rt d => cases h4; exact ⟨S, le, hk⟩
        | bk _ => cases h4
        | ct _ => cases h4
      · cases h2
end Mp

/-! Mp20: the evaluator's equations, but for comprehensions and loops; these by what they come to. -/
namespace Mp
open PySem PySem.Spec
section
variable {fe : Fe} {ρ : Ev}
@[simp] theorem truth_bl {S : Hs} {b : Bool} : truth S (.bl b) = some b := rfl
@[simp] theorem joinO_some {d : D} : joinO (some (some d)) = some d := rfl
@[simp] theorem x_var {i : Nat} : evE fe (.var i) ρ = joinO ρ[i]? := by simp only [evE]
@[simp] theorem x_con {d : D} : evE fe (.con d) ρ = some d := by simp only [evE]
@[simp] theorem x_glob {x : Str} {d : D} : evE fe (.glob x d) ρ = some d := by simp only [evE]
@[simp] theorem x_tup {es : List CE} : evE fe (.tup es) ρ = (evEs fe es ρ).bind fun ds => if ds.length ≤ sizeLine then some (.tup ds) else none := by simp only [evE]
@[simp] theorem x_lst {es : List CE} : evE fe (.lst es) ρ = (evEs fe es ρ).bind fun ds => if ds.length ≤ sizeLine then some (.lst ds) else none := by simp only [evE]
@[simp] theorem x_op {o : Operator} {a b : CE} : evE fe (.op o a b) ρ = (evE fe a ρ).bind fun x => (evE fe b ρ).bind fun y => opD o x y := by simp only [evE]
@[simp] theorem x_cmp {o : CmpOp} {a b : CE} : evE fe (.cmp o a b) ρ = (evE fe a ρ).bind fun x => (evE fe b ρ).bind fun y => (cmpD o S0 x y).map .bl := by simp only [evE]
@[simp] theorem x_cmp2 {o o' : CmpOp} {a b d : CE} : evE fe (.cmp2 o o' a b d) ρ = (evE fe a ρ).bind fun x => (evE fe b ρ).bind fun y => (cmpD o S0 x y).bind fun r => if r = true then (evE fe d ρ).bind fun z => (cmpD o' S0 y z).map .bl else some (.bl false) := by simp only [evE]
@[simp] theorem x_not {a : CE} : evE fe (.not a) ρ = (evE fe a ρ).bind fun x => (truth S0 x).map fun b => .bl (!b) := by simp only [evE]
@[simp] theorem x_and {a b : CE} : evE fe (.and a b) ρ = (evE fe a ρ).bind fun x => (truth S0 x).bind fun t => if t = true then evE fe b ρ else some x := by simp only [evE]
@[simp] theorem x_or {a b : CE} : evE fe (.or a b) ρ = (evE fe a ρ).bind fun x => (truth S0 x).bind fun t => if t = true then some x else evE fe b ρ := by simp only [evE]
@[simp] theorem x_ite {t a b : CE} : evE fe (.ite t a b) ρ = (evE fe t ρ).bind fun x => (truth S0 x).bind fun t => if t = true then evE fe a ρ else evE fe b ρ := by simp only [evE]
@[simp] theorem x_idx {a i : CE} : evE fe (.idx a i) ρ = (evE fe a ρ).bind fun x => (evE fe i ρ).bind fun y => idxD S0 x y := by simp only [evE]
@[simp] theorem x_sl {a : CE} {lo hi : Option CE} : evE fe (.sl a lo hi) ρ = (evE fe a ρ).bind fun x => (evO fe lo ρ).bind fun l => (evO fe hi ρ).bind fun h => slD S0 x l h := by simp only [evE]
@[simp] theorem x_call {f : Str} {es : List CE} : evE fe (.call f es) ρ = (evEs fe es ρ).bind fun ds => fe f ds := by simp only [evE]
@[simp] theorem x_callk {f : Str} {es gs : List CE} {ks : List Str} : evE fe (.callk f es ks gs) ρ = (evEs fe es ρ).bind fun ds => (evEs fe gs ρ).bind fun us => fe f (ds ++ us) := by simp only [evE]
@[simp] theorem x_bi {b : Bi} {es : List CE} : evE fe (.bi b es) ρ = (evEs fe es ρ).bind fun ds => biD b S0 ds := by simp only [evE]
@[simp] theorem x_isi {a : CE} {ts : List Ty} : evE fe (.isi a ts) ρ = (evE fe a ρ).bind fun x => (isiD S0 x ts).map .bl := by simp only [evE]
@[simp] theorem x_lrng {es : List CE} : evE fe (.lrng false es) ρ = (evEs fe es ρ).bind fun ds => (rngOf ds).bind fun z => if z.length ≤ sizeLine then some (.lst z) else none := by simp only [evE]; simp
@[simp] theorem x_nil : evEs fe [] ρ = some [] := by simp only [evEs]
@[simp] theorem x_cons {e : CE} {es : List CE} : evEs fe (e :: es) ρ = if e.isStar = true then none else (evE fe e ρ).bind fun x => (evEs fe es ρ).map (x :: ·) := by simp only [evEs]
@[simp] theorem x_onone : evO fe none ρ = some none := by simp only [evO]
@[simp] theorem x_seq {e : CE} : evI fe (.seq e) ρ = (evE fe e ρ).bind fun x => (itemsOf S0 x).map (·.1) := by simp only [evI]
@[simp] theorem x_rng {es : List CE} : evI fe (.rng es) ρ = (evEs fe es ρ).bind fun ds => rngOf ds := by simp only [evI]
@[simp] theorem x_enum {e : CE} : evI fe (.enum e) ρ = (evE fe e ρ).bind fun x => (itemsE S0 x).map fun q => enumFrom' 0 q.1 := by simp only [evI]
@[simp] theorem s_asg {g : CG} {e : CE} : evS fe (.asg g e) ρ = (evE fe e ρ).bind fun d => (asgG S0 g d ρ).map .nx := by simp only [evS]
@[simp] theorem s_expr {e : CE} : evS fe (.expr e) ρ = (evE fe e ρ).map fun _ => .nx ρ := by simp only [evS]
@[simp] theorem s_ret {e : CE} : evS fe (.ret e) ρ = (evE fe e ρ).map .rt := by simp only [evS]
@[simp] theorem s_ifs {t : CE} {a b : List CS} : evS fe (.ifs t a b) ρ = (evE fe t ρ).bind fun x => (truth S0 x).bind fun t => if t = true then evSs fe a ρ else evSs fe b ρ := by simp only [evS]
@[simp] theorem s_brk : evS fe .brk ρ = some (.bk ρ) := by simp only [evS]
@[simp] theorem s_pass : evS fe .pass ρ = some (.nx ρ) := by simp only [evS]
@[simp] theorem s_nil : evSs fe [] ρ = some (.nx ρ) := by simp only [evSs]
@[simp] theorem s_cons {s : CS} {r : List CS} : evSs fe (s :: r) ρ = (evS fe s ρ).bind fun o => match o with
    | .nx ρ' => evSs fe r ρ'
    | o => some o := by
  simp only [evSs]
  all_goals (cases evS fe s ρ with
    | none => rfl
    | some o => cases o <;> rfl)
@[simp] theorem g_nm {S : Hs} {i : Nat} {d : D} : asgG S (.nm i) d ρ = if i < ρ.length then some (ρ.set i (some d)) else none := by simp only [asgG]
@[simp] theorem st_var {i : Nat} : (CE.var i).isStar = false := rfl
theorem evMap_map {f : D → Option (Option D)} {g : D → D} : ∀ {xs : List D}, (∀ x ∈ xs, f x = some (some (g x))) → evMap f xs = some (xs.map g)
  | [], _ => rfl
  | x :: xs, h => by
    unfold evMap
    rw [h x List.mem_cons_self, evMap_map fun y hy => h y (List.mem_cons_of_mem _ hy)]
    rfl
theorem evMap_filter {f : D → Option (Option D)} {p : D → Bool} {g : D → D} : ∀ {xs : List D}, (∀ x ∈ xs, f x = some (if p x = true then some (g x) else none)) → evMap f xs = some ((xs.filter p).map g)
  | [], _ => rfl
  | x :: xs, h => by
    unfold evMap
    rw [h x List.mem_cons_self, evMap_filter fun y hy => h y (List.mem_cons_of_mem _ hy)]
    cases e : p x <;> simp [e, List.filter_cons]
theorem ev_map {elt : CE} {cg : CG} {it : CI} {own : List (Str × Nat)} {xs : List D} (g : D → D) (hI : evI fe it ρ = some xs) (hl : xs.length ≤ 1000)
    (h : ∀ x ∈ xs, ∃ ρ2, asgG S0 cg x (wipeD ρ (own.map (·.2))) = some ρ2 ∧ evE fe elt ρ2 = some (g x)) : evE fe (.comp false elt cg it [] own) ρ = some (.lst (xs.map g)) := by
  simp only [evE, evT]
  rw [if_neg Bool.false_ne_true, hI, Option.bind_some, if_pos (Nat.le_trans hl (by decide)), evMap_map (g := g) fun x hx => ?_]
  · rfl
  · obtain ⟨ρ2, e1, e2⟩ := h x hx
    rw [e1, Option.bind_some, Option.bind_some, if_pos rfl, e2]
    rfl
theorem ev_filter {elt t : CE} {cg : CG} {it : CI} {own : List (Str × Nat)} {xs : List D} (p : D → Bool) (g : D → D) (hI : evI fe it ρ = some xs) (hl : xs.length ≤ 1000)
    (h : ∀ x ∈ xs, ∃ ρ2, asgG S0 cg x (wipeD ρ (own.map (·.2))) = some ρ2 ∧ evE fe t ρ2 = some (.bl (p x)) ∧ (p x = true → evE fe elt ρ2 = some (g x))) : evE fe (.comp false elt cg it [t] own) ρ = some (.lst ((xs.filter p).map g)) := by
  simp only [evE, evT]
  rw [if_neg Bool.false_ne_true, hI, Option.bind_some, if_pos (Nat.le_trans hl (by decide)), evMap_filter (p := p) (g := g) fun x hx => ?_]
  · rfl
  · obtain ⟨ρ2, e1, e2, e3⟩ := h x hx
    rw [e1, Option.bind_some, e2, Option.bind_some]
    cases q : p x with
    | true => simp [e3 q]
    | false => simp
end
end Mp

namespace Lw
open PySem PySem.Spec PyProof.Rows L2 Mp
def top (i : Nat) : Stmt := PySem.Challenge.pw_pullsafe_k15_webs_and_habits_told_apart.main.body.getD i (.Pass ⟨0, 0, 0, 0⟩)
abbrev s_is_integer : Stmt := top 1
abbrev s_is_within : Stmt := top 2
abbrev s_is_sequence : Stmt := top 3
abbrev s_is_row : Stmt := top 4
abbrev s_are_below : Stmt := top 5
abbrev s_are_others : Stmt := top 8
abbrev s_is_web_shaped : Stmt := top 9
abbrev s_order_of : Stmt := top 10
abbrev s_is_part : Stmt := top 11
abbrev s_are_apart : Stmt := top 12
abbrev s_is_condition : Stmt := top 13
abbrev s_are_habits : Stmt := top 14
abbrev s_is_web : Stmt := top 16
abbrev s_is_habits : Stmt := top 17
abbrev s__law_so : Stmt := top 19
abbrev s__law_numbers : Stmt := top 20
abbrev s__law_draw : Stmt := top 21
abbrev s__law_take : Stmt := top 22
abbrev s__law_whole : Stmt := top 23
abbrev s__law_listed : Stmt := top 24
abbrev s__law_tupled : Stmt := top 25
abbrev s__law_either : Stmt := top 26
abbrev s__law_handed : Stmt := top 27
abbrev s__law_shuffled : Stmt := top 28
abbrev s__law_web : Stmt := top 29
abbrev s__law_is_web : Stmt := top 30
abbrev s__law_habits_of : Stmt := top 31
abbrev s__law_is_condition : Stmt := top 32
abbrev s__law_is_habits : Stmt := top 33
abbrev s__law_changed_habits : Stmt := top 34
abbrev s__law_spoilt_web : Stmt := top 35
abbrev s_law : Stmt := top 36
abbrev c_MOST_NODES : Mp.D := .int 8
def d_is_integer : He.DefD := ⟨("is_integer", none), "is_integer", "is_integer", defArgs s_is_integer, defBody s_is_integer, defScope s_is_integer, [], []⟩
def d_is_within : He.DefD := ⟨("is_within", none), "is_within", "is_within", defArgs s_is_within, defBody s_is_within, defScope s_is_within, [], []⟩
def d_is_sequence : He.DefD := ⟨("is_sequence", none), "is_sequence", "is_sequence", defArgs s_is_sequence, defBody s_is_sequence, defScope s_is_sequence, [], []⟩
def d_is_row : He.DefD := ⟨("is_row", none), "is_row", "is_row", defArgs s_is_row, defBody s_is_row, defScope s_is_row, [], []⟩
def d_are_below : He.DefD := ⟨("are_below", none), "are_below", "are_below", defArgs s_are_below, defBody s_are_below, defScope s_are_below, [], []⟩
def d_are_others : He.DefD := ⟨("are_others", none), "are_others", "are_others", defArgs s_are_others, defBody s_are_others, defScope s_are_others, [], []⟩
def d_is_web_shaped : He.DefD := ⟨("is_web_shaped", none), "is_web_shaped", "is_web_shaped", defArgs s_is_web_shaped, defBody s_is_web_shaped, defScope s_is_web_shaped, [], []⟩
def d_order_of : He.DefD := ⟨("order_of", none), "order_of", "order_of", defArgs s_order_of, defBody s_order_of, defScope s_order_of, [], []⟩
def d_is_part : He.DefD := ⟨("is_part", none), "is_part", "is_part", defArgs s_is_part, defBody s_is_part, defScope s_is_part, [], []⟩
def d_are_apart : He.DefD := ⟨("are_apart", none), "are_apart", "are_apart", defArgs s_are_apart, defBody s_are_apart, defScope s_are_apart, [], []⟩
def d_is_condition : He.DefD := ⟨("is_condition", none), "is_condition", "is_condition", defArgs s_is_condition, defBody s_is_condition, defScope s_is_condition, [], []⟩
def d_are_habits : He.DefD := ⟨("are_habits", none), "are_habits", "are_habits", defArgs s_are_habits, defBody s_are_habits, defScope s_are_habits, [], []⟩
def d_is_web : He.DefD := ⟨("is_web", none), "is_web", "is_web", defArgs s_is_web, defBody s_is_web, defScope s_is_web, [], []⟩
def d_is_habits : He.DefD := ⟨("is_habits", none), "is_habits", "is_habits", defArgs s_is_habits, defBody s_is_habits, defScope s_is_habits, [], []⟩
def d__law_so : He.DefD := ⟨("_law_so", none), "_law_so", "_law_so", defArgs s__law_so, defBody s__law_so, defScope s__law_so, [], []⟩
def d__law_numbers : He.DefD := ⟨("_law_numbers", none), "_law_numbers", "_law_numbers", defArgs s__law_numbers, defBody s__law_numbers, defScope s__law_numbers, [], []⟩
def d__law_draw : He.DefD := ⟨("_law_draw", none), "_law_draw", "_law_draw", defArgs s__law_draw, defBody s__law_draw, defScope s__law_draw, [], []⟩
def d__law_take : He.DefD := ⟨("_law_take", none), "_law_take", "_law_take", defArgs s__law_take, defBody s__law_take, defScope s__law_take, [], []⟩
def d__law_whole : He.DefD := ⟨("_law_whole", none), "_law_whole", "_law_whole", defArgs s__law_whole, defBody s__law_whole, defScope s__law_whole, [], []⟩
def d__law_listed : He.DefD := ⟨("_law_listed", none), "_law_listed", "_law_listed", defArgs s__law_listed, defBody s__law_listed, defScope s__law_listed, [], []⟩
def d__law_tupled : He.DefD := ⟨("_law_tupled", none), "_law_tupled", "_law_tupled", defArgs s__law_tupled, defBody s__law_tupled, defScope s__law_tupled, [], []⟩
def d__law_either : He.DefD := ⟨("_law_either", none), "_law_either", "_law_either", defArgs s__law_either, defBody s__law_either, defScope s__law_either, [], []⟩
def d__law_handed : He.DefD := ⟨("_law_handed", none), "_law_handed", "_law_handed", defArgs s__law_handed, defBody s__law_handed, defScope s__law_handed, [], []⟩
def d__law_shuffled : He.DefD := ⟨("_law_shuffled", none), "_law_shuffled", "_law_shuffled", defArgs s__law_shuffled, defBody s__law_shuffled, defScope s__law_shuffled, [], []⟩
def d__law_web : He.DefD := ⟨("_law_web", none), "_law_web", "_law_web", defArgs s__law_web, defBody s__law_web, defScope s__law_web, [], []⟩
def d__law_is_web : He.DefD := ⟨("_law_is_web", none), "_law_is_web", "_law_is_web", defArgs s__law_is_web, defBody s__law_is_web, defScope s__law_is_web, [], []⟩
def d__law_habits_of : He.DefD := ⟨("_law_habits_of", none), "_law_habits_of", "_law_habits_of", defArgs s__law_habits_of, defBody s__law_habits_of, defScope s__law_habits_of, [], []⟩
def d__law_is_condition : He.DefD := ⟨("_law_is_condition", none), "_law_is_condition", "_law_is_condition", defArgs s__law_is_condition, defBody s__law_is_condition, defScope s__law_is_condition, [], []⟩
def d__law_is_habits : He.DefD := ⟨("_law_is_habits", none), "_law_is_habits", "_law_is_habits", defArgs s__law_is_habits, defBody s__law_is_habits, defScope s__law_is_habits, [], []⟩
def d__law_changed_habits : He.DefD := ⟨("_law_changed_habits", none), "_law_changed_habits", "_law_changed_habits", defArgs s__law_changed_habits, defBody s__law_changed_habits, defScope s__law_changed_habits, [], []⟩
def d__law_spoilt_web : He.DefD := ⟨("_law_spoilt_web", none), "_law_spoilt_web", "_law_spoilt_web", defArgs s__law_spoilt_web, defBody s__law_spoilt_web, defScope s__law_spoilt_web, [], []⟩
def d_law : He.DefD := ⟨("law", none), "law", "law", defArgs s_law, defBody s_law, defScope s_law, [], []⟩
def f_is_integer : Fn := ⟨["value"], ["value"], [
  .ret (.and (.isi (.var 0) [.int]) (.not (.isi (.var 0) [.bool])))]⟩
def f_is_within : Fn := ⟨["value", "low", "high"], ["value", "low", "high"], [
  .ret (.and (.call "is_integer" [.var 0]) (.cmp2 .LtE .LtE (.var 1) (.var 0) (.var 2)))]⟩
def f_is_sequence : Fn := ⟨["value"], ["value"], [
  .ret (.isi (.var 0) [.list, .tuple])]⟩
def f_is_row : Fn := ⟨["value", "least", "most"], ["value", "least", "most"], [
  .ret (.and (.call "is_sequence" [.var 0]) (.cmp2 .LtE .LtE (.var 1) (.bi .len [.var 0]) (.var 2)))]⟩
def f_are_below : Fn := ⟨["value", "many"], ["value", "many", "at", "number"], [
  .ifs (.or (.not (.call "is_sequence" [.var 0])) (.not (.bi .all [.comp false (.call "is_within" [.var 3, .con (.int 0), .op .Sub (.var 1) (.con (.int 1))]) (.nm 3) (.seq (.var 0)) [] [("number", 3)]]))) [
    .ret (.con (.bl false))] [],
  .ret (.bi .all [.comp false (.cmp .Lt (.idx (.var 0) (.op .Sub (.var 2) (.con (.int 1)))) (.idx (.var 0) (.var 2))) (.nm 2) (.rng [.con (.int 1), .bi .len [.var 0]]) [] [("at", 2)]])]⟩
def f_are_others : Fn := ⟨["value", "node", "many"], ["value", "node", "many"], [
  .ret (.and (.call "are_below" [.var 0, .var 2]) (.cmp .NotIn (.var 1) (.var 0)))]⟩
def f_is_web_shaped : Fn := ⟨["value"], ["value", "node", "suppliers"], [
  .ifs (.not (.call "is_row" [.var 0, .con (.int 1), .glob "MOST_NODES" c_MOST_NODES])) [
    .ret (.con (.bl false))] [],
  .ifs (.not (.bi .all [.comp false (.call "are_others" [.var 2, .var 1, .bi .len [.var 0]]) (.tg [.nm 1, .nm 2]) (.enum (.var 0)) [] [("node", 1), ("suppliers", 2)]])) [
    .ret (.con (.bl false))] [],
  .ret (.cmp .Eq (.bi .len [.call "order_of" [.var 0]]) (.bi .len [.var 0]))]⟩
def f_order_of : Fn := ⟨["web"], ["web", "found", "grown", "more", "node"], [
  .asg (.nm 1) (.nlst []),
  .asg (.nm 2) (.con (.bl true)),
  .whl (.var 2) [
    .asg (.nm 3) (.comp false (.var 4) (.nm 4) (.rng [.bi .len [.var 0]]) [.and (.cmp .NotIn (.var 4) (.var 1)) (.call "is_part" [.idx (.var 0) (.var 4), .var 1])] [("node", 4)]),
    .expr (.meth .extend (.var 1) [.var 3]),
    .asg (.nm 2) (.cmp .Gt (.bi .len [.var 3]) (.con (.int 0)))],
  .frz 1,
  .ret (.var 1)]⟩
def f_is_part : Fn := ⟨["one", "other"], ["one", "other", "member"], [
  .ret (.bi .all [.comp false (.cmp .In (.var 2) (.var 1)) (.nm 2) (.seq (.var 0)) [] [("member", 2)]])]⟩
def f_are_apart : Fn := ⟨["one", "other"], ["one", "other", "member"], [
  .ret (.not (.bi .any [.comp false (.cmp .In (.var 2) (.var 1)) (.nm 2) (.seq (.var 0)) [] [("member", 2)]]))]⟩
def f_is_condition : Fn := ⟨["value", "node", "many"], ["value", "node", "many", "nodes"], [
  .ifs (.or (.not (.call "is_row" [.var 0, .con (.int 2), .con (.int 2)])) (.not (.bi .all [.comp false (.call "are_others" [.var 3, .var 1, .var 2]) (.nm 3) (.seq (.var 0)) [] [("nodes", 3)]]))) [
    .ret (.con (.bl false))] [],
  .ret (.call "are_apart" [.idx (.var 0) (.con (.int 0)), .idx (.var 0) (.con (.int 1))])]⟩
def f_are_habits : Fn := ⟨["value"], ["value", "node", "pair", "one"], [
  .ifs (.not (.call "is_row" [.var 0, .con (.int 1), .glob "MOST_NODES" c_MOST_NODES])) [
    .ret (.con (.bl false))] [],
  .forr (.tg [.nm 1, .nm 2]) (.enum (.var 0)) [
    .ifs (.or (.not (.call "is_row" [.var 2, .con (.int 2), .con (.int 2)])) (.not (.bi .all [.comp false (.call "is_condition" [.var 3, .var 1, .bi .len [.var 0]]) (.nm 3) (.seq (.var 2)) [] [("one", 3)]]))) [
      .ret (.con (.bl false))] []],
  .ret (.con (.bl true))]⟩
def f_is_web : Fn := ⟨["value"], ["value"], [
  .ret (.call "is_web_shaped" [.var 0])]⟩
def f_is_habits : Fn := ⟨["value"], ["value"], [
  .ret (.call "are_habits" [.var 0])]⟩
def f__law_so : Fn := ⟨["found", "meant"], ["found", "meant", "k"], [
  .ifs (.cmp .Is (.var 1) (.con .non)) [
    .ret (.cmp .Is (.var 0) (.con .non))] [],
  .ifs (.isi (.var 1) [.tuple]) [
    .ifs (.or (.not (.isi (.var 0) [.tuple])) (.cmp .NotEq (.bi .len [.var 0]) (.bi .len [.var 1]))) [
      .ret (.con (.bl false))] [],
    .forr (.nm 2) (.rng [.bi .len [.var 1]]) [
      .ifs (.not (.call "_law_so" [.idx (.var 0) (.var 2), .idx (.var 1) (.var 2)])) [
        .ret (.con (.bl false))] []],
    .ret (.con (.bl true))] [],
  .ifs (.or (.isi (.var 1) [.bool]) (.isi (.var 0) [.bool])) [
    .ret (.and (.isi (.var 1) [.bool]) (.and (.isi (.var 0) [.bool]) (.cmp .Eq (.var 0) (.var 1))))] [],
  .ifs (.isi (.var 1) [.int]) [
    .ret (.and (.isi (.var 0) [.int]) (.cmp .Eq (.var 0) (.var 1)))] [],
  .ret (.and (.isi (.var 1) [.str]) (.and (.isi (.var 0) [.str]) (.cmp .Eq (.var 0) (.var 1))))]⟩
def f__law_numbers : Fn := ⟨["script"], ["script", "row", "cell", "left", "k", "mixed"], [
  .asg (.nm 1) (.nlst []),
  .forr (.nm 2) (.seq (.sl (.var 0) none (some (.con (.int 63))))) [
    .ifs (.cmp .GtE (.var 2) (.op .Pow (.con (.int 10)) (.con (.int 18)))) [
      .asg (.nm 3) (.var 2),
      .forr (.nm 4) (.rng [.con (.int 60)]) [
        .ifs (.cmp .Eq (.var 3) (.con (.int 0))) [
          .brk] [],
        .expr (.meth .append (.var 1) [.op .Mod (.bi .int [.var 3]) (.con (.int 997))]),
        .asg (.nm 3) (.op .FloorDiv (.var 3) (.con (.int 997)))]] [
      .forr (.nm 4) (.rng [.con (.int 4)]) [
        .asg (.nm 5) (.op .Mod (.bi .int [.op .Add (.op .Add (.op .Mult (.var 2) (.con (.int 48271))) (.op .Mult (.var 4) (.con (.int 69621)))) (.con (.int 11))]) (.con (.int 2147483647))),
        .expr (.meth .append (.var 1) [.op .Mod (.bi .int [.op .Add (.op .Mult (.var 5) (.con (.int 16807))) (.var 4)]) (.con (.int 2147483629))])]]],
  .ifs (.cmp .Eq (.bi .len [.var 1]) (.con (.int 0))) [
    .expr (.meth .append (.var 1) [.con (.int 0)])] [],
  .frz 1,
  .ret (.var 1)]⟩
def f__law_draw : Fn := ⟨["row", "at", "limit"], ["row", "at", "limit", "mixed"], [
  .ifs (.cmp .Lt (.var 1) (.bi .len [.var 0])) [
    .ret (.op .Mod (.bi .int [.idx (.var 0) (.var 1)]) (.var 2))] [],
  .asg (.nm 3) (.op .Mod (.bi .int [.op .Add (.op .Add (.op .Mult (.idx (.var 0) (.op .Mod (.bi .int [.var 1]) (.bi .len [.var 0]))) (.con (.int 40692))) (.op .Mult (.var 1) (.con (.int 7919)))) (.con (.int 3))]) (.con (.int 2147483399))),
  .ret (.op .Mod (.bi .int [.op .Mod (.bi .int [.op .Add (.op .Mult (.var 3) (.con (.int 48271))) (.var 1)]) (.con (.int 2147483647))]) (.var 2))]⟩
def f__law_take : Fn := ⟨["row", "spot", "limit"], ["row", "spot", "limit"], [
  .asgIx (.var 1) (.con (.int 0)) (.op .Add (.idx (.var 1) (.con (.int 0))) (.con (.int 1))),
  .ret (.call "_law_draw" [.var 0, .op .Sub (.idx (.var 1) (.con (.int 0))) (.con (.int 1)), .var 2])]⟩
def f__law_whole : Fn := ⟨["value"], ["value"], [
  .ret (.and (.isi (.var 0) [.int]) (.not (.isi (.var 0) [.bool])))]⟩
def f__law_listed : Fn := ⟨["value"], ["value", "one"], [
  .ifs (.isi (.var 0) [.tuple]) [
    .ret (.comp false (.call "_law_listed" [.var 1]) (.nm 1) (.seq (.var 0)) [] [("one", 1)])] [],
  .ret (.var 0)]⟩
def f__law_tupled : Fn := ⟨["value"], ["value", "one"], [
  .ifs (.or (.isi (.var 0) [.list]) (.isi (.var 0) [.tuple])) [
    .ret (.bi .tuple [.comp false (.call "_law_tupled" [.var 1]) (.nm 1) (.seq (.var 0)) [] [("one", 1)]])] [],
  .ret (.var 0)]⟩
def f__law_either : Fn := ⟨["row", "spot", "value"], ["row", "spot", "value", "parts", "one"], [
  .ifs (.isi (.var 2) [.tuple]) [
    .asg (.nm 3) (.comp false (.call "_law_either" [.var 0, .var 1, .var 4]) (.nm 4) (.seq (.var 2)) [] [("one", 4)]),
    .ret (.ite (.cmp .Eq (.call "_law_take" [.var 0, .var 1, .con (.int 2)]) (.con (.int 0))) (.var 3) (.bi .tuple [.var 3]))] [],
  .ret (.var 2)]⟩
def f__law_handed : Fn := ⟨["row", "spot", "value"], ["row", "spot", "value", "kind"], [
  .asg (.nm 3) (.call "_law_take" [.var 0, .var 1, .con (.int 3)]),
  .ifs (.cmp .Eq (.var 3) (.con (.int 2))) [
    .ret (.call "_law_either" [.var 0, .var 1, .var 2])] [],
  .ret (.ite (.cmp .Eq (.var 3) (.con (.int 0))) (.call "_law_listed" [.var 2]) (.var 2))]⟩
def f__law_shuffled : Fn := ⟨["row", "spot", "many"], ["row", "spot", "many", "left", "made", "k"], [
  .asg (.nm 3) (.lrng true [.var 2]),
  .asg (.nm 4) (.nlst []),
  .forr (.nm 5) (.rng [.var 2]) [
    .expr (.meth .append (.var 4) [.meth .popAt (.var 3) [.call "_law_take" [.var 0, .var 1, .bi .len [.var 3]]]])],
  .frz 4,
  .ret (.var 4)]⟩
def f__law_web : Fn := ⟨["row", "spot"], ["row", "spot", "many", "order", "often", "made", "k", "at"], [
  .asg (.nm 2) (.op .Add (.con (.int 1)) (.call "_law_take" [.var 0, .var 1, .con (.int 8)])),
  .asg (.nm 3) (.call "_law_shuffled" [.var 0, .var 1, .var 2]),
  .asg (.nm 4) (.op .Add (.con (.int 2)) (.call "_law_take" [.var 0, .var 1, .con (.int 3)])),
  .asg (.nm 5) (.comp true (.tup []) (.nm 6) (.rng [.var 2]) [] [("k", 6)]),
  .forr (.nm 6) (.rng [.var 2]) [
    .asgIx (.var 5) (.idx (.var 3) (.var 6)) (.bi .tuple [.bi .sorted [.comp false (.idx (.var 3) (.var 7)) (.nm 7) (.rng [.var 6]) [.cmp .Eq (.call "_law_take" [.var 0, .var 1, .var 4]) (.con (.int 0))] [("at", 7)]]])],
  .ret (.bi .tuple [.var 5])]⟩
def f__law_is_web : Fn := ⟨["value"], ["value", "n", "left", "step", "one", "k"], [
  .ifs (.or (.not (.isi (.var 0) [.tuple])) (.not (.cmp2 .LtE .LtE (.con (.int 1)) (.bi .len [.var 0]) (.con (.int 8))))) [
    .ret (.con (.bl false))] [],
  .forr (.nm 1) (.rng [.bi .len [.var 0]]) [
    .asg (.nm 4) (.idx (.var 0) (.var 1)),
    .ifs (.or (.not (.isi (.var 4) [.tuple])) (.cmp .Gt (.bi .len [.comp false (.var 5) (.nm 5) (.seq (.var 4)) [.not (.call "_law_whole" [.var 5])] [("k", 5)]]) (.con (.int 0)))) [
      .ret (.con (.bl false))] [],
    .forr (.nm 5) (.rng [.bi .len [.var 4]]) [
      .ifs (.or (.not (.cmp2 .LtE .Lt (.con (.int 0)) (.idx (.var 4) (.var 5)) (.bi .len [.var 0]))) (.or (.cmp .Eq (.idx (.var 4) (.var 5)) (.var 1)) (.and (.cmp .Gt (.var 5) (.con (.int 0))) (.cmp .GtE (.idx (.var 4) (.op .Sub (.var 5) (.con (.int 1)))) (.idx (.var 4) (.var 5)))))) [
        .ret (.con (.bl false))] []]],
  .asg (.nm 2) (.lrng false [.bi .len [.var 0]]),
  .forr (.nm 3) (.rng [.con (.int 8)]) [
    .asg (.nm 2) (.comp false (.var 1) (.nm 1) (.seq (.var 2)) [.cmp .Gt (.bi .len [.comp false (.var 5) (.nm 5) (.seq (.idx (.var 0) (.var 1))) [.cmp .In (.var 5) (.var 2)] [("k", 5)]]) (.con (.int 0))] [("n", 1)])],
  .ret (.cmp .Eq (.bi .len [.var 2]) (.con (.int 0)))]⟩
def f__law_habits_of : Fn := ⟨["web"], ["web", "many", "n", "k"], [
  .asg (.nm 1) (.bi .len [.var 0]),
  .ret (.bi .tuple [.comp false (.tup [.tup [.idx (.var 0) (.var 2), .tup []], .tup [.tup [], .bi .tuple [.comp false (.var 3) (.nm 3) (.rng [.var 1]) [.cmp .In (.var 2) (.idx (.var 0) (.var 3))] [("k", 3)]]]]) (.nm 2) (.rng [.var 1]) [] [("n", 2)]])]⟩
def f__law_is_condition : Fn := ⟨["value", "many", "n"], ["value", "many", "n", "one", "k"], [
  .ifs (.or (.not (.isi (.var 0) [.tuple])) (.cmp .NotEq (.bi .len [.var 0]) (.con (.int 2)))) [
    .ret (.con (.bl false))] [],
  .forr (.nm 3) (.seq (.var 0)) [
    .ifs (.or (.not (.isi (.var 3) [.tuple])) (.cmp .Gt (.bi .len [.comp false (.var 4) (.nm 4) (.seq (.var 3)) [.not (.call "_law_whole" [.var 4])] [("k", 4)]]) (.con (.int 0)))) [
      .ret (.con (.bl false))] [],
    .forr (.nm 4) (.rng [.bi .len [.var 3]]) [
      .ifs (.or (.not (.cmp2 .LtE .Lt (.con (.int 0)) (.idx (.var 3) (.var 4)) (.var 1))) (.or (.cmp .Eq (.idx (.var 3) (.var 4)) (.var 2)) (.and (.cmp .Gt (.var 4) (.con (.int 0))) (.cmp .GtE (.idx (.var 3) (.op .Sub (.var 4) (.con (.int 1)))) (.idx (.var 3) (.var 4)))))) [
        .ret (.con (.bl false))] []]],
  .ret (.cmp .Eq (.bi .len [.comp false (.var 4) (.nm 4) (.seq (.idx (.var 0) (.con (.int 0)))) [.cmp .In (.var 4) (.idx (.var 0) (.con (.int 1)))] [("k", 4)]]) (.con (.int 0)))]⟩
def f__law_is_habits : Fn := ⟨["value"], ["value", "n", "one"], [
  .ifs (.or (.not (.isi (.var 0) [.tuple])) (.not (.cmp2 .LtE .LtE (.con (.int 1)) (.bi .len [.var 0]) (.con (.int 8))))) [
    .ret (.con (.bl false))] [],
  .forr (.nm 1) (.rng [.bi .len [.var 0]]) [
    .asg (.nm 2) (.idx (.var 0) (.var 1)),
    .ifs (.or (.not (.isi (.var 2) [.tuple])) (.cmp .NotEq (.bi .len [.var 2]) (.con (.int 2)))) [
      .ret (.con (.bl false))] [],
    .ifs (.or (.not (.call "_law_is_condition" [.idx (.var 2) (.con (.int 0)), .bi .len [.var 0], .var 1])) (.not (.call "_law_is_condition" [.idx (.var 2) (.con (.int 1)), .bi .len [.var 0], .var 1]))) [
      .ret (.con (.bl false))] []],
  .ret (.con (.bl true))]⟩
def f__law_changed_habits : Fn := ⟨["row", "spot", "habits_here"], ["row", "spot", "habits_here", "many", "n", "other", "one", "condition", "pair", "which", "part", "two"], [
  .asg (.nm 3) (.bi .len [.var 2]),
  .asg (.nm 4) (.call "_law_take" [.var 0, .var 1, .var 3]),
  .asg (.tg [.nm 9, .nm 10]) (.tup [.call "_law_take" [.var 0, .var 1, .con (.int 2)], .call "_law_take" [.var 0, .var 1, .con (.int 2)]]),
  .asg (.nm 5) (.call "_law_take" [.var 0, .var 1, .var 3]),
  .asg (.nm 6) (.comp false (.bin [.var 11]) (.nm 11) (.seq (.idx (.idx (.var 2) (.var 4)) (.var 9))) [] [("two", 11)]),
  .ifs (.cmp .In (.var 5) (.idx (.var 6) (.var 10))) [
    .expr (.meth .remove (.idx (.var 6) (.var 10)) [.var 5])] [
    .ifs (.and (.cmp .NotEq (.var 5) (.var 4)) (.cmp .NotIn (.var 5) (.idx (.var 6) (.op .Sub (.con (.int 1)) (.var 10))))) [
      .expr (.meth .append (.idx (.var 6) (.var 10)) [.var 5])] []],
  .asg (.nm 7) (.tup [.bi .tuple [.bi .sorted [.idx (.var 6) (.con (.int 0))]], .bi .tuple [.bi .sorted [.idx (.var 6) (.con (.int 1))]]]),
  .asg (.nm 8) (.ite (.cmp .Eq (.var 9) (.con (.int 0))) (.tup [.var 7, .idx (.idx (.var 2) (.var 4)) (.con (.int 1))]) (.tup [.idx (.idx (.var 2) (.var 4)) (.con (.int 0)), .var 7])),
  .ret (.op .Add (.op .Add (.sl (.var 2) none (some (.var 4))) (.tup [.var 8])) (.sl (.var 2) (some (.op .Add (.var 4) (.con (.int 1)))) none))]⟩
def f__law_spoilt_web : Fn := ⟨["row", "spot", "value"], ["row", "spot", "value", "turn", "at"], [
  .ifs (.and (.isi (.var 2) [.tuple]) (.and (.cmp .Gt (.bi .len [.var 2]) (.con (.int 0))) (.cmp .Gt (.call "_law_take" [.var 0, .var 1, .con (.int 5)]) (.con (.int 0))))) [
    .asg (.nm 4) (.call "_law_take" [.var 0, .var 1, .bi .len [.var 2]]),
    .ret (.op .Add (.op .Add (.sl (.var 2) none (some (.var 4))) (.tup [.call "_law_spoilt_web" [.var 0, .var 1, .idx (.var 2) (.var 4)]])) (.sl (.var 2) (some (.op .Add (.var 4) (.con (.int 1)))) none))] [],
  .asg (.nm 3) (.call "_law_take" [.var 0, .var 1, .con (.int 6)]),
  .ifs (.and (.isi (.var 2) [.tuple]) (.and (.cmp .Eq (.var 3) (.con (.int 0))) (.cmp .Gt (.bi .len [.var 2]) (.con (.int 0))))) [
    .ret (.op .Add (.var 2) (.sl (.var 2) none (some (.con (.int 1)))))] [],
  .ifs (.and (.isi (.var 2) [.tuple]) (.and (.cmp .Eq (.var 3) (.con (.int 1))) (.cmp .Gt (.bi .len [.var 2]) (.con (.int 0))))) [
    .ret (.sl (.var 2) (some (.con (.int 1))) none)] [],
  .ifs (.and (.isi (.var 2) [.tuple]) (.and (.cmp .Eq (.var 3) (.con (.int 2))) (.cmp .Gt (.bi .len [.var 2]) (.con (.int 1))))) [
    .ret (.op .Add (.sl (.var 2) (some (.con (.int 1))) none) (.sl (.var 2) none (some (.con (.int 1)))))] [],
  .ifs (.and (.isi (.var 2) [.int]) (.cmp .Lt (.var 3) (.con (.int 4)))) [
    .ret (.idx (.lst [.op .Add (.var 2) (.con (.int 1)), .op .Sub (.var 2) (.con (.int 1)), .con (.int 0), .con (.int 1), .con (.int 2), .con (.int 7), .con (.int 8), .con .non, .con (.bl true)]) (.call "_law_take" [.var 0, .var 1, .con (.int 9)]))] [],
  .ret (.idx (.lst [.con .non, .con (.int 7), .con (.bl true), .con (.str ""), .tup [], .tup [.con (.int 0)], .tup [.con (.int 1)], .tup [.tup [], .tup []], .tup [.tup [.tup [], .tup []], .tup [.tup [], .tup []]], .tup [.con (.int 2), .con (.int 1)]]) (.call "_law_take" [.var 0, .var 1, .con (.int 10)]))]⟩
def f_law : Fn := ⟨["script"], ["script", "row", "spot", "web", "own", "handed", "again", "value", "changed"], [
  .asg (.nm 1) (.call "_law_numbers" [.var 0]),
  .asg (.nm 2) (.nlst [.con (.int 0)]),
  .asg (.nm 3) (.call "_law_web" [.var 1, .var 2]),
  .asg (.nm 4) (.call "_law_changed_habits" [.var 1, .var 2, .call "_law_habits_of" [.var 3]]),
  .asg (.nm 5) (.call "_law_handed" [.var 1, .var 2, .var 3]),
  .ifs (.or (.not (.call "_law_so" [.callk "is_web" [] ["value"] [.var 5], .con (.bl true)])) (.not (.call "_law_so" [.call "_law_tupled" [.var 5], .var 3]))) [
    .ret (.con (.bl false))] [],
  .ifs (.not (.call "_law_so" [.callk "is_habits" [] ["value"] [.call "_law_handed" [.var 1, .var 2, .var 4]], .con (.bl true)])) [
    .ret (.con (.bl false))] [],
  .forr (.nm 6) (.rng [.con (.int 8)]) [
    .asg (.nm 8) (.call "_law_spoilt_web" [.var 1, .var 2, .var 3]),
    .ifs (.not (.call "_law_so" [.call "is_web" [.call "_law_handed" [.var 1, .var 2, .var 8]], .call "_law_is_web" [.var 8]])) [
      .ret (.con (.bl false))] [],
    .asg (.nm 8) (.call "_law_spoilt_web" [.var 1, .var 2, .var 4]),
    .ifs (.not (.call "_law_so" [.call "is_habits" [.call "_law_handed" [.var 1, .var 2, .var 8]], .call "_law_is_habits" [.var 8]])) [
      .ret (.con (.bl false))] []],
  .forr (.nm 7) (.seq (.tup [.tup [.tup [.con (.int 1)], .tup [.con (.int 0)]], .tup [.tup [.con (.int 1)], .tup [.con (.int 2)], .tup [.con (.int 0)]], .tup [.tup [], .tup [.con (.int 0)], .tup [.con (.int 1)]], .tup [.tup [.con (.int 2)], .tup [.con (.int 0)], .tup []], .op .Mult (.tup [.tup []]) (.con (.int 8)), .op .Mult (.tup [.tup []]) (.con (.int 9)), .tup [], .tup [.tup [.con (.int 0)]], .tup [.tup [.con (.int 1)], .tup []]])) [
    .ifs (.not (.call "_law_so" [.call "is_web" [.call "_law_handed" [.var 1, .var 2, .var 7]], .call "_law_is_web" [.var 7]])) [
      .ret (.con (.bl false))] []],
  .ret (.con (.bl true))]⟩
def rows : List Mp.Row := [(d_is_integer, f_is_integer), (d_is_within, f_is_within), (d_is_sequence, f_is_sequence), (d_is_row, f_is_row), (d_are_below, f_are_below), (d_are_others, f_are_others), (d_is_web_shaped, f_is_web_shaped), (d_order_of, f_order_of), (d_is_part, f_is_part), (d_are_apart, f_are_apart), (d_is_condition, f_is_condition), (d_are_habits, f_are_habits), (d_is_web, f_is_web), (d_is_habits, f_is_habits), (d__law_so, f__law_so), (d__law_numbers, f__law_numbers), (d__law_draw, f__law_draw), (d__law_take, f__law_take), (d__law_whole, f__law_whole), (d__law_listed, f__law_listed), (d__law_tupled, f__law_tupled), (d__law_either, f__law_either), (d__law_handed, f__law_handed), (d__law_shuffled, f__law_shuffled), (d__law_web, f__law_web), (d__law_is_web, f__law_is_web), (d__law_habits_of, f__law_habits_of), (d__law_is_condition, f__law_is_condition), (d__law_is_habits, f__law_is_habits), (d__law_changed_habits, f__law_changed_habits), (d__law_spoilt_web, f__law_spoilt_web), (d_law, f_law)]
def cons : List (Str × Mp.D) := [("MOST_NODES", c_MOST_NODES)]
def free : List Str := ["all", "any", "bool", "enumerate", "int", "isinstance", "len", "list", "range", "sorted", "str", "tuple"]
def T : Tab := ⟨rowsFn rows, fun _ => none, fun _ _ => false⟩
theorem b_is_integer : BindOk d_is_integer f_is_integer.ps := ⟨fun _ _ _ _ _ _ us hl => match us, hl with | [_], _ => rfl, fun _ _ _ _ _ _ us hl => match us, hl with | [_], _ => rfl⟩
theorem b_is_within : BindOk d_is_within f_is_within.ps := ⟨fun _ _ _ _ _ _ us hl => match us, hl with | [_, _, _], _ => rfl, fun _ _ _ _ _ _ us hl => match us, hl with | [_, _, _], _ => rfl⟩
theorem b_is_sequence : BindOk d_is_sequence f_is_sequence.ps := ⟨fun _ _ _ _ _ _ us hl => match us, hl with | [_], _ => rfl, fun _ _ _ _ _ _ us hl => match us, hl with | [_], _ => rfl⟩
theorem b_is_row : BindOk d_is_row f_is_row.ps := ⟨fun _ _ _ _ _ _ us hl => match us, hl with | [_, _, _], _ => rfl, fun _ _ _ _ _ _ us hl => match us, hl with | [_, _, _], _ => rfl⟩
theorem b_are_below : BindOk d_are_below f_are_below.ps := ⟨fun _ _ _ _ _ _ us hl => match us, hl with | [_, _], _ => rfl, fun _ _ _ _ _ _ us hl => match us, hl with | [_, _], _ => rfl⟩
theorem b_are_others : BindOk d_are_others f_are_others.ps := ⟨fun _ _ _ _ _ _ us hl => match us, hl with | [_, _, _], _ => rfl, fun _ _ _ _ _ _ us hl => match us, hl with | [_, _, _], _ => rfl⟩
theorem b_is_web_shaped : BindOk d_is_web_shaped f_is_web_shaped.ps := ⟨fun _ _ _ _ _ _ us hl => match us, hl with | [_], _ => rfl, fun _ _ _ _ _ _ us hl => match us, hl with | [_], _ => rfl⟩
theorem b_order_of : BindOk d_order_of f_order_of.ps := ⟨fun _ _ _ _ _ _ us hl => match us, hl with | [_], _ => rfl, fun _ _ _ _ _ _ us hl => match us, hl with | [_], _ => rfl⟩
theorem b_is_part : BindOk d_is_part f_is_part.ps := ⟨fun _ _ _ _ _ _ us hl => match us, hl with | [_, _], _ => rfl, fun _ _ _ _ _ _ us hl => match us, hl with | [_, _], _ => rfl⟩
theorem b_are_apart : BindOk d_are_apart f_are_apart.ps := ⟨fun _ _ _ _ _ _ us hl => match us, hl with | [_, _], _ => rfl, fun _ _ _ _ _ _ us hl => match us, hl with | [_, _], _ => rfl⟩
theorem b_is_condition : BindOk d_is_condition f_is_condition.ps := ⟨fun _ _ _ _ _ _ us hl => match us, hl with | [_, _, _], _ => rfl, fun _ _ _ _ _ _ us hl => match us, hl with | [_, _, _], _ => rfl⟩
theorem b_are_habits : BindOk d_are_habits f_are_habits.ps := ⟨fun _ _ _ _ _ _ us hl => match us, hl with | [_], _ => rfl, fun _ _ _ _ _ _ us hl => match us, hl with | [_], _ => rfl⟩
theorem b_is_web : BindOk d_is_web f_is_web.ps := ⟨fun _ _ _ _ _ _ us hl => match us, hl with | [_], _ => rfl, fun _ _ _ _ _ _ us hl => match us, hl with | [_], _ => rfl⟩
theorem b_is_habits : BindOk d_is_habits f_is_habits.ps := ⟨fun _ _ _ _ _ _ us hl => match us, hl with | [_], _ => rfl, fun _ _ _ _ _ _ us hl => match us, hl with | [_], _ => rfl⟩
theorem b__law_so : BindOk d__law_so f__law_so.ps := ⟨fun _ _ _ _ _ _ us hl => match us, hl with | [_, _], _ => rfl, fun _ _ _ _ _ _ us hl => match us, hl with | [_, _], _ => rfl⟩
theorem b__law_numbers : BindOk d__law_numbers f__law_numbers.ps := ⟨fun _ _ _ _ _ _ us hl => match us, hl with | [_], _ => rfl, fun _ _ _ _ _ _ us hl => match us, hl with | [_], _ => rfl⟩
theorem b__law_draw : BindOk d__law_draw f__law_draw.ps := ⟨fun _ _ _ _ _ _ us hl => match us, hl with | [_, _, _], _ => rfl, fun _ _ _ _ _ _ us hl => match us, hl with | [_, _, _], _ => rfl⟩
theorem b__law_take : BindOk d__law_take f__law_take.ps := ⟨fun _ _ _ _ _ _ us hl => match us, hl with | [_, _, _], _ => rfl, fun _ _ _ _ _ _ us hl => match us, hl with | [_, _, _], _ => rfl⟩
theorem b__law_whole : BindOk d__law_whole f__law_whole.ps := ⟨fun _ _ _ _ _ _ us hl => match us, hl with | [_], _ => rfl, fun _ _ _ _ _ _ us hl => match us, hl with | [_], _ => rfl⟩
theorem b__law_listed : BindOk d__law_listed f__law_listed.ps := ⟨fun _ _ _ _ _ _ us hl => match us, hl with | [_], _ => rfl, fun _ _ _ _ _ _ us hl => match us, hl with | [_], _ => rfl⟩
theorem b__law_tupled : BindOk d__law_tupled f__law_tupled.ps := ⟨fun _ _ _ _ _ _ us hl => match us, hl with | [_], _ => rfl, fun _ _ _ _ _ _ us hl => match us, hl with | [_], _ => rfl⟩
theorem b__law_either : BindOk d__law_either f__law_either.ps := ⟨fun _ _ _ _ _ _ us hl => match us, hl with | [_, _, _], _ => rfl, fun _ _ _ _ _ _ us hl => match us, hl with | [_, _, _], _ => rfl⟩
theorem b__law_handed : BindOk d__law_handed f__law_handed.ps := ⟨fun _ _ _ _ _ _ us hl => match us, hl with | [_, _, _], _ => rfl, fun _ _ _ _ _ _ us hl => match us, hl with | [_, _, _], _ => rfl⟩
theorem b__law_shuffled : BindOk d__law_shuffled f__law_shuffled.ps := ⟨fun _ _ _ _ _ _ us hl => match us, hl with | [_, _, _], _ => rfl, fun _ _ _ _ _ _ us hl => match us, hl with | [_, _, _], _ => rfl⟩
theorem b__law_web : BindOk d__law_web f__law_web.ps := ⟨fun _ _ _ _ _ _ us hl => match us, hl with | [_, _], _ => rfl, fun _ _ _ _ _ _ us hl => match us, hl with | [_, _], _ => rfl⟩
theorem b__law_is_web : BindOk d__law_is_web f__law_is_web.ps := ⟨fun _ _ _ _ _ _ us hl => match us, hl with | [_], _ => rfl, fun _ _ _ _ _ _ us hl => match us, hl with | [_], _ => rfl⟩
theorem b__law_habits_of : BindOk d__law_habits_of f__law_habits_of.ps := ⟨fun _ _ _ _ _ _ us hl => match us, hl with | [_], _ => rfl, fun _ _ _ _ _ _ us hl => match us, hl with | [_], _ => rfl⟩
theorem b__law_is_condition : BindOk d__law_is_condition f__law_is_condition.ps := ⟨fun _ _ _ _ _ _ us hl => match us, hl with | [_, _, _], _ => rfl, fun _ _ _ _ _ _ us hl => match us, hl with | [_, _, _], _ => rfl⟩
theorem b__law_is_habits : BindOk d__law_is_habits f__law_is_habits.ps := ⟨fun _ _ _ _ _ _ us hl => match us, hl with | [_], _ => rfl, fun _ _ _ _ _ _ us hl => match us, hl with | [_], _ => rfl⟩
theorem b__law_changed_habits : BindOk d__law_changed_habits f__law_changed_habits.ps := ⟨fun _ _ _ _ _ _ us hl => match us, hl with | [_, _, _], _ => rfl, fun _ _ _ _ _ _ us hl => match us, hl with | [_, _, _], _ => rfl⟩
theorem b__law_spoilt_web : BindOk d__law_spoilt_web f__law_spoilt_web.ps := ⟨fun _ _ _ _ _ _ us hl => match us, hl with | [_, _, _], _ => rfl, fun _ _ _ _ _ _ us hl => match us, hl with | [_, _, _], _ => rfl⟩
theorem b_law : BindOk d_law f_law.ps := ⟨fun _ _ _ _ _ _ us hl => match us, hl with | [_], _ => rfl, fun _ _ _ _ _ _ us hl => match us, hl with | [_], _ => rfl⟩
theorem binds : ∀ p ∈ rows, BindOk p.1 p.2.ps := by
  unfold rows
  simp only [List.mem_cons, List.not_mem_nil, or_false]
  rintro p (rfl | rfl | rfl | rfl | rfl | rfl | rfl | rfl | rfl | rfl | rfl | rfl | rfl | rfl | rfl | rfl | rfl | rfl | rfl | rfl | rfl | rfl | rfl | rfl | rfl | rfl | rfl | rfl | rfl | rfl | rfl | rfl)
  · exact b_is_integer
  · exact b_is_within
  · exact b_is_sequence
  · exact b_is_row
  · exact b_are_below
  · exact b_are_others
  · exact b_is_web_shaped
  · exact b_order_of
  · exact b_is_part
  · exact b_are_apart
  · exact b_is_condition
  · exact b_are_habits
  · exact b_is_web
  · exact b_is_habits
  · exact b__law_so
  · exact b__law_numbers
  · exact b__law_draw
  · exact b__law_take
  · exact b__law_whole
  · exact b__law_listed
  · exact b__law_tupled
  · exact b__law_either
  · exact b__law_handed
  · exact b__law_shuffled
  · exact b__law_web
  · exact b__law_is_web
  · exact b__law_habits_of
  · exact b__law_is_condition
  · exact b__law_is_habits
  · exact b__law_changed_habits
  · exact b__law_spoilt_web
  · exact b_law
theorem r_is_integer : rowB rows cons free (d_is_integer, f_is_integer) = true := by kernel_rfl
theorem r_is_within : rowB rows cons free (d_is_within, f_is_within) = true := by kernel_rfl
theorem r_is_sequence : rowB rows cons free (d_is_sequence, f_is_sequence) = true := by kernel_rfl
theorem r_is_row : rowB rows cons free (d_is_row, f_is_row) = true := by kernel_rfl
theorem r_are_below : rowB rows cons free (d_are_below, f_are_below) = true := by kernel_rfl
theorem r_are_others : rowB rows cons free (d_are_others, f_are_others) = true := by kernel_rfl
theorem r_is_web_shaped : rowB rows cons free (d_is_web_shaped, f_is_web_shaped) = true := by kernel_rfl
theorem r_order_of : rowB rows cons free (d_order_of, f_order_of) = true := by kernel_rfl
theorem r_is_part : rowB rows cons free (d_is_part, f_is_part) = true := by kernel_rfl
theorem r_are_apart : rowB rows cons free (d_are_apart, f_are_apart) = true := by kernel_rfl
theorem r_is_condition : rowB rows cons free (d_is_condition, f_is_condition) = true := by kernel_rfl
theorem r_are_habits : rowB rows cons free (d_are_habits, f_are_habits) = true := by kernel_rfl
theorem r_is_web : rowB rows cons free (d_is_web, f_is_web) = true := by kernel_rfl
theorem r_is_habits : rowB rows cons free (d_is_habits, f_is_habits) = true := by kernel_rfl
theorem r__law_so : rowB rows cons free (d__law_so, f__law_so) = true := by kernel_rfl
theorem r__law_numbers : rowB rows cons free (d__law_numbers, f__law_numbers) = true := by kernel_rfl
theorem r__law_draw : rowB rows cons free (d__law_draw, f__law_draw) = true := by kernel_rfl
theorem r__law_take : rowB rows cons free (d__law_take, f__law_take) = true := by kernel_rfl
theorem r__law_whole : rowB rows cons free (d__law_whole, f__law_whole) = true := by kernel_rfl
theorem r__law_listed : rowB rows cons free (d__law_listed, f__law_listed) = true := by kernel_rfl
theorem r__law_tupled : rowB rows cons free (d__law_tupled, f__law_tupled) = true := by kernel_rfl
theorem r__law_either : rowB rows cons free (d__law_either, f__law_either) = true := by kernel_rfl
theorem r__law_handed : rowB rows cons free (d__law_handed, f__law_handed) = true := by kernel_rfl
theorem r__law_shuffled : rowB rows cons free (d__law_shuffled, f__law_shuffled) = true := by kernel_rfl
theorem r__law_web : rowB rows cons free (d__law_web, f__law_web) = true := by kernel_rfl
theorem r__law_is_web : rowB rows cons free (d__law_is_web, f__law_is_web) = true := by kernel_rfl
theorem r__law_habits_of : rowB rows cons free (d__law_habits_of, f__law_habits_of) = true := by kernel_rfl
theorem r__law_is_condition : rowB rows cons free (d__law_is_condition, f__law_is_condition) = true := by kernel_rfl
theorem r__law_is_habits : rowB rows cons free (d__law_is_habits, f__law_is_habits) = true := by kernel_rfl
theorem r__law_changed_habits : rowB rows cons free (d__law_changed_habits, f__law_changed_habits) = true := by kernel_rfl
theorem r__law_spoilt_web : rowB rows cons free (d__law_spoilt_web, f__law_spoilt_web) = true := by kernel_rfl
theorem r_law : rowB rows cons free (d_law, f_law) = true := by kernel_rfl
theorem checks : (cons.all conOk && rows.all (rowB rows cons free)) = true := by
  unfold rows
  simp only [List.all_cons, List.all_nil]
  rw [Bool.and_eq_true]
  refine ⟨by kernel_rfl, ?_⟩
  rw [show ([(d_is_integer, f_is_integer), (d_is_within, f_is_within), (d_is_sequence, f_is_sequence), (d_is_row, f_is_row), (d_are_below, f_are_below), (d_are_others, f_are_others), (d_is_web_shaped, f_is_web_shaped), (d_order_of, f_order_of), (d_is_part, f_is_part), (d_are_apart, f_are_apart), (d_is_condition, f_is_condition), (d_are_habits, f_are_habits), (d_is_web, f_is_web), (d_is_habits, f_is_habits), (d__law_so, f__law_so), (d__law_numbers, f__law_numbers), (d__law_draw, f__law_draw), (d__law_take, f__law_take), (d__law_whole, f__law_whole), (d__law_listed, f__law_listed), (d__law_tupled, f__law_tupled), (d__law_either, f__law_either), (d__law_handed, f__law_handed), (d__law_shuffled, f__law_shuffled), (d__law_web, f__law_web), (d__law_is_web, f__law_is_web), (d__law_habits_of, f__law_habits_of), (d__law_is_condition, f__law_is_condition), (d__law_is_habits, f__law_is_habits), (d__law_changed_habits, f__law_changed_habits), (d__law_spoilt_web, f__law_spoilt_web), (d_law, f_law)] : List Mp.Row) = rows from rfl]
  rw [r_is_integer, r_is_within, r_is_sequence, r_is_row, r_are_below, r_are_others, r_is_web_shaped, r_order_of, r_is_part, r_are_apart, r_is_condition, r_are_habits, r_is_web, r_is_habits, r__law_so, r__law_numbers, r__law_draw, r__law_take, r__law_whole, r__law_listed, r__law_tupled, r__law_either, r__law_handed, r__law_shuffled, r__law_web, r__law_is_web, r__law_habits_of, r__law_is_condition, r__law_is_habits, r__law_changed_habits, r__law_spoilt_web, r_law]
  rfl
end Lw

namespace Lw
open PySem Mp

/-! ### readings of data -/
def tn : D → Tn
  | .non => .none
  | .bl _ => .bool
  | .int _ => .int
  | .str _ => .str
  | .tup _ => .tuple
  | .lst _ => .list
  | _ => .none
theorem tn_plain {S : Hs} {v : D} (h : v.plain = true) : tnOf S v = some (tn v) := by
  cases v <;> first | rfl | (simp [D.plain] at h)
def isInt : D → Bool
  | .int _ => true
  | _ => false
def seqD : D → Option (List D)
  | .tup ds => some ds
  | .lst ds => some ds
  | _ => none
def within (v : D) (lo hi : Int) : Bool := match v with
  | .int i => decide (lo ≤ i) && decide (i ≤ hi)
  | _ => false
mutual
/-- plain, and no row longer than 9 -/
def sm : D → Bool
  | .tup ds => decide (ds.length ≤ 9) && sms ds
  | .lst ds => decide (ds.length ≤ 9) && sms ds
  | .scr _ => false
  | .ref _ => false
  | _ => true
def sms : List D → Bool
  | [] => true
  | d :: ds => sm d && sms ds
end
mutual
theorem sm_plain : ∀ {v : D}, sm v = true → v.plain = true
  | .non, _ => rfl
  | .bl _, _ => rfl
  | .int _, _ => rfl
  | .str _, _ => rfl
  | .tup ds, h => by
    simp only [sm, Bool.and_eq_true] at h
    simp only [D.plain]
    exact sms_plain h.2
  | .lst ds, h => by
    simp only [sm, Bool.and_eq_true] at h
    simp only [D.plain]
    exact sms_plain h.2
  | .scr _, h => by simp [sm] at h
  | .ref _, h => by simp [sm] at h
theorem sms_plain : ∀ {ds : List D}, sms ds = true → D.plains ds = true
  | [], _ => rfl
  | d :: ds, h => by
    simp only [sms, Bool.and_eq_true] at h
    simp only [D.plains, Bool.and_eq_true]
    exact ⟨sm_plain h.1, sms_plain h.2⟩
end
theorem sms_mem : ∀ {ds : List D} {d : D}, sms ds = true → d ∈ ds → sm d = true
  | d :: ds, e, h, hm => by
    simp only [sms, Bool.and_eq_true] at h
    rcases List.mem_cons.mp hm with rfl | hm
    · exact h.1
    · exact sms_mem h.2 hm
theorem sm_seq {v : D} {ds : List D} (h : sm v = true) (hs : seqD v = some ds) : ds.length ≤ 9 ∧ sms ds = true := by
  cases v with
  | tup es => cases hs; simpa only [sm, Bool.and_eq_true, decide_eq_true_eq] using h
  | lst es => cases hs; simpa only [sm, Bool.and_eq_true, decide_eq_true_eq] using h
  | _ => cases hs
theorem blsOf_map (f : D → Bool) : ∀ ds : List D, blsOf (ds.map fun d => D.bl (f d)) = some (ds.map f)
  | [] => rfl
  | d :: ds => by
    show (blsOf (ds.map fun d => D.bl (f d))).map (f d :: ·) = _
    rw [blsOf_map f ds]; rfl
theorem all_id {α : Type} (f : α → Bool) (l : List α) : (l.map f).all id = l.all f := by
  induction l with
  | nil => rfl
  | cons a l ih => simp [ih]
theorem any_id {α : Type} (f : α → Bool) (l : List α) : (l.map f).any id = l.any f := by
  induction l with
  | nil => rfl
  | cons a l ih => simp [ih]
theorem seq_items {v : D} {ds : List D} (h : seqD v = some ds) : itemsOf Mp.S0 v = some (ds, fun _ => True) := by
  cases v <;> first | (cases h; rfl) | (cases h; done)
theorem seq_itemsE {v : D} {ds : List D} (h : seqD v = some ds) : itemsE Mp.S0 v = some (ds, fun _ => True) := by
  cases v <;> first | (cases h; rfl) | (cases h; done)
theorem seq_len {v : D} {ds : List D} (h : seqD v = some ds) : biD .len Mp.S0 [v] = some (.int ds.length) := by
  cases v <;> first | (cases h; rfl) | (cases h; done)
theorem seq_in {x v : D} {ds : List D} (h : seqD v = some ds) : inAny Mp.S0 x v = inD x ds := by
  cases v <;> first | (cases h; rfl) | (cases h; done)
theorem seq_idx {v : D} {ds : List D} {i : Int} (h : seqD v = some ds) : idxD Mp.S0 v (.int i) = L2.atI ds i := by
  cases v <;> first | (cases h; rfl) | (cases h; done)
theorem all_bls {f : D → Bool} {ds : List D} : biD .all Mp.S0 [.lst (ds.map fun d => D.bl (f d))] = some (.bl (ds.all f)) := by
  simp [biD, vw, blsOf_map, all_id]
theorem any_bls {f : D → Bool} {ds : List D} : biD .any Mp.S0 [.lst (ds.map fun d => D.bl (f d))] = some (.bl (ds.any f)) := by
  simp [biD, vw, blsOf_map, any_id]
theorem sz (n : Nat) (h : n ≤ 1000) : n ≤ sizeLine := Nat.le_trans h (by decide)

/-! ### order_of, on rows of whole numbers -/
def intsD (ds : List D) : Option (List Int) := intsOf ds
def rowsI : List D → Option (List (List Int))
  | [] => some []
  | d :: ds => (seqD d).bind fun r => (intsOf r).bind fun ns => (rowsI ds).map (ns :: ·)
def stepO (sup : List (List Int)) (found : List Int) : List Int := ((List.range sup.length).map fun (i : Nat) => (i : Int)).filter fun i => decide (i ∉ found) && (sup.getD i.toNat []).all fun k => decide (k ∈ found)
def orderN (sup : List (List Int)) : Nat → List Int → List Int
  | 0, found => found
  | n + 1, found => orderN sup n (found ++ stepO sup found)
def Xk (n : Nat) : Fe := fun f ds => if f = "order_of" then (match ds with
  | [v] => if sm v = true ∧ 3 ≤ n then (seqD v).bind fun r => (rowsI r).map fun sup => .lst ((orderN sup sup.length []).map .int) else none
  | _ => none) else none
theorem X_none {n : Nat} {f : Str} {ds : List D} (h : decide (f = "order_of") = false) : Xk n f ds = none := by
  unfold Xk
  rw [if_neg (of_decide_eq_false h)]
abbrev E (n : Nat) : Fe := evC T Xk n
theorem ev_in {n : Nat} {f : Str} {fn : Fn} {ds : List D} (hf : T.fn f = some fn) (h : decide (f = "order_of") = false) : E (n + 1) f ds = evB (E n) fn ds := by
  show evC T Xk (n + 1) f ds = _
  unfold evC
  rw [X_none h, hf]
  rfl
theorem v_is_integer {n : Nat} {v : D} (hv : v.plain = true) : E (n + 1) "is_integer" [v] = some (.bl (isInt v)) := by
  rw [ev_in (fn := f_is_integer) (by kernel_rfl) (by decide +kernel)]
  simp [evB, f_is_integer, isiD, tn_plain hv]
  cases v <;> simp [tn, isTy, isInt, D.plain] at hv ⊢
theorem v_is_within {n : Nat} {v : D} {lo hi : Int} (hv : v.plain = true) : E (n + 2) "is_within" [v, .int lo, .int hi] = some (.bl (within v lo hi)) := by
  rw [ev_in (fn := f_is_within) (by kernel_rfl) (by decide +kernel)]
  simp [evB, f_is_within, CE.isStar, v_is_integer hv]
  cases v <;> simp [isInt, within, cmpD]
  rename_i i
  by_cases h1 : lo ≤ i <;> simp [h1]
theorem v_is_sequence {n : Nat} {v : D} (hv : v.plain = true) : E (n + 1) "is_sequence" [v] = some (.bl (seqD v).isSome) := by
  rw [ev_in (fn := f_is_sequence) (by kernel_rfl) (by decide +kernel)]
  simp [evB, f_is_sequence, isiD, tn_plain hv]
  cases v <;> simp [tn, isTy, seqD, D.plain] at hv ⊢
def rowD (v : D) (lo hi : Int) : Bool := match seqD v with
  | some ds => decide (lo ≤ (ds.length : Int)) && decide ((ds.length : Int) ≤ hi)
  | none => false
theorem v_is_row {n : Nat} {v : D} {lo hi : Int} (hv : v.plain = true) : E (n + 2) "is_row" [v, .int lo, .int hi] = some (.bl (rowD v lo hi)) := by
  rw [ev_in (fn := f_is_row) (by kernel_rfl) (by decide +kernel)]
  simp [evB, f_is_row, CE.isStar, v_is_sequence hv]
  cases hs : seqD v with
  | none => simp [rowD, hs]
  | some ds =>
    simp [rowD, hs, seq_len hs, cmpD]
    by_cases h1 : lo ≤ (ds.length : Int) <;> simp [h1]

theorem atI_nat {α : Type} {xs : List α} {i : Nat} (h : i < xs.length) : L2.atI xs (i : Int) = xs[i]? := by
  unfold L2.atI L2.ixN
  rw [if_pos (by omega), if_pos (by omega)]
  simp
/-! ### below, others -/
theorem within_ints {m : Int} : ∀ {ds : List D}, ds.all (fun d => within d 0 m) = true → ∃ ns : List Int, ds = ns.map .int ∧ ∀ i ∈ ns, 0 ≤ i ∧ i ≤ m
  | [], _ => ⟨[], rfl, fun _ h => by cases h⟩
  | d :: ds, h => by
    rw [List.all_cons, Bool.and_eq_true] at h
    obtain ⟨ns, rfl, h2⟩ := within_ints h.2
    cases d with
    | int i =>
      have h1 : (decide (0 ≤ i) && decide (i ≤ m)) = true := h.1
      simp only [Bool.and_eq_true, decide_eq_true_eq] at h1
      exact ⟨i :: ns, rfl, fun j hj => by
        rcases List.mem_cons.mp hj with rfl | hj
        · exact h1
        · exact h2 j hj⟩
    | _ => exact absurd h.1 (by simp [within])
theorem intsOf_map (ns : List Int) : intsOf (ns.map .int) = some ns := by
  induction ns with
  | nil => rfl
  | cons a l ih => show (intsOf (l.map .int)).map (a :: ·) = _; rw [ih]; rfl
def incB (ns : List Int) : Bool := (List.range (ns.length - 1)).all fun i => decide (ns.getD i 0 < ns.getD (i + 1) 0)
def belowD (v : D) (many : Int) : Bool := match seqD v with
  | some ds => ds.all (fun d => within d 0 (many - 1)) && incB ((intsOf ds).getD [])
  | none => false
theorem range1 {m : Nat} (h : m ≤ 1000) : rngOf [.int 1, .int (m : Int)] = some ((List.range (m - 1)).map fun (i : Nat) => D.int (1 + (i : Int))) := by
  have e : ((m : Int) - 1).toNat = m - 1 := by omega
  simp only [rngOf]
  rw [if_pos (by omega), e]
theorem getD_map {ns : List Int} {i : Nat} (h : i < ns.length) : (ns.map D.int)[i]? = some (.int (ns.getD i 0)) := by
  rw [List.getElem?_map, List.getElem?_eq_getElem h]
  simp [List.getD_eq_getElem?_getD, h]
theorem below1 {n : Nat} {v : D} {many : Int} {ds : List D} (hv : sm v = true) (hs : seqD v = some ds) : evE (E (n + 2)) (.comp false (.call "is_within" [.var 3, .con (.int 0), .op .Sub (.var 1) (.con (.int 1))]) (.nm 3) (.seq (.var 0)) [] [("number", 3)]) [some v, some (.int many), none, none] = some (.lst (ds.map fun d => .bl (within d 0 (many - 1)))) := by
  obtain ⟨hl, hd⟩ := sm_seq hv hs
  refine ev_map _ (xs := ds) (by simp [seq_items hs]) (by omega) fun x hx => ⟨[some v, some (.int many), none, some x], by simp [wipeD], ?_⟩
  simp [CE.isStar, opD, v_is_within (sm_plain (sms_mem hd hx))]
theorem ev_rng1 {fe : Fe} {ρ : Ev} {a : CE} {x : D} (ha : evE fe a ρ = some x) (sa : a.isStar = false) : evI fe (.rng [a]) ρ = rngOf [x] := by
  rw [x_rng, x_cons, x_nil, sa, ha]
  simp only [Bool.false_eq_true, if_false, Option.bind_some, Option.map_some]
theorem ev_rng2 {fe : Fe} {ρ : Ev} {a b : CE} {x y : D} (ha : evE fe a ρ = some x) (hb : evE fe b ρ = some y) (sa : a.isStar = false) (sb : b.isStar = false) : evI fe (.rng [a, b]) ρ = rngOf [x, y] := by
  rw [x_rng, x_cons, x_cons, x_nil, sa, sb, ha, hb]
  simp only [Bool.false_eq_true, if_false, Option.bind_some, Option.map_some]
def ltAt (ns : List Int) (d : D) : Bool := match d with
  | .int i => decide (ns.getD (i - 1).toNat 0 < ns.getD i.toNat 0)
  | _ => false
theorem below2 {n : Nat} {v : D} {many : Int} {ns : List Int} (hs : seqD v = some (ns.map .int)) (hl2 : ns.length ≤ 9) : evE (E (n + 2)) (.comp false (.cmp .Lt (.idx (.var 0) (.op .Sub (.var 2) (.con (.int 1)))) (.idx (.var 0) (.var 2))) (.nm 2) (.rng [.con (.int 1), .bi .len [.var 0]]) [] [("at", 2)]) [some v, some (.int many), none, none]
          = some (.lst (((List.range (ns.length - 1)).map fun (i : Nat) => D.int (1 + (i : Int))).map fun d => .bl (ltAt ns d))) := by
  have hr : evI (E (n + 2)) (.rng [.con (.int 1), .bi .len [.var 0]]) [some v, some (.int many), none, none] = some ((List.range (ns.length - 1)).map fun (i : Nat) => D.int (1 + (i : Int))) := by
    rw [ev_rng2 x_con (show _ = some (.int (ns.length : Int)) by simp [CE.isStar, seq_len hs]) rfl rfl]
    exact range1 (by omega)
  refine ev_map _ hr (by simp; omega) fun x hx => ?_
  obtain ⟨i, hi, rfl⟩ := List.mem_map.mp hx
  have hi := List.mem_range.mp hi
  refine ⟨[some v, some (.int many), some (.int (1 + (i : Int))), none], by simp [wipeD], ?_⟩
  have e1 : (1 + (i : Int) - 1) = (i : Int) := by omega
  have e2 : (1 + (i : Int)) = ((i + 1 : Nat) : Int) := by omega
  simp only [x_cmp, x_idx, x_var, x_op, x_con]
  simp [opD, e1, seq_idx hs]
  rw [atI_nat (by simp; omega), getD_map (by omega), e2, atI_nat (by simp; omega), getD_map (by omega)]
  simp [cmpD, ltD, ltAt]
theorem v_are_below {n : Nat} {v : D} {many : Int} (hv : sm v = true) : E (n + 3) "are_below" [v, .int many] = some (.bl (belowD v many)) := by
  have hp := sm_plain hv
  rw [ev_in (fn := f_are_below) (by kernel_rfl) (by decide +kernel)]
  cases hs : seqD v with
  | none => simp [evB, f_are_below, CE.isStar, v_is_sequence hp, belowD, hs]
  | some ds =>
    obtain ⟨hl, hd⟩ := sm_seq hv hs
    have c1 := below1 (n := n) (many := many) hv hs
    cases ha : ds.all (fun d => within d 0 (many - 1)) with
    | false => simp [evB, f_are_below, CE.isStar, v_is_sequence hp, belowD, hs, c1, all_bls, ha]
    | true =>
      obtain ⟨ns, hds, hns⟩ := within_ints ha
      have hi : intsOf ds = some ns := by rw [hds]; exact intsOf_map ns
      have c2 := below2 (n := n) (many := many) (by rw [hs, hds]) (by rw [hds] at hl; simpa using hl)
      have c3 : biD .all Mp.S0 [.lst (((List.range (ns.length - 1)).map fun (i : Nat) => D.int (1 + (i : Int))).map fun d => .bl (ltAt ns d))] = some (.bl (incB ns)) := by
        rw [all_bls, List.all_map]
        unfold incB
        congr 2
        congr 1
        funext i
        have e1 : (1 + (i : Int) - 1).toNat = i := by omega
        have e2 : (1 + (i : Int)).toNat = i + 1 := by omega
        simp only [Function.comp, ltAt, e1, e2]
      generalize (((List.range (ns.length - 1)).map fun (i : Nat) => D.int (1 + (i : Int))).map fun d => D.bl (ltAt ns d)) = bs at c2 c3
      simp [evB, f_are_below, CE.isStar, v_is_sequence hp, belowD, hs, c1, all_bls, ha, c2, c3, hi]

/-- node not among v's -/
def othersD (v : D) (node many : Int) : Bool := belowD v many && (match seqD v with
  | some ds => !(ds.any fun d => D.eqv d (.int node))
  | none => false)
theorem ints_ok {ns : List Int} : (D.lst (ns.map .int)).ok = true := by
  have h1 : ∀ l : List Int, D.plains (l.map .int) = true ∧ D.deps (l.map .int) = 0 := by
    intro l
    induction l with
    | nil => exact ⟨rfl, rfl⟩
    | cons a l ih => simp only [List.map_cons, D.plains, D.plain, D.deps, D.dep, ih.1, ih.2]; exact ⟨rfl, rfl⟩
  unfold D.ok
  simp only [D.plain, D.dep, (h1 ns).1, (h1 ns).2]
  decide
theorem in_ints {i : Int} {ns : List Int} : inD (.int i) (ns.map .int) = some (decide (i ∈ ns)) := by
  unfold inD
  rw [ints_ok]
  have h0 : (D.int i).ok = true := rfl
  rw [h0]
  simp only [Bool.and_self, if_true]
  congr 1
  induction ns with
  | nil => rfl
  | cons a l ih =>
    rw [List.map_cons, List.any_cons, ih]
    show (a == i || decide (i ∈ l)) = decide (i ∈ a :: l)
    by_cases e : a = i
    · simp [e]
    · have : ¬ i = a := fun z => e z.symm
      simp [e, this]
theorem any_ints {i : Int} {ns : List Int} : ((ns.map D.int).any fun d => D.eqv d (.int i)) = decide (i ∈ ns) := by
  have h := @in_ints i ns
  unfold inD at h
  rw [ints_ok, show (D.int i).ok = true from rfl] at h
  simpa using h
theorem v_are_others {n : Nat} {v : D} {node many : Int} (hv : sm v = true) : E (n + 4) "are_others" [v, .int node, .int many] = some (.bl (othersD v node many)) := by
  rw [ev_in (fn := f_are_others) (by kernel_rfl) (by decide +kernel)]
  have hb := v_are_below (n := n) (many := many) hv
  cases hs : seqD v with
  | none =>
    have : belowD v many = false := by simp [belowD, hs]
    rw [this] at hb
    simp [evB, f_are_others, CE.isStar, hb, othersD, this]
  | some ds =>
    cases hbd : belowD v many with
    | false =>
      rw [hbd] at hb
      simp [evB, f_are_others, CE.isStar, hb, othersD, hbd]
    | true =>
      rw [hbd] at hb
      have h2 := hbd
      unfold belowD at h2
      rw [hs] at h2
      obtain ⟨ns, hds, _⟩ := within_ints ((Bool.and_eq_true _ _).mp h2).1
      have hin : inAny Mp.S0 (.int node) v = some (decide (node ∈ ns)) := by rw [seq_in hs, hds, in_ints]
      have hany : (ds.any fun d => D.eqv d (.int node)) = decide (node ∈ ns) := by rw [hds, any_ints]
      simp [evB, f_are_others, CE.isStar, hb, othersD, hbd, hs, hany, cmpD, hin]
/-- every member of a row of whole numbers in another -/
theorem v_is_part {n : Nat} {v : D} {ns ms : List Int} {w : D} (hs : seqD v = some (ns.map .int)) (hl : ns.length ≤ 9) (hw : seqD w = some (ms.map .int)) : E (n + 1) "is_part" [v, w] = some (.bl (ns.all fun i => decide (i ∈ ms))) := by
  rw [ev_in (fn := f_is_part) (by kernel_rfl) (by decide +kernel)]
  have c1 : evE (E n) (.comp false (.cmp .In (.var 2) (.var 1)) (.nm 2) (.seq (.var 0)) [] [("member", 2)]) [some v, some w, none] = some (.lst ((ns.map D.int).map fun d => .bl (match d with
      | .int i => decide (i ∈ ms)
      | _ => false))) := by
    refine ev_map _ (xs := ns.map .int) (by simp [seq_items hs]) (by simp; omega) fun x hx => ?_
    obtain ⟨i, hi, rfl⟩ := List.mem_map.mp hx
    refine ⟨[some v, some w, some (.int i)], by simp [wipeD], ?_⟩
    have := seq_in (x := .int i) hw
    simp [cmpD, this, in_ints]
  have c3 := all_bls (f := fun d => match d with
      | D.int i => decide (i ∈ ms)
      | _ => false) (ds := ns.map D.int)
  rw [List.all_map] at c3
  generalize ((ns.map D.int).map fun d => D.bl (match d with
      | D.int i => decide (i ∈ ms)
      | _ => false)) = bs at c1 c3
  simp [evB, f_is_part, CE.isStar, c1, c3]
  rfl
theorem v_are_apart {n : Nat} {v : D} {ns ms : List Int} {w : D} (hs : seqD v = some (ns.map .int)) (hl : ns.length ≤ 9) (hw : seqD w = some (ms.map .int)) : E (n + 1) "are_apart" [v, w] = some (.bl (!(ns.any fun i => decide (i ∈ ms)))) := by
  rw [ev_in (fn := f_are_apart) (by kernel_rfl) (by decide +kernel)]
  have c1 : evE (E n) (.comp false (.cmp .In (.var 2) (.var 1)) (.nm 2) (.seq (.var 0)) [] [("member", 2)]) [some v, some w, none] = some (.lst ((ns.map D.int).map fun d => .bl (match d with
      | .int i => decide (i ∈ ms)
      | _ => false))) := by
    refine ev_map _ (xs := ns.map .int) (by simp [seq_items hs]) (by simp; omega) fun x hx => ?_
    obtain ⟨i, hi, rfl⟩ := List.mem_map.mp hx
    refine ⟨[some v, some w, some (.int i)], by simp [wipeD], ?_⟩
    have := seq_in (x := .int i) hw
    simp [cmpD, this, in_ints]
  have c3 := any_bls (f := fun d => match d with
      | D.int i => decide (i ∈ ms)
      | _ => false) (ds := ns.map D.int)
  rw [List.any_map] at c3
  generalize ((ns.map D.int).map fun d => D.bl (match d with
      | D.int i => decide (i ∈ ms)
      | _ => false)) = bs at c1 c3
  simp [evB, f_are_apart, CE.isStar, c1, c3]
  rfl
end Lw

namespace Lw
open PySem Mp

/-! ### order_of: the plain part -/
def rngM (m : Nat) : List Int := (List.range m).map fun (i : Nat) => (i : Int)
def mu (m : Nat) (f : List Int) : Nat := ((rngM m).filter fun i => decide (i ∉ f)).length
theorem step_mem {sup : List (List Int)} {f : List Int} {i : Int} : i ∈ stepO sup f ↔ i ∈ rngM sup.length ∧ i ∉ f ∧ ∀ k ∈ sup.getD i.toNat [], k ∈ f := by
  unfold stepO rngM
  rw [List.mem_filter]
  simp only [Bool.and_eq_true, decide_eq_true_eq, List.all_eq_true]
theorem filter_lt {α : Type} {p q : α → Bool} : ∀ {l : List α}, (∀ x ∈ l, q x = true → p x = true) → (∃ x ∈ l, p x = true ∧ q x = false) → (l.filter q).length < (l.filter p).length
  | [], _, ⟨x, h, _⟩ => by cases h
  | a :: l, h1, ⟨x, hx, h2, h3⟩ => by
    have le : ∀ {l : List α}, (∀ x ∈ l, q x = true → p x = true) → (l.filter q).length ≤ (l.filter p).length := by
      intro l
      induction l with
      | nil => intro _; exact Nat.le_refl _
      | cons b r ih =>
        intro h
        have := ih fun y hy => h y (List.mem_cons_of_mem _ hy)
        rw [List.filter_cons, List.filter_cons]
        cases e : q b with
        | true => rw [h b List.mem_cons_self e]; simpa using this
        | false => cases e2 : p b <;> simp <;> omega
    rw [List.filter_cons, List.filter_cons]
    have l2 := le (l := l) fun y hy => h1 y (List.mem_cons_of_mem _ hy)
    rcases List.mem_cons.mp hx with rfl | hx
    · rw [h2, h3]; simp; omega
    · have ih := filter_lt (l := l) (fun y hy => h1 y (List.mem_cons_of_mem _ hy)) ⟨x, hx, h2, h3⟩
      cases e : q a with
      | true => rw [h1 a List.mem_cons_self e]; simpa using ih
      | false => cases e2 : p a <;> simp <;> omega
theorem mu_dec {sup : List (List Int)} {f : List Int} (h : stepO sup f ≠ []) : mu sup.length (f ++ stepO sup f) < mu sup.length f := by
  obtain ⟨i, hi⟩ := List.exists_mem_of_ne_nil _ h
  have hm := step_mem.mp hi
  refine filter_lt (fun x _ hx => ?_) ⟨i, hm.1, by simpa using hm.2.1, by simp [hi]⟩
  simp only [decide_eq_true_eq, List.mem_append, not_or] at hx ⊢
  exact hx.1
theorem mu_zero {sup : List (List Int)} {f : List Int} (h : mu sup.length f = 0) : stepO sup f = [] := by
  cases e : stepO sup f with
  | nil => rfl
  | cons a l =>
    have hm := step_mem.mp (show a ∈ stepO sup f by rw [e]; exact List.mem_cons_self)
    have : a ∈ (rngM sup.length).filter fun i => decide (i ∉ f) := List.mem_filter.mpr ⟨hm.1, by simpa using hm.2.1⟩
    unfold mu at h
    rw [List.eq_nil_of_length_eq_zero h] at this
    cases this
theorem ord_fix {sup : List (List Int)} {f : List Int} (h : stepO sup f = []) : ∀ t, orderN sup t f = f
  | 0 => rfl
  | t + 1 => by
    show orderN sup t (f ++ stepO sup f) = f
    rw [h, List.append_nil]; exact ord_fix h t
theorem ord_add {sup : List (List Int)} : ∀ (a b : Nat) (f : List Int), orderN sup (a + b) f = orderN sup b (orderN sup a f)
  | 0, b, f => by rw [Nat.zero_add]; rfl
  | a + 1, b, f => by
    rw [Nat.succ_add]
    exact ord_add a b _
theorem ord_end {sup : List (List Int)} : ∀ (t : Nat) (f : List Int), mu sup.length f ≤ t → stepO sup (orderN sup t f) = []
  | 0, f, h => mu_zero (Nat.le_zero.mp h)
  | t + 1, f, h => by
    by_cases e : stepO sup f = []
    · rw [ord_fix e]; exact e
    · have := mu_dec e
      exact ord_end t _ (by omega)
theorem mu_le {m : Nat} {f : List Int} : mu m f ≤ m := by
  unfold mu
  refine Nat.le_trans (List.length_filter_le _ _) ?_
  simp [rngM]
theorem ord_one {sup : List (List Int)} {t : Nat} (h : stepO sup (orderN sup t []) = []) : orderN sup t [] = orderN sup sup.length [] := by
  have hm := ord_end (sup := sup) sup.length [] mu_le
  by_cases e : t ≤ sup.length
  · have : orderN sup (t + (sup.length - t)) [] = orderN sup sup.length [] := by congr 1; omega
    rw [← this, ord_add, ord_fix h]
  · have : orderN sup (sup.length + (t - sup.length)) [] = orderN sup t [] := by congr 1; omega
    rw [← this, ord_add, ord_fix hm]

/-! ### order_of: the walk -/
theorem le_refl {S : Hs} : S.le S := fun _ _ h => h
theorem call_in {n : Nat} {f : Str} {fn : Fn} {ds : List D} {S : Hs} {k : DK} {ke : EK} (hf : T.fn f = some fn) (h : ds.length = fn.ps.length ∧ wpSs ⟨wpC T n, fun _ => ke, none, T.xf, T.xs⟩ fn.body
        { nx := fun _ S' => ∃ S2, S2.le S' ∧ k .non S2, rt := fun d S' => ∃ S2, S2.le S' ∧ k d S2, bk := fun _ _ => False, ct := fun _ _ => False }
        (ds.map some ++ List.replicate (fn.N.length - ds.length) none) S) : wpC T (n + 1) f ds S k ke := by
  simp only [wpC, hf]
  exact h
theorem cmpL_pure {ok : Hs → Prop} {p : Addr} {step : D → (Option D → Hs → Prop) → Hs → Prop} {fin : Hs → Prop} {S : Hs} (f : D → Option D) (hok : ∀ acc, ok (hput S p (.lst acc))) : ∀ {xs : List D} {acc : List D},
    (∀ x ∈ xs, ∀ acc kk, kk (f x) (hput S p (.lst acc)) → step x kk (hput S p (.lst acc))) → acc.length + xs.length ≤ sizeLine → fin (hput S p (.lst (acc ++ xs.filterMap f))) → cmpL ok p step xs fin (hput S p (.lst acc))
  | [], acc, _, _, h => by
    rw [List.filterMap_nil, List.append_nil] at h
    exact ⟨hok acc, h⟩
  | x :: xs, acc, hs, hl, h => by
    refine ⟨hok acc, hs x List.mem_cons_self acc _ ?_⟩
    cases e : f x with
    | none =>
      rw [List.filterMap_cons, e] at h
      exact cmpL_pure f hok (fun y hy => hs y (List.mem_cons_of_mem _ hy)) (by rw [List.length_cons] at hl; omega) h
    | some y =>
      rw [List.filterMap_cons, e] at h
      rw [List.length_cons] at hl
      refine ⟨acc, hput_same, by omega, ?_⟩
      rw [hput_hput]
      refine cmpL_pure f hok (fun y hy => hs y (List.mem_cons_of_mem _ hy)) (by rw [List.length_append]; simp; omega) ?_
      rw [List.append_assoc]
      exact h
theorem fm_some {α β : Type} (f : α → β) (l : List α) : l.filterMap (fun x => some (f x)) = l.map f := by
  induction l with
  | nil => rfl
  | cons a l ih => rw [List.filterMap_cons]; simp [ih]
def memD (ms : List Int) (d : D) : Bool := match d with
  | .int i => decide (i ∈ ms)
  | _ => false
/-- is_part, the other row a changing list -/
theorem w_is_part {n : Nat} {v : D} {ns ms : List Int} {a : Addr} {S : Hs} {k : DK} {ke : EK} (hs : seqD v = some (ns.map .int)) (hl : ns.length ≤ 9) (hS : S a = some (.lst (ms.map .int))) (hk : k (.bl (ns.all fun i => decide (i ∈ ms))) S) : wpC T (n + 1) "is_part" [v, .ref a] S k ke := by
  refine call_in (fn := f_is_part) (by kernel_rfl) ⟨rfl, ?_⟩
  have hit : itemsOf S v = some (ns.map .int, fun _ => True) := by
    cases v <;> first | (cases hs; rfl) | (cases hs; done)
  simp only [f_is_part, wpSs, wpS, wpE, wpEs, wpI, CE.isStar]
  simp [hit]
  intro p hp
  have hpa : a ≠ p := fun e => by rw [e, hp] at hS; cases hS
  refine cmpL_pure (fun d => some (.bl (memD ms d))) (fun _ => trivial) (fun x hx acc kk h => ?_) (by simp; exact Nat.le_trans hl (by decide)) ?_
  · obtain ⟨i, hi, rfl⟩ := List.mem_map.mp hx
    have h1 : hput S p (.lst acc) a = some (.lst (ms.map .int)) := by rw [hput_ne hpa]; exact hS
    simp [wipeD, wpT, wpE, cmpD, inAny, h1, in_ints]
    exact h
  · rw [List.nil_append, fm_some]
    refine ⟨_, hput_same, ?_⟩
    rw [hdel_hput hp]
    have e : biD .all S [.lst ((ns.map D.int).map fun d => .bl (memD ms d))] = some (.bl (ns.all fun i => decide (i ∈ ms))) := by
      have := all_bls (f := memD ms) (ds := ns.map D.int)
      rw [List.all_map] at this
      exact this
    rw [e]
    exact ⟨S, le_refl, hk⟩
end Lw

namespace Lw
open PySem Mp
theorem rowsI_at : ∀ {r : List D} {sup : List (List Int)}, rowsI r = some sup → r.length = sup.length ∧ ∀ (i : Nat) (d : D), r[i]? = some d → ∃ ns, sup[i]? = some ns ∧ seqD d = some (ns.map .int)
  | [], sup, h => by
    cases h
    exact ⟨rfl, fun i d hd => by simp at hd⟩
  | x :: r, sup, h => by
    unfold rowsI at h
    obtain ⟨q, h1, h2⟩ := Option.bind_eq_some_iff.mp h
    obtain ⟨ns, h3, h4⟩ := Option.bind_eq_some_iff.mp h2
    obtain ⟨s2, h5, h6⟩ := Option.map_eq_some_iff.mp h4
    subst h6
    obtain ⟨q1, q2⟩ := rowsI_at h5
    have hq : q = ns.map .int := intsOf_some h3
    subst hq
    refine ⟨by simp [q1], fun i d hd => ?_⟩
    cases i with
    | zero =>
      have : x = d := by simpa using hd
      subst this
      exact ⟨ns, rfl, h1⟩
    | succ i => exact q2 i d (by simpa using hd)
def keepD (sup : List (List Int)) (f : List Int) (d : D) : Option D := match d with
  | .int i => if decide (i ∉ f) && (sup.getD i.toNat []).all (fun k => decide (k ∈ f)) then some (.int i) else none
  | _ => none
theorem keep_all {sup : List (List Int)} {f : List Int} : ∀ l : List Int, (l.map D.int).filterMap (keepD sup f) = (l.filter fun i => decide (i ∉ f) && (sup.getD i.toNat []).all fun k => decide (k ∈ f)).map .int
  | [] => rfl
  | a :: l => by
    have ih := keep_all (sup := sup) (f := f) l
    rw [List.map_cons, List.filterMap_cons, List.filter_cons]
    cases e : (decide (a ∉ f) && (sup.getD a.toNat []).all fun k => decide (k ∈ f)) with
    | true =>
      have : keepD sup f (.int a) = some (.int a) := by unfold keepD; simp only [e, if_true]
      rw [this]; simp [ih]
    | false =>
      have : keepD sup f (.int a) = none := by unfold keepD; simp only [e]; simp
      rw [this]; simpa using ih
theorem range0 {m : Nat} (h : m ≤ 1000) : rngOf [.int (m : Int)] = some ((rngM m).map D.int) := by
  simp only [rngOf]
  rw [if_pos (by omega)]
  unfold rngM
  simp
theorem wpI_rng1 {c : Cw} {a : CE} {ρ : Ev} {k : List D → (Hs → Prop) → Hs → Prop} {S : Hs} {x : D} {xs : List D} (ha : ∀ k' : DK, k' x S → wpE c a ρ k' S) (sa : a.isStar = false) (hr : rngOf [x] = some xs) (h : k xs (fun _ => True) S) : wpI c (.rng [a]) ρ k S := by
  simp only [wpI, wpEs, sa]
  exact ha _ (by rw [hr]; exact h)
theorem w_order_of {n : Nat} {v : D} {r : List D} {sup : List (List Int)} {S : Hs} {k : DK} {ke : EK} (hv : sm v = true) (hs : seqD v = some r) (hr : rowsI r = some sup) (hk : k (.lst ((orderN sup sup.length []).map .int)) S) : wpC T (n + 3) "order_of" [v] S k ke := by
  obtain ⟨hl, hd⟩ := sm_seq hv hs
  obtain ⟨q1, q2⟩ := rowsI_at hr
  have hlen : ∀ S, biD .len S [v] = some (.int (sup.length : Int)) := fun S => by
    rw [← q1]; exact biD_up (seq_len hs)
  have hitm : ∀ (S : Hs) (i : Nat) (d : D), r[i]? = some d → idxD S v (.int (i : Int)) = some d := fun S i d h => by
    refine idxD_up ?_
    rw [seq_idx hs, atI_nat (List.getElem?_eq_some_iff.mp h).1, h]
  refine call_in (fn := f_order_of) (by kernel_rfl) ⟨rfl, ?_⟩
  simp only [f_order_of, wpSs, wpS, wpE, wpEs]
  refine ⟨by decide, fun p hp => ?_⟩
  simp only [asgG, List.length_cons, List.length_map, List.length_append, List.length_nil]
  simp
  have hm0 := mu_le (m := sup.length) (f := [])
  refine ⟨fun m ρ S' => ∃ (t : Nat) (b : Bool) (o3 : Option D), ρ = [some v, some (.ref p), some (.bl b), o3, none] ∧ S' = hput S p (.lst ((orderN sup t []).map .int)) ∧ (b = false → stepO sup (orderN sup t []) = []) ∧ m = 2 * mu sup.length (orderN sup t []) + (if b then 1 else 0) ∧ (orderN sup t []).length ≤ 9 * t ∧ t + m ≤ 19, ⟨_, 0, true, none, rfl, rfl, fun h => (by cases h), rfl, by simp [orderN], by simp [orderN]; omega⟩, ?_⟩
  rintro m ρ S' ⟨t, b, o3, rfl, rfl, hb, hm, hlt, ht⟩
  cases b with
  | false =>
    have hfix := ord_one (hb rfl)
    simp [hput_same]
    refine ⟨_, fun a o h => ?_, by rw [hfix]; exact hk⟩
    by_cases e : a = p
    · rw [e, hp] at h; cases h
    · rw [hdel_ne e, hput_ne e]; exact h
  | true =>
    have hn1 : orderN sup (t + 1) [] = orderN sup t [] ++ stepO sup (orderN sup t []) := by rw [ord_add]; rfl
    generalize hF : orderN sup t [] = F at *
    have hst : (stepO sup F).length ≤ 9 := by
      refine Nat.le_trans (List.length_filter_le _ _) ?_
      simp; omega
    simp only [List.getElem?_cons_succ, List.getElem?_cons_zero, truth_bl]
    refine wpI_rng1 (x := .int (sup.length : Int)) (fun k' h => ?_) rfl (range0 (by omega)) ?_
    · simp only [wpE, wpEs, CE.isStar, List.getElem?_cons_zero]
      rw [hlen]; exact h
    intro p2 hp2
    have hpp : p ≠ p2 := fun e => by rw [← e, hput_same] at hp2; cases hp2
    refine cmpL_pure (keepD sup F) (fun _ => trivial) (fun x hx acc kk h => ?_) (by simp [rngM]; exact Nat.le_trans (show sup.length ≤ 1000 by omega) (by decide)) ?_
    · unfold rngM at hx
      rw [List.map_map] at hx
      obtain ⟨j, hj, rfl⟩ := List.mem_map.mp hx
      have hj := List.mem_range.mp hj
      obtain ⟨d, hd1⟩ : ∃ d, r[j]? = some d := ⟨_, List.getElem?_eq_getElem (by omega)⟩
      obtain ⟨ns, hn2, hn3⟩ := q2 j d hd1
      have hgd : sup.getD ((j : Int).toNat) [] = ns := by
        rw [List.getD_eq_getElem?_getD]
        simp [hn2]
      have hnl : ns.length ≤ 9 := by
        have := (sm_seq (sms_mem hd (List.mem_of_getElem? hd1)) hn3).1
        simpa using this
      have hS2 : hput (hput S p (.lst (F.map D.int))) p2 (.lst acc) p = some (.lst (F.map .int)) := by rw [hput_ne hpp, hput_same]
      generalize hput (hput S p (.lst (F.map D.int))) p2 (.lst acc) = S2 at h hS2
      have hin : cmpD .NotIn S2 (.int (j : Int)) (.ref p) = some (!decide ((j : Int) ∈ F)) := by
        simp [cmpD, inAny, hS2, in_ints]
      have hk1 : keepD sup F (.int (j : Int)) = if (decide ((j : Int) ∉ F) && ns.all fun k => decide (k ∈ F)) = true then some (.int (j : Int)) else none := by
        unfold keepD
        simp only [hgd]
      simp only [Function.comp] at h ⊢
      rw [hk1] at h
      simp [wipeD, wpT, wpE, wpEs, CE.isStar]
      rw [hin]
      by_cases hm2 : (j : Int) ∈ F
      · simp [hm2] at h ⊢
        exact h
      · simp [hm2] at h ⊢
        rw [hitm S2 j d hd1]
        refine w_is_part hn3 hnl hS2 ?_
        cases e : (ns.all fun i => decide (i ∈ F)) with
        | true =>
          have e2 : ∀ x ∈ ns, x ∈ F := fun x hx => by simpa using List.all_eq_true.mp e x hx
          rw [if_pos e2] at h
          simpa using h
        | false =>
          have e2 : ¬ ∀ x ∈ ns, x ∈ F := fun z => by
            have : (ns.all fun i => decide (i ∈ F)) = true := List.all_eq_true.mpr fun x hx => by simpa using z x hx
            rw [this] at e; cases e
          rw [if_neg e2] at h
          simpa using h
    · rw [List.nil_append, keep_all, show ((rngM sup.length).filter fun i => decide (i ∉ F) && (sup.getD i.toNat []).all fun k => decide (k ∈ F)) = stepO sup F from rfl]
      have hdec : stepO sup F ≠ [] → mu sup.length (F ++ stepO sup F) < mu sup.length F := mu_dec
      have hzero : stepO sup F = [] → stepO sup (F ++ stepO sup F) = [] := fun h => by rw [h, List.append_nil]; exact h
      generalize stepO sup F = G at *
      refine ⟨_, hput_same, ?_⟩
      rw [hdel_hput hp2]
      simp [recvOk, mthD, vw, hput_same]
      rw [if_pos (show F.length + G.length ≤ sizeLine from Nat.le_trans (show F.length + G.length ≤ 1000 by omega) (by decide))]
      simp [biD, vw, cmpD, ltD]
      refine ⟨_, ?_, t + 1, by rw [hn1, List.map_append], fun h => ?_, rfl, by rw [hn1, List.length_append]; omega, ?_⟩
      · rw [hn1, hm]
        cases G with
        | nil => simp
        | cons g G =>
          have := hdec (by simp)
          simp
          omega
      · rw [hn1]
        exact hzero h
      · rw [hn1]
        cases G with
        | nil => simp at hm ⊢; omega
        | cons g G =>
          have := hdec (by simp)
          simp at hm ⊢
          omega
end Lw

namespace Lw
open PySem Mp
theorem X_ok : ∀ n, FeOk (Xk n) (wpC T (n + 1)) := fun n f ds r S k ke h hk => by
  unfold Xk at h
  split at h
  · rename_i hf
    subst hf
    split at h
    · rename_i v
      split at h
      · rename_i hc
        obtain ⟨q, h1, h2⟩ := Option.bind_eq_some_iff.mp h
        obtain ⟨sup, h3, h4⟩ := Option.map_eq_some_iff.mp h2
        subst h4
        obtain ⟨m, rfl⟩ : ∃ m, n = m + 2 := ⟨n - 2, by omega⟩
        exact w_order_of hc.1 h1 h3 hk
      · cases h
    · cases h
  · cases h
theorem pure_ok {n : Nat} {f : Str} {ds : List D} {r : D} (h : E n f ds = some r) {S : Hs} {k : DK} {ke : EK} (hk : k r S) : wpC T n f ds S k ke := evC_ok X_ok n f ds r S k ke h hk
def othQ (m : Int) (q : D) : Bool := match q with
  | .tup [.int i, d] => othersD d i m
  | _ => false
def webD (v : D) : Bool := rowD v 1 8 && (match seqD v with
  | some ds => (enumFrom' 0 ds).all (othQ ds.length) && (match rowsI ds with
    | some sup => decide ((orderN sup sup.length []).length = sup.length)
    | none => false)
  | none => false)
theorem enum_mem : ∀ {ds : List D} {k : Nat} {q : D}, q ∈ enumFrom' k ds → ∃ (i : Nat) (d : D), q = .tup [.int i, d] ∧ d ∈ ds
  | d :: ds, k, q, h => by
    have h : q ∈ D.tup [.int k, d] :: enumFrom' (k + 1) ds := h
    rcases List.mem_cons.mp h with rfl | h
    · exact ⟨k, d, rfl, List.mem_cons_self⟩
    · obtain ⟨i, e, h1, h2⟩ := enum_mem h
      exact ⟨i, e, h1, List.mem_cons_of_mem _ h2⟩
theorem enum_length : ∀ {ds : List D} {k : Nat}, (enumFrom' k ds).length = ds.length
  | [], _ => rfl
  | _ :: ds, k => by
    show (enumFrom' (k + 1) ds).length + 1 = _
    rw [enum_length]; rfl
theorem below_ints {v : D} {m : Int} (h : belowD v m = true) : ∃ ns : List Int, seqD v = some (ns.map .int) ∧ (∀ i ∈ ns, 0 ≤ i ∧ i ≤ m - 1) ∧ incB ns = true := by
  unfold belowD at h
  cases hs : seqD v with
  | none => rw [hs] at h; cases h
  | some ds =>
    rw [hs] at h
    obtain ⟨h1, h2⟩ := (Bool.and_eq_true _ _).mp h
    obtain ⟨ns, hds, h3⟩ := within_ints h1
    refine ⟨ns, by rw [hds], h3, ?_⟩
    rw [hds, intsOf_map] at h2
    exact h2
theorem others_ints {v : D} {i m : Int} (h : othersD v i m = true) : ∃ ns : List Int, seqD v = some (ns.map .int) ∧ (∀ i ∈ ns, 0 ≤ i ∧ i ≤ m - 1) ∧ incB ns = true ∧ i ∉ ns := by
  unfold othersD at h
  obtain ⟨h1, h2⟩ := (Bool.and_eq_true _ _).mp h
  obtain ⟨ns, q1, q2, q3⟩ := below_ints h1
  refine ⟨ns, q1, q2, q3, ?_⟩
  rw [q1] at h2
  simp only [any_ints] at h2
  simpa using h2
theorem all_rows {m : Int} : ∀ {ds : List D} {k : Nat}, (enumFrom' k ds).all (othQ m) = true → ∃ sup, rowsI ds = some sup ∧ sup.length = ds.length
  | [], _, _ => ⟨[], rfl, rfl⟩
  | d :: ds, k, h => by
    have h : (othersD d k m && (enumFrom' (k + 1) ds).all (othQ m)) = true := h
    obtain ⟨h1, h2⟩ := (Bool.and_eq_true _ _).mp h
    obtain ⟨sup, q1, q2⟩ := all_rows h2
    obtain ⟨ns, q3, _⟩ := others_ints h1
    refine ⟨ns :: sup, ?_, by simp [q2]⟩
    unfold rowsI
    rw [q3, Option.bind_some, intsOf_map, Option.bind_some, q1]
    rfl
theorem v_order_of {n : Nat} {v : D} {r : List D} {sup : List (List Int)} (hv : sm v = true) (hs : seqD v = some r) (hr : rowsI r = some sup) : E (n + 4) "order_of" [v] = some (.lst ((orderN sup sup.length []).map .int)) := by
  show evC T Xk (n + 4) "order_of" [v] = _
  unfold evC
  have : Xk (n + 3) "order_of" [v] = some (.lst ((orderN sup sup.length []).map .int)) := by
    unfold Xk
    rw [if_pos rfl]
    simp only []
    rw [if_pos ⟨hv, by omega⟩, hs, Option.bind_some, hr]
    rfl
  rw [this]
theorem cmp_eq {S : Hs} {a b : Int} : cmpD .Eq S (.int a) (.int b) = some (decide (a = b)) := by
  have : cmpD .Eq S (.int a) (.int b) = some (a == b) := rfl
  rw [this]
  by_cases h : a = b <;> simp [h]
theorem cmp_ne {S : Hs} {a b : Int} : cmpD .NotEq S (.int a) (.int b) = some (!decide (a = b)) := by
  have : cmpD .NotEq S (.int a) (.int b) = some (!(a == b)) := rfl
  rw [this]
  by_cases h : a = b <;> simp [h]
theorem v_web_shaped {n : Nat} {v : D} (hv : sm v = true) : E (n + 5) "is_web_shaped" [v] = some (.bl (webD v)) := by
  have hp := sm_plain hv
  rw [ev_in (fn := f_is_web_shaped) (by kernel_rfl) (by decide +kernel)]
  have c0 : E (n + 4) "is_row" [v, .int 1, .int 8] = some (.bl (rowD v 1 8)) := v_is_row hp
  cases h0 : rowD v 1 8 with
  | false =>
    rw [h0] at c0
    simp [evB, f_is_web_shaped, CE.isStar, c0, webD, h0]
  | true =>
    rw [h0] at c0
    cases hs : seqD v with
    | none => simp [rowD, hs] at h0
    | some ds =>
      obtain ⟨hl, hd⟩ := sm_seq hv hs
      have c1 : evE (E (n + 4)) (.comp false (.call "are_others" [.var 2, .var 1, .bi .len [.var 0]]) (.tg [.nm 1, .nm 2]) (.enum (.var 0)) [] [("node", 1), ("suppliers", 2)]) [some v, none, none] = some (.lst ((enumFrom' 0 ds).map fun d => .bl (othQ ds.length d))) := by
        refine ev_map _ (xs := enumFrom' 0 ds) (by simp [seq_itemsE hs]) (by rw [enum_length]; omega) fun x hx => ?_
        obtain ⟨i, d, rfl, hm⟩ := enum_mem hx
        refine ⟨[some v, some (.int i), some d], by simp [wipeD, asgG, asgGs, seqOf], ?_⟩
        have := v_are_others (n := n) (node := i) (many := ds.length) (sms_mem hd hm)
        simp [CE.isStar, seq_len hs, this, othQ]
      have c2 := all_bls (f := othQ ds.length) (ds := enumFrom' 0 ds)
      generalize ((enumFrom' 0 ds).map fun d => D.bl (othQ ds.length d)) = bs at c1 c2
      cases h1 : (enumFrom' 0 ds).all (othQ ds.length) with
      | false =>
        rw [h1] at c2
        simp [evB, f_is_web_shaped, CE.isStar, c0, c1, c2, webD, h0, hs, h1]
      | true =>
        obtain ⟨sup, h2, h3⟩ := all_rows h1
        rw [h1] at c2
        have c3 := v_order_of (n := n) hv hs h2
        have c4 : biD .len Mp.S0 [.lst ((orderN sup sup.length []).map .int)] = some (.int ((orderN sup sup.length []).length : Int)) := by
          simp [biD, vw]
        simp [evB, f_is_web_shaped, CE.isStar, c0, c1, c2, c3, c4, webD, h0, hs, h1, seq_len hs, h2, cmp_eq]
        rw [h3]
        by_cases e : (orderN sup ds.length []).length = ds.length
        · simp [e]
        · simp [e]; omega

theorem v_is_web {n : Nat} {v : D} (hv : sm v = true) : E (n + 6) "is_web" [v] = some (.bl (webD v)) := by
  rw [ev_in (fn := f_is_web) (by kernel_rfl) (by decide +kernel)]
  simp [evB, f_is_web, CE.isStar, v_web_shaped hv]
/-! ### conditions, habits -/
def condD (v : D) (node many : Int) : Bool := rowD v 2 2 && (match seqD v with
  | some ds => ds.all (fun d => othersD d node many) && (match rowsI ds with
    | some [a, b] => !(a.any fun i => decide (i ∈ b))
    | _ => false)
  | none => false)
theorem all_rows2 {m node : Int} : ∀ {ds : List D}, ds.all (fun d => othersD d node m) = true → ∃ sup, rowsI ds = some sup ∧ sup.length = ds.length
  | [], _ => ⟨[], rfl, rfl⟩
  | d :: ds, h => by
    have h : (othersD d node m && ds.all (fun d => othersD d node m)) = true := h
    obtain ⟨h1, h2⟩ := (Bool.and_eq_true _ _).mp h
    obtain ⟨sup, q1, q2⟩ := all_rows2 h2
    obtain ⟨ns, q3, _⟩ := others_ints h1
    refine ⟨ns :: sup, ?_, by simp [q2]⟩
    unfold rowsI
    rw [q3, Option.bind_some, intsOf_map, Option.bind_some, q1]
    rfl
theorem v_is_condition {n : Nat} {v : D} {node many : Int} (hv : sm v = true) : E (n + 5) "is_condition" [v, .int node, .int many] = some (.bl (condD v node many)) := by
  have hp := sm_plain hv
  rw [ev_in (fn := f_is_condition) (by kernel_rfl) (by decide +kernel)]
  have c0 : E (n + 4) "is_row" [v, .int 2, .int 2] = some (.bl (rowD v 2 2)) := v_is_row hp
  cases h0 : rowD v 2 2 with
  | false =>
    rw [h0] at c0
    simp [evB, f_is_condition, CE.isStar, c0, condD, h0]
  | true =>
    rw [h0] at c0
    cases hs : seqD v with
    | none => simp [rowD, hs] at h0
    | some ds =>
      obtain ⟨hl, hd⟩ := sm_seq hv hs
      have c1 : evE (E (n + 4)) (.comp false (.call "are_others" [.var 3, .var 1, .var 2]) (.nm 3) (.seq (.var 0)) [] [("nodes", 3)]) [some v, some (.int node), some (.int many), none] = some (.lst (ds.map fun d => .bl (othersD d node many))) := by
        refine ev_map _ (xs := ds) (by simp [seq_items hs]) (by omega) fun x hx => ⟨[some v, some (.int node), some (.int many), some x], by simp [wipeD], ?_⟩
        simp [CE.isStar, v_are_others (n := n) (node := node) (many := many) (sms_mem hd hx)]
      have c2 := all_bls (f := fun d => othersD d node many) (ds := ds)
      generalize (ds.map fun d => D.bl (othersD d node many)) = bs at c1 c2
      cases h1 : ds.all (fun d => othersD d node many) with
      | false =>
        rw [h1] at c2
        simp [evB, f_is_condition, CE.isStar, c0, c1, c2, condD, h0, hs, h1]
      | true =>
        rw [h1] at c2
        obtain ⟨sup, h2, h3⟩ := all_rows2 h1
        have hlen : ds.length = 2 := by
          unfold rowD at h0
          rw [hs] at h0
          simp only [Bool.and_eq_true, decide_eq_true_eq] at h0
          omega
        rcases ds with _ | ⟨d1, _ | ⟨d2, _ | ⟨_, _⟩⟩⟩
        · cases hlen
        · cases hlen
        · have o1 := List.all_eq_true.mp h1 d1 (by simp)
          have o2 := List.all_eq_true.mp h1 d2 (by simp)
          obtain ⟨ns, p1, p2, _⟩ := others_ints o1
          obtain ⟨ms, p3, p4, _⟩ := others_ints o2
          have hsup : rowsI [d1, d2] = some [ns, ms] := by
            unfold rowsI rowsI rowsI
            rw [p1, Option.bind_some, intsOf_map, Option.bind_some, p3, Option.bind_some, intsOf_map]
            rfl
          have hl1 : ns.length ≤ 9 := by
            have := (sm_seq (sms_mem hd (by simp)) p1).1
            simpa using this
          have c5 := v_are_apart (n := n + 3) p1 hl1 p3
          have i0 : idxD Mp.S0 v (.int 0) = some d1 := by rw [seq_idx hs]; rfl
          have i1 : idxD Mp.S0 v (.int 1) = some d2 := by rw [seq_idx hs]; rfl
          simp [evB, f_is_condition, CE.isStar, c0, c1, c2, condD, h0, hs, hsup, i0, i1, c5]
          have := h1
          simp at this
          simp [this]
        · simp at hlen
end Lw

namespace Lw
open PySem Mp
/-- a loop that leaves at the first item that fails -/
theorem evFor_all {step : D → Ev → Option Out} (p : D → Bool) (inv : Ev → Prop) : ∀ {xs : List D} {ρ : Ev}, (∀ x ∈ xs, ∀ ρ, inv ρ → (p x = true → ∃ ρ', step x ρ = some (.nx ρ') ∧ inv ρ') ∧ (p x = false → step x ρ = some (.rt (.bl false)))) → inv ρ →
    (xs.all p = true → ∃ ρ', evFor step xs ρ = some (.nx ρ') ∧ inv ρ') ∧ (xs.all p = false → evFor step xs ρ = some (.rt (.bl false)))
  | [], ρ, _, hi => ⟨fun _ => ⟨ρ, rfl, hi⟩, fun h => by cases h⟩
  | x :: xs, ρ, h, hi => by
    obtain ⟨h1, h2⟩ := h x List.mem_cons_self ρ hi
    rw [List.all_cons]
    cases e : p x with
    | false =>
      refine ⟨fun z => by (simp at z), fun _ => ?_⟩
      unfold evFor
      rw [h2 e]; rfl
    | true =>
      obtain ⟨ρ', q1, q2⟩ := h1 e
      obtain ⟨r1, r2⟩ := evFor_all p inv (fun y hy => h y (List.mem_cons_of_mem _ hy)) q2
      have ee : evFor step (x :: xs) ρ = evFor step xs ρ' := by
        show (step x ρ).bind _ = _
        rw [q1]; rfl
      rw [ee, Bool.true_and]
      exact ⟨r1, r2⟩
theorem s_for {fe : Fe} {g : CG} {it : CI} {b : List CS} {ρ : Ev} {xs : List D} (hI : evI fe it ρ = some xs) : evS fe (.forr g it b) ρ = evFor (fun x ρ2 => (asgG Mp.S0 g x ρ2).bind fun ρ3 => evSs fe b ρ3) xs ρ := by
  simp only [evS]
  rw [hI]; rfl
def habQ (m : Int) (q : D) : Bool := match q with
  | .tup [.int i, d] => rowD d 2 2 && (match seqD d with
    | some es => es.all (fun e => condD e i m)
    | none => false)
  | _ => false
def habD (v : D) : Bool := rowD v 1 8 && (match seqD v with
  | some ds => (enumFrom' 0 ds).all (habQ ds.length)
  | none => false)
theorem v_are_habits {n : Nat} {v : D} (hv : sm v = true) : E (n + 6) "are_habits" [v] = some (.bl (habD v)) := by
  have hp := sm_plain hv
  rw [ev_in (fn := f_are_habits) (by kernel_rfl) (by decide +kernel)]
  have c0 : E (n + 5) "is_row" [v, .int 1, .int 8] = some (.bl (rowD v 1 8)) := v_is_row hp
  cases h0 : rowD v 1 8 with
  | false =>
    rw [h0] at c0
    simp [evB, f_are_habits, CE.isStar, c0, habD, h0]
  | true =>
    rw [h0] at c0
    cases hs : seqD v with
    | none => simp [rowD, hs] at h0
    | some ds =>
      obtain ⟨hl, hd⟩ := sm_seq hv hs
      have hI : evI (E (n + 5)) (.enum (.var 0)) [some v, none, none, none] = some (enumFrom' 0 ds) := by simp [seq_itemsE hs]
      have F := s_for (fe := E (n + 5)) (g := .tg [.nm 1, .nm 2]) (b := [.ifs (.or (.not (.call "is_row" [.var 2, .con (.int 2), .con (.int 2)])) (.not (.bi .all [.comp false (.call "is_condition" [.var 3, .var 1, .bi .len [.var 0]]) (.nm 3) (.seq (.var 2)) [] [("one", 3)]]))) [.ret (.con (.bl false))] []]) hI
      have A := evFor_all (step := fun x ρ2 => (asgG Mp.S0 (.tg [.nm 1, .nm 2]) x ρ2).bind fun ρ3 => evSs (E (n + 5)) [.ifs (.or (.not (.call "is_row" [.var 2, .con (.int 2), .con (.int 2)])) (.not (.bi .all [.comp false (.call "is_condition" [.var 3, .var 1, .bi .len [.var 0]]) (.nm 3) (.seq (.var 2)) [] [("one", 3)]]))) [.ret (.con (.bl false))] []] ρ3)
        (habQ ds.length) (fun ρ => ∃ a b, ρ = [some v, a, b, none]) (xs := enumFrom' 0 ds) (ρ := [some v, none, none, none]) (fun x hx ρ hρ => ?_) ⟨_, _, rfl⟩
      · obtain ⟨A1, A2⟩ := A
        rw [← F] at A1 A2
        cases h1 : (enumFrom' 0 ds).all (habQ ds.length) with
        | true =>
          obtain ⟨ρ', e1, _⟩ := A1 h1
          simp [evB, f_are_habits, CE.isStar, c0, habD, h0, hs, h1, e1]
        | false =>
          have e1 := A2 h1
          simp [evB, f_are_habits, CE.isStar, c0, habD, h0, hs, h1, e1]
      · obtain ⟨a, b, rfl⟩ := hρ
        obtain ⟨i, d, rfl, hm⟩ := enum_mem hx
        have sd := sms_mem hd hm
        have c3 : E (n + 5) "is_row" [d, .int 2, .int 2] = some (.bl (rowD d 2 2)) := v_is_row (sm_plain sd)
        have hasg : asgG Mp.S0 (.tg [.nm 1, .nm 2]) (.tup [.int i, d]) [some v, a, b, none] = some [some v, some (.int i), some d, none] := by simp [asgG, asgGs, seqOf]
        simp only [hasg, Option.bind_some]
        cases h2 : rowD d 2 2 with
        | false =>
          rw [h2] at c3
          refine ⟨fun z => by (simp [habQ, h2] at z), fun _ => ?_⟩
          simp [CE.isStar, c3]
        | true =>
          rw [h2] at c3
          cases hsd : seqD d with
          | none => simp [rowD, hsd] at h2
          | some es =>
            obtain ⟨hl2, hd2⟩ := sm_seq sd hsd
            have c4 : evE (E (n + 5)) (.comp false (.call "is_condition" [.var 3, .var 1, .bi .len [.var 0]]) (.nm 3) (.seq (.var 2)) [] [("one", 3)]) [some v, some (.int i), some d, none] = some (.lst (es.map fun e => .bl (condD e i ds.length))) := by
              refine ev_map _ (xs := es) (by simp [seq_items hsd]) (by omega) fun x hx => ⟨[some v, some (.int i), some d, some x], by simp [wipeD], ?_⟩
              simp [CE.isStar, seq_len hs, v_is_condition (n := n) (node := i) (many := ds.length) (sms_mem hd2 hx)]
            have c5 := all_bls (f := fun e => condD e i ds.length) (ds := es)
            generalize (es.map fun e => D.bl (condD e i ds.length)) = bs at c4 c5
            have hq : habQ ds.length (.tup [.int i, d]) = es.all (fun e => condD e i ds.length) := by simp [habQ, h2, hsd]
            rw [hq]
            cases h3 : es.all (fun e => condD e i ds.length) with
            | false =>
              rw [h3] at c5
              refine ⟨fun z => by (cases z), fun _ => ?_⟩
              simp [CE.isStar, c3, c4, c5]
            | true =>
              rw [h3] at c5
              refine ⟨fun _ => ⟨[some v, some (.int i), some d, none], ?_, _, _, rfl⟩, fun z => by (cases z)⟩
              simp [CE.isStar, c3, c4, c5]
theorem v_is_habits {n : Nat} {v : D} (hv : sm v = true) : E (n + 7) "is_habits" [v] = some (.bl (habD v)) := by
  rw [ev_in (fn := f_is_habits) (by kernel_rfl) (by decide +kernel)]
  simp [evB, f_is_habits, CE.isStar, v_are_habits hv]
end Lw

namespace Lw
open PySem Mp
/-! ### the law's own checks -/
theorem v_law_whole {n : Nat} {v : D} (hv : v.plain = true) : E (n + 1) "_law_whole" [v] = some (.bl (isInt v)) := by
  rw [ev_in (fn := f__law_whole) (by kernel_rfl) (by decide +kernel)]
  simp [evB, f__law_whole, isiD, tn_plain hv]
  cases v <;> simp [tn, isTy, isInt, D.plain] at hv ⊢
theorem ints_of : ∀ {ds : List D}, ds.all isInt = true → ∃ ns : List Int, ds = ns.map .int
  | [], _ => ⟨[], rfl⟩
  | d :: ds, h => by
    rw [List.all_cons, Bool.and_eq_true] at h
    obtain ⟨ns, rfl⟩ := ints_of h.2
    cases d with
    | int i => exact ⟨i :: ns, rfl⟩
    | _ => cases h.1
theorem filter_none {α : Type} {p : α → Bool} : ∀ {l : List α}, l.all p = true → (l.filter fun x => !p x) = []
  | [], _ => rfl
  | a :: l, h => by
    rw [List.all_cons, Bool.and_eq_true] at h
    rw [List.filter_cons, h.1]
    simp [filter_none h.2]
theorem filter_some {α : Type} {p : α → Bool} : ∀ {l : List α}, l.all p = false → 0 < (l.filter fun x => !p x).length
  | [], h => by cases h
  | a :: l, h => by
    rw [List.all_cons] at h
    rw [List.filter_cons]
    cases e : p a with
    | false => simp
    | true =>
      rw [e, Bool.true_and] at h
      simpa using filter_some h
/-- at place k: in range, not n, above the one before -/
def okAt (ns : List Int) (n m : Int) (k : Nat) : Bool := decide (0 ≤ ns.getD k 0) && decide (ns.getD k 0 < m) && !decide (ns.getD k 0 = n) && !(decide (0 < k) && decide (ns.getD (k - 1) 0 ≥ ns.getD k 0))
def okRow (ns : List Int) (n m : Int) : Bool := (List.range ns.length).all (okAt ns n m)
theorem okRow_iff {ns : List Int} {n m : Int} : okRow ns n m = ((ns.map D.int).all (fun d => within d 0 (m - 1)) && incB ns && !decide (n ∈ ns)) := by
  rw [Bool.eq_iff_iff]
  unfold okRow incB okAt
  simp only [List.all_eq_true, Bool.and_eq_true, List.mem_range, decide_eq_true_eq, Bool.not_eq_true', Bool.and_eq_false_iff, decide_eq_false_iff_not]
  constructor
  · intro h
    refine ⟨⟨fun d hd => ?_, fun i hi => ?_⟩, fun hn => ?_⟩
    · obtain ⟨i, hi, rfl⟩ := List.mem_map.mp hd
      obtain ⟨k, hk, e⟩ := List.getElem_of_mem hi
      obtain ⟨⟨⟨h1, h2⟩, _⟩, _⟩ := h k hk
      have e2 : ns.getD k 0 = i := by rw [List.getD_eq_getElem?_getD, List.getElem?_eq_getElem hk]; exact e
      rw [e2] at h1 h2
      simp only [within, Bool.and_eq_true, decide_eq_true_eq]
      omega
    · obtain ⟨_, h4⟩ := h (i + 1) (by omega)
      rcases h4 with h4 | h4
      · omega
      · simp only [Nat.add_sub_cancel] at h4
        omega
    · obtain ⟨k, hk, e⟩ := List.getElem_of_mem hn
      obtain ⟨⟨_, h3⟩, _⟩ := h k hk
      apply h3
      rw [List.getD_eq_getElem?_getD, List.getElem?_eq_getElem hk]; exact e
  · rintro ⟨⟨h1, h2⟩, h3⟩ k hk
    have e2 : ns.getD k 0 = ns[k] := by rw [List.getD_eq_getElem?_getD, List.getElem?_eq_getElem hk]; rfl
    have hw := h1 (.int ns[k]) (List.mem_map.mpr ⟨_, List.getElem_mem hk, rfl⟩)
    simp only [within, Bool.and_eq_true, decide_eq_true_eq] at hw
    refine ⟨⟨⟨by rw [e2]; exact hw.1, by rw [e2]; omega⟩, fun e => h3 (by rw [← e, e2]; exact List.getElem_mem hk)⟩, ?_⟩
    by_cases h0 : 0 < k
    · refine .inr ?_
      have := h2 (k - 1) (by omega)
      have ek : k - 1 + 1 = k := by omega
      rw [ek] at this
      omega
    · exact .inl h0
/-- a row of the law's check is one of the program's -/
theorem row_same {es : List D} {n m : Int} : othersD (.tup es) n m = (es.all isInt && okRow ((intsOf es).getD []) n m) := by
  unfold othersD belowD
  simp only [seqD]
  cases h : es.all isInt with
  | true =>
    obtain ⟨ns, rfl⟩ := ints_of h
    rw [intsOf_map, any_ints]
    simp only [Option.getD_some, Bool.true_and]
    rw [okRow_iff]
  | false =>
    have : es.all (fun d => within d 0 (m - 1)) = false := by
      cases e : es.all (fun d => within d 0 (m - 1)) with
      | false => rfl
      | true =>
        obtain ⟨ns, rfl, _⟩ := within_ints e
        rw [List.all_map] at h
        have : (ns.all (isInt ∘ D.int)) = true := List.all_eq_true.mpr fun _ _ => rfl
        rw [this] at h; cases h
    rw [this]; rfl
/-! elimination -/
def leftF (sup : List (List Int)) (L : List Int) : List Int := L.filter fun n => (sup.getD n.toNat []).any fun k => decide (k ∈ L)
def leftN (sup : List (List Int)) : Nat → List Int → List Int
  | 0, L => L
  | n + 1, L => leftN sup n (leftF sup L)
theorem left_step {sup : List (List Int)} {f : List Int} (h : ∀ i ∈ rngM sup.length, ∀ k ∈ sup.getD i.toNat [], k ∈ rngM sup.length) : leftF sup ((rngM sup.length).filter fun i => decide (i ∉ f)) = (rngM sup.length).filter fun i => decide (i ∉ f ++ stepO sup f) := by
  unfold leftF
  rw [List.filter_filter]
  refine List.filter_congr fun i hi => ?_
  rw [Bool.eq_iff_iff]
  simp only [Bool.and_eq_true, List.any_eq_true, decide_eq_true_eq, List.mem_filter, List.mem_append, not_or]
  constructor
  · rintro ⟨⟨k, hk, _, hkf⟩, hif⟩
    exact ⟨hif, fun hs => hkf ((step_mem.mp hs).2.2 k hk)⟩
  · rintro ⟨hif, hs⟩
    refine ⟨?_, hif⟩
    have : ¬ ∀ k ∈ sup.getD i.toNat [], k ∈ f := fun z => hs (step_mem.mpr ⟨hi, hif, z⟩)
    obtain ⟨k, hk⟩ := Classical.not_forall.mp this
    have hk2 : k ∈ sup.getD i.toNat [] ∧ k ∉ f := ⟨Classical.byContradiction fun z => hk fun q => absurd q z, fun z => hk fun _ => z⟩
    exact ⟨k, hk2.1, h i hi k hk2.1, hk2.2⟩
theorem left_all {sup : List (List Int)} (h : ∀ i ∈ rngM sup.length, ∀ k ∈ sup.getD i.toNat [], k ∈ rngM sup.length) : ∀ (t : Nat) (f : List Int), leftN sup t ((rngM sup.length).filter fun i => decide (i ∉ f)) = (rngM sup.length).filter fun i => decide (i ∉ orderN sup t f)
  | 0, f => rfl
  | t + 1, f => by
    show leftN sup t (leftF sup _) = _
    rw [left_step h]
    exact left_all h t _
/-- no more than the nodes, each once -/
theorem ord_sub {sup : List (List Int)} : ∀ (t : Nat) (f : List Int), f.Nodup → (∀ i ∈ f, i ∈ rngM sup.length) → (orderN sup t f).Nodup ∧ ∀ i ∈ orderN sup t f, i ∈ rngM sup.length
  | 0, f, h1, h2 => ⟨h1, h2⟩
  | t + 1, f, h1, h2 => by
    refine ord_sub t _ ?_ ?_
    · rw [List.nodup_append]
      refine ⟨h1, ?_, fun a ha b hb e => ?_⟩
      · unfold stepO
        refine List.Pairwise.filter _ (List.Pairwise.map _ (fun a b h e => h (Int.ofNat.inj e)) List.nodup_range)
      · subst e
        exact (step_mem.mp hb).2.1 ha
    · intro i hi
      rcases List.mem_append.mp hi with hi | hi
      · exact h2 i hi
      · exact (step_mem.mp hi).1

theorem len_le : ∀ {l r : List Int}, l.Nodup → (∀ x ∈ l, x ∈ r) → l.length ≤ r.length
  | [], _, _, _ => Nat.zero_le _
  | a :: l, r, h, hs => by
    have hn := List.nodup_cons.mp h
    have ha := hs a List.mem_cons_self
    have := len_le (l := l) (r := r.erase a) hn.2 fun x hx => (List.mem_erase_of_ne (fun e : x = a => hn.1 (by subst e; exact hx))).mpr (hs x (List.mem_cons_of_mem _ hx))
    rw [List.length_erase_of_mem ha] at this
    have : 0 < r.length := List.length_pos_of_mem ha
    rw [List.length_cons]
    omega
theorem rngM_len {m : Nat} : (rngM m).length = m := by simp [rngM]
theorem left_order {sup : List (List Int)} (h : ∀ i ∈ rngM sup.length, ∀ k ∈ sup.getD i.toNat [], k ∈ rngM sup.length) (hl : sup.length ≤ 8) : (leftN sup 8 (rngM sup.length)).length = 0 ↔ (orderN sup sup.length []).length = sup.length := by
  have e0 : rngM sup.length = (rngM sup.length).filter fun i => decide (i ∉ ([] : List Int)) := by
    rw [List.filter_eq_self.mpr fun a _ => by simp]
  have e1 : leftN sup 8 (rngM sup.length) = (rngM sup.length).filter fun i => decide (i ∉ orderN sup sup.length []) := by
    have e2 := left_all h 8 []
    rw [← e0] at e2
    rw [e2]
    have : orderN sup (sup.length + (8 - sup.length)) [] = orderN sup 8 [] := by congr 1; omega
    rw [← this, ord_add, ord_fix (ord_end _ _ mu_le)]
  rw [e1]
  obtain ⟨n1, n2⟩ := ord_sub (sup := sup) sup.length [] List.nodup_nil (fun _ z => by cases z)
  constructor
  · intro hz
    have hsub : ∀ i ∈ rngM sup.length, i ∈ orderN sup sup.length [] := fun i hi => Classical.byContradiction fun z => by
      have : i ∈ (rngM sup.length).filter fun i => decide (i ∉ orderN sup sup.length []) := List.mem_filter.mpr ⟨hi, by simpa using z⟩
      rw [List.eq_nil_of_length_eq_zero hz] at this
      cases this
    have nd : (rngM sup.length).Nodup := List.Pairwise.map _ (fun a b h e => h (Int.ofNat.inj e)) List.nodup_range
    have l1 := len_le n1 n2
    have l2 := len_le nd hsub
    rw [rngM_len] at l1 l2
    omega
  · intro he
    cases e : (rngM sup.length).filter fun i => decide (i ∉ orderN sup sup.length []) with
    | nil => rfl
    | cons a l =>
      have ha : a ∈ (rngM sup.length).filter fun i => decide (i ∉ orderN sup sup.length []) := by rw [e]; exact List.mem_cons_self
      obtain ⟨h1, h2⟩ := List.mem_filter.mp ha
      have := len_le (l := a :: orderN sup sup.length []) (r := rngM sup.length) (List.nodup_cons.mpr ⟨by simpa using h2, n1⟩) (fun x hx => by
        rcases List.mem_cons.mp hx with rfl | hx
        · exact h1
        · exact n2 x hx)
      rw [rngM_len, List.length_cons, he] at this
      omega
end Lw

namespace Lw
open PySem Mp
mutual
/-- tuples and atoms -/
def td : D → Bool
  | .tup ds => tds ds
  | .lst _ => false
  | .scr _ => false
  | .ref _ => false
  | _ => true
def tds : List D → Bool
  | [] => true
  | d :: ds => td d && tds ds
end
theorem tds_mem : ∀ {ds : List D} {d : D}, tds ds = true → d ∈ ds → td d = true
  | d :: ds, e, h, hm => by
    simp only [tds, Bool.and_eq_true] at h
    rcases List.mem_cons.mp hm with rfl | hm
    · exact h.1
    · exact tds_mem h.2 hm
def isTup : D → Bool
  | .tup _ => true
  | _ => false
def itemsT : D → List D
  | .tup ds => ds
  | _ => []
def rowL (n m : Int) (d : D) : Bool := isTup d && (itemsT d).all isInt && okRow ((intsOf (itemsT d)).getD []) n m
theorem rowL_oth {d : D} {n m : Int} (h : td d = true) : rowL n m d = othersD d n m := by
  cases d with
  | tup es =>
    rw [row_same]
    simp [rowL, isTup, itemsT]
  | _ => first | (simp [td] at h; done) | rfl
theorem range0i {m : Nat} (h : m ≤ 1000) : rngOf [.int (m : Int)] = some ((List.range m).map fun (i : Nat) => D.int (i : Int)) := by
  rw [range0 h]
  unfold rngM
  rw [List.map_map]; rfl
theorem wholes {n : Nat} {e0 e1 e2 e3 : Option D} {es : List D} {cl : Option D} (h : D.plains es = true) (hl : es.length ≤ 9) : evE (E (n + 1)) (.comp false (.var 5) (.nm 5) (.seq (.var 4)) [.not (.call "_law_whole" [.var 5])] [("k", 5)]) [e0, e1, e2, e3, some (.tup es), cl] = some (.lst ((es.filter fun d => !isInt d).map id)) := by
  have hpm : ∀ {l : List D} {d : D}, D.plains l = true → d ∈ l → d.plain = true := by
    intro l
    induction l with
    | nil => intro d _ hd; cases hd
    | cons a l ih =>
      intro d hp hd
      simp only [D.plains, Bool.and_eq_true] at hp
      rcases List.mem_cons.mp hd with rfl | hd
      · exact hp.1
      · exact ih hp.2 hd
  refine ev_filter _ _ (xs := es) (by simp [itemsOf]) (by omega) fun x hx => ⟨[e0, e1, e2, e3, some (.tup es), some x], by simp [wipeD], ?_, fun _ => by simp⟩
  simp [CE.isStar, v_law_whole (n := n) (hpm h hx)]
theorem cmp_le {S : Hs} {a b : Int} : cmpD .LtE S (.int a) (.int b) = some (decide (a ≤ b)) := rfl
theorem cmp_lt {S : Hs} {a b : Int} : cmpD .Lt S (.int a) (.int b) = some (decide (a < b)) := rfl
theorem cmp_gt {S : Hs} {a b : Int} : cmpD .Gt S (.int a) (.int b) = some (decide (b < a)) := rfl
theorem cmp_ge {S : Hs} {a b : Int} : cmpD .GtE S (.int a) (.int b) = some (decide (b ≤ a)) := rfl
theorem op_sub {a b : Int} : opD .Sub (.int a) (.int b) = some (.int (a - b)) := rfl
/-- the inner loop over a row of whole numbers -/
def inB : List CS := [.ifs (.or (.not (.cmp2 .LtE .Lt (.con (.int 0)) (.idx (.var 4) (.var 5)) (.bi .len [.var 0]))) (.or (.cmp .Eq (.idx (.var 4) (.var 5)) (.var 1)) (.and (.cmp .Gt (.var 5) (.con (.int 0))) (.cmp .GtE (.idx (.var 4) (.op .Sub (.var 5) (.con (.int 1)))) (.idx (.var 4) (.var 5)))))) [.ret (.con (.bl false))] []]
theorem in_loop {fe : Fe} {ds : List D} {n : Int} {ns : List Int} {o2 o3 o5 : Option D} (hl : ns.length ≤ 9) :
    (okRow ns n ds.length = true → ∃ x, evS fe (.forr (.nm 5) (.rng [.bi .len [.var 4]]) inB) [some (.tup ds), some (.int n), o2, o3, some (.tup (ns.map .int)), o5] = some (.nx [some (.tup ds), some (.int n), o2, o3, some (.tup (ns.map .int)), x])) ∧
    (okRow ns n ds.length = false → evS fe (.forr (.nm 5) (.rng [.bi .len [.var 4]]) inB) [some (.tup ds), some (.int n), o2, o3, some (.tup (ns.map .int)), o5] = some (.rt (.bl false))) := by
  have hI : evI fe (.rng [.bi .len [.var 4]]) [some (.tup ds), some (.int n), o2, o3, some (.tup (ns.map .int)), o5] = some ((List.range ns.length).map fun (i : Nat) => D.int (i : Int)) := by
    rw [ev_rng1 (show _ = some (.int (ns.length : Int)) by simp [CE.isStar, biD, vw]) rfl]
    exact range0i (by omega)
  have F := s_for (fe := fe) (g := .nm 5) (b := inB) hI
  have A := evFor_all (step := fun x ρ2 => (asgG Mp.S0 (.nm 5) x ρ2).bind fun ρ3 => evSs fe inB ρ3)
    (fun d => match d with
      | .int i => okAt ns n ds.length i.toNat
      | _ => false) (fun ρ => ∃ x, ρ = [some (.tup ds), some (.int n), o2, o3, some (.tup (ns.map .int)), x]) (xs := (List.range ns.length).map fun (i : Nat) => D.int (i : Int)) (ρ := [some (.tup ds), some (.int n), o2, o3, some (.tup (ns.map .int)), o5]) (fun x hx ρ hρ => ?_) ⟨_, rfl⟩
  · obtain ⟨A1, A2⟩ := A
    rw [← F] at A1 A2
    have e : ((List.range ns.length).map fun (i : Nat) => D.int (i : Int)).all (fun d => match d with
      | .int i => okAt ns n ds.length i.toNat
      | _ => false) = okRow ns n ds.length := by
      rw [List.all_map]; rfl
    rw [e] at A1 A2
    refine ⟨fun h => ?_, A2⟩
    obtain ⟨ρ', e1, x, rfl⟩ := A1 h
    exact ⟨x, e1⟩
  · obtain ⟨y, rfl⟩ := hρ
    obtain ⟨i, hi, rfl⟩ := List.mem_map.mp hx
    have hi := List.mem_range.mp hi
    have i1 : idxD Mp.S0 (.tup (ns.map .int)) (.int (i : Int)) = some (.int (ns.getD i 0)) := by
      rw [seq_idx (ds := ns.map .int) rfl, atI_nat (by simpa using hi), getD_map hi]
    have i2 : 0 < i → idxD Mp.S0 (.tup (ns.map .int)) (.int ((i : Int) - 1)) = some (.int (ns.getD (i - 1) 0)) := fun h0 => by
      have : (i : Int) - 1 = ((i - 1 : Nat) : Int) := by omega
      rw [this, seq_idx (ds := ns.map .int) rfl, atI_nat (by simp; omega), getD_map (by omega)]
    have hlen : biD .len Mp.S0 [.tup ds] = some (.int (ds.length : Int)) := rfl
    have step : evSs fe inB [some (.tup ds), some (.int n), o2, o3, some (.tup (ns.map .int)), some (.int (i : Int))] = some (if okAt ns n ds.length i = true then .nx [some (.tup ds), some (.int n), o2, o3, some (.tup (ns.map .int)), some (.int (i : Int))] else .rt (.bl false)) := by
      unfold inB okAt
      generalize ns.getD i 0 = a at *
      generalize ns.getD (i - 1) 0 = b at *
      by_cases h1 : 0 ≤ a
      · by_cases h2 : a < (ds.length : Int)
        · by_cases h3 : a = n
          · subst h3
            simp [CE.isStar, i1, hlen, cmp_le, cmp_lt, h1, h2, cmp_eq]
          · by_cases h0 : 0 < i
            · have i3 := i2 h0
              by_cases h4 : a ≤ b
              · simp [CE.isStar, i1, i3, hlen, cmp_le, cmp_lt, cmp_eq, cmp_gt, cmp_ge, op_sub, h1, h2, h3, h0, h4]
              · simp [CE.isStar, i1, i3, hlen, cmp_le, cmp_lt, cmp_eq, cmp_gt, cmp_ge, op_sub, h1, h2, h3, h0, h4]
            · have h5 : i = 0 := by omega
              subst h5
              simp [CE.isStar, hlen, cmp_le, cmp_lt, cmp_eq, cmp_gt, h1, h2, h3]
              have i4 : idxD Mp.S0 (.tup (ns.map .int)) (.int 0) = some (.int a) := i1
              simp [i4, h1, h2, h3, cmp_le, cmp_lt, cmp_eq]
        · simp [CE.isStar, i1, hlen, cmp_le, cmp_lt, h1, h2]
      · simp [CE.isStar, i1, hlen, cmp_le, cmp_lt, h1]
    have hasg : asgG Mp.S0 (.nm 5) (.int (i : Int)) [some (.tup ds), some (.int n), o2, o3, some (.tup (ns.map .int)), y] = some [some (.tup ds), some (.int n), o2, o3, some (.tup (ns.map .int)), some (.int (i : Int))] := by simp
    simp only [hasg, Option.bind_some, step]
    have ei : ((i : Int)).toNat = i := by omega
    simp only [ei]
    cases h : okAt ns n ds.length i with
    | true => exact ⟨fun _ => ⟨_, by rw [if_pos rfl], _, rfl⟩, fun z => by (cases z)⟩
    | false => exact ⟨fun z => by (cases z), fun _ => by simp⟩
end Lw

namespace Lw
open PySem Mp
def outB : List CS := [.asg (.nm 4) (.idx (.var 0) (.var 1)),
    .ifs (.or (.not (.isi (.var 4) [.tuple])) (.cmp .Gt (.bi .len [.comp false (.var 5) (.nm 5) (.seq (.var 4)) [.not (.call "_law_whole" [.var 5])] [("k", 5)]]) (.con (.int 0)))) [
      .ret (.con (.bl false))] [],
    .forr (.nm 5) (.rng [.bi .len [.var 4]]) inB]
theorem s_seq_nx {fe : Fe} {s : CS} {r : List CS} {ρ ρ' : Ev} (h : evS fe s ρ = some (.nx ρ')) : evSs fe (s :: r) ρ = evSs fe r ρ' := by
  rw [s_cons, h]; rfl
theorem s_seq_rt {fe : Fe} {s : CS} {r : List CS} {ρ : Ev} {d : D} (h : evS fe s ρ = some (.rt d)) : evSs fe (s :: r) ρ = some (.rt d) := by
  rw [s_cons, h]; rfl
theorem out_loop {n : Nat} {ds : List D} {o1 o2 o3 o4 o5 : Option D} (hv : sm (.tup ds) = true) (ht : tds ds = true) :
    (((List.range ds.length).all fun i => rowL i ds.length (ds.getD i .non)) = true → ∃ a b c, evS (E (n + 1)) (.forr (.nm 1) (.rng [.bi .len [.var 0]]) outB) [some (.tup ds), o1, o2, o3, o4, o5] = some (.nx [some (.tup ds), a, o2, o3, b, c])) ∧
    (((List.range ds.length).all fun i => rowL i ds.length (ds.getD i .non)) = false → evS (E (n + 1)) (.forr (.nm 1) (.rng [.bi .len [.var 0]]) outB) [some (.tup ds), o1, o2, o3, o4, o5] = some (.rt (.bl false))) := by
  obtain ⟨hl, hd⟩ := sm_seq hv rfl
  have hI : evI (E (n + 1)) (.rng [.bi .len [.var 0]]) [some (.tup ds), o1, o2, o3, o4, o5] = some ((List.range ds.length).map fun (i : Nat) => D.int (i : Int)) := by
    rw [ev_rng1 (show _ = some (.int (ds.length : Int)) by simp [CE.isStar, biD, vw]) rfl]
    exact range0i (by omega)
  have F := s_for (fe := E (n + 1)) (g := .nm 1) (b := outB) hI
  have A := evFor_all (step := fun x ρ2 => (asgG Mp.S0 (.nm 1) x ρ2).bind fun ρ3 => evSs (E (n + 1)) outB ρ3)
    (fun d => match d with
      | .int i => rowL i ds.length (ds.getD i.toNat .non)
      | _ => false) (fun ρ => ∃ a b c, ρ = [some (.tup ds), a, o2, o3, b, c]) (xs := (List.range ds.length).map fun (i : Nat) => D.int (i : Int)) (ρ := [some (.tup ds), o1, o2, o3, o4, o5]) (fun x hx ρ hρ => ?_) ⟨_, _, _, rfl⟩
  · obtain ⟨A1, A2⟩ := A
    rw [← F] at A1 A2
    have e : ((List.range ds.length).map fun (i : Nat) => D.int (i : Int)).all (fun d => match d with
      | .int i => rowL i ds.length (ds.getD i.toNat .non)
      | _ => false) = (List.range ds.length).all fun i => rowL i ds.length (ds.getD i .non) := by
      rw [List.all_map]; rfl
    rw [e] at A1 A2
    refine ⟨fun h => ?_, A2⟩
    obtain ⟨ρ', e1, a, b, c, rfl⟩ := A1 h
    exact ⟨a, b, c, e1⟩
  · obtain ⟨a, b, c, rfl⟩ := hρ
    obtain ⟨i, hi, rfl⟩ := List.mem_map.mp hx
    have hi := List.mem_range.mp hi
    have ei : ((i : Int)).toNat = i := by omega
    have eg : ds.getD i .non = ds[i] := by rw [List.getD_eq_getElem?_getD, List.getElem?_eq_getElem hi]; rfl
    simp only [ei, eg]
    have hm := List.getElem_mem hi
    have sd := sms_mem hd hm
    have t1 := tds_mem ht hm
    have i1 : idxD Mp.S0 (.tup ds) (.int (i : Int)) = some ds[i] := by rw [seq_idx (ds := ds) rfl, atI_nat hi, List.getElem?_eq_getElem hi]
    generalize ds[i] = d at *
    have st1 : evS (E (n + 1)) (.asg (.nm 4) (.idx (.var 0) (.var 1))) [some (.tup ds), some (.int (i : Int)), o2, o3, b, c] = some (.nx [some (.tup ds), some (.int (i : Int)), o2, o3, some d, c]) := by
      simp [i1]
    have hasg : asgG Mp.S0 (.nm 1) (.int (i : Int)) [some (.tup ds), a, o2, o3, b, c] = some [some (.tup ds), some (.int (i : Int)), o2, o3, b, c] := by simp
    simp only [hasg, Option.bind_some]
    cases d with
    | tup es =>
      obtain ⟨hl2, hd2⟩ := sm_seq sd rfl
      have hw := wholes (n := n) (e0 := some (.tup ds)) (e1 := some (.int (i : Int))) (e2 := o2) (e3 := o3) (cl := c) (sms_plain hd2) hl2
      rw [List.map_id] at hw
      have hlen : biD .len Mp.S0 [.lst (es.filter fun d => !isInt d)] = some (.int ((es.filter fun d => !isInt d).length : Int)) := rfl
      have hisi : isiD Mp.S0 (.tup es) [.tuple] = some true := rfl
      cases hall : es.all isInt with
      | false =>
        have h0 := filter_some hall
        generalize (es.filter fun d => !isInt d) = bad at *
        refine ⟨fun z => by (simp [rowL, itemsT, hall] at z), fun _ => ?_⟩
        unfold outB
        rw [s_seq_nx st1]
        refine s_seq_rt ?_
        simp [CE.isStar, hisi, hw, hlen, cmp_gt, h0]
      | true =>
        obtain ⟨ns, rfl⟩ := ints_of hall
        have h0 := filter_none hall
        rw [h0] at hw hlen
        have hrow : rowL i ds.length (.tup (ns.map .int)) = okRow ns i ds.length := by
          unfold rowL
          simp only [isTup, itemsT, hall, intsOf_map, Option.getD_some, Bool.true_and]
        rw [hrow]
        obtain ⟨L1, L2⟩ := in_loop (fe := E (n + 1)) (ds := ds) (n := i) (ns := ns) (o2 := o2) (o3 := o3) (o5 := c) (by simpa using hl2)
        have hgt : cmpD .Gt Mp.S0 (.int (([] : List D).length : Int)) (.int 0) = some false := rfl
        have st2 : evS (E (n + 1)) (.ifs (.or (.not (.isi (.var 4) [.tuple])) (.cmp .Gt (.bi .len [.comp false (.var 5) (.nm 5) (.seq (.var 4)) [.not (.call "_law_whole" [.var 5])] [("k", 5)]]) (.con (.int 0)))) [.ret (.con (.bl false))] []) [some (.tup ds), some (.int (i : Int)), o2, o3, some (.tup (ns.map .int)), c] = some (.nx [some (.tup ds), some (.int (i : Int)), o2, o3, some (.tup (ns.map .int)), c]) := by
          generalize ([] : List D).length = z at hlen hgt
          simp [CE.isStar, hisi, hw, hlen, hgt]
        refine ⟨fun h => ?_, fun h => ?_⟩
        · obtain ⟨x, e1⟩ := L1 h
          refine ⟨[some (.tup ds), some (.int (i : Int)), o2, o3, some (.tup (ns.map .int)), x], ?_, _, _, _, rfl⟩
          unfold outB
          rw [s_seq_nx st1, s_seq_nx st2, s_seq_nx e1]
          exact s_nil
        · have e1 := L2 h
          unfold outB
          rw [s_seq_nx st1, s_seq_nx st2]
          exact s_seq_rt e1
    | _ =>
      refine ⟨fun z => by (simp [rowL, isTup] at z), fun _ => ?_⟩
      first
        | (simp [td] at t1; done)
        | (unfold outB; rw [s_seq_nx st1]; refine s_seq_rt ?_; simp [CE.isStar, isiD, tnOf, isTy])
end Lw

namespace Lw
open PySem Mp
/-- a loop that takes its state along -/
theorem evFor_keep {σ : Type} {step : D → Ev → Option Out} (inv : σ → Ev → Prop) (f : σ → σ) (h : ∀ x s ρ, inv s ρ → ∃ ρ', step x ρ = some (.nx ρ') ∧ inv (f s) ρ') : ∀ {xs : List D} {s : σ} {ρ : Ev}, inv s ρ → ∃ ρ', evFor step xs ρ = some (.nx ρ') ∧ inv (Nat.repeat f xs.length s) ρ'
  | [], s, ρ, hi => ⟨ρ, rfl, hi⟩
  | x :: xs, s, ρ, hi => by
    obtain ⟨ρ1, e1, h1⟩ := h x s ρ hi
    obtain ⟨ρ2, e2, h2⟩ := evFor_keep inv f h (xs := xs) h1
    refine ⟨ρ2, ?_, ?_⟩
    · show (step x ρ).bind _ = _
      rw [e1]; exact e2
    · have : ∀ (n : Nat) (s : σ), Nat.repeat f n (f s) = f (Nat.repeat f n s) := by
        intro n
        induction n with
        | zero => intro s; rfl
        | succ n ih => intro s; show f (Nat.repeat f n (f s)) = _; rw [ih]; rfl
      show inv (f (Nat.repeat f xs.length s)) ρ2
      rw [← this]; exact h2
theorem rep_left {sup : List (List Int)} : ∀ (n : Nat) (L : List Int), Nat.repeat (leftF sup) n L = leftN sup n L
  | 0, _ => rfl
  | n + 1, L => by
    have c : ∀ (n : Nat) (s : List Int), Nat.repeat (leftF sup) n (leftF sup s) = leftF sup (Nat.repeat (leftF sup) n s) := by
      intro n
      induction n with
      | zero => intro s; rfl
      | succ n ih => intro s; show leftF sup (Nat.repeat (leftF sup) n (leftF sup s)) = _; rw [ih]; rfl
    show leftF sup (Nat.repeat (leftF sup) n L) = leftN sup n (leftF sup L)
    rw [← c, rep_left]
def leftB : List CS := [.asg (.nm 2) (.comp false (.var 1) (.nm 1) (.seq (.var 2)) [.cmp .Gt (.bi .len [.comp false (.var 5) (.nm 5) (.seq (.idx (.var 0) (.var 1))) [.cmp .In (.var 5) (.var 2)] [("k", 5)]]) (.con (.int 0))] [("n", 1)])]
theorem pos_filter {p : Int → Bool} : ∀ {l : List Int}, decide ((0 : Int) < ((l.filter p).length : Int)) = l.any p
  | [] => rfl
  | a :: l => by
    rw [List.filter_cons, List.any_cons, ← pos_filter (l := l)]
    cases e : p a with
    | true => simp
    | false => simp
theorem filt_ints {p : D → Bool} (l : List Int) : ((l.map D.int).filter p).map id = (l.filter fun i => p (.int i)).map .int := by
  rw [List.map_id, List.filter_map]; rfl
theorem left_loop {n : Nat} {ds : List D} {sup : List (List Int)} {a b c d : Option D} {L : List Int} (hv : sm (.tup ds) = true) (hr : rowsI ds = some sup) (hL : ∀ i ∈ L, i ∈ rngM sup.length) (hll : L.length ≤ 9) :
    ∃ ρ' a' b', evSs (E n) leftB [some (.tup ds), a, some (.lst (L.map .int)), b, c, d] = some (.nx ρ') ∧ ρ' = [some (.tup ds), a', some (.lst ((leftF sup L).map .int)), b, c, b'] := by
  obtain ⟨hl, hd⟩ := sm_seq hv rfl
  obtain ⟨q1, q2⟩ := rowsI_at hr
  have c1 : evE (E n) (.comp false (.var 1) (.nm 1) (.seq (.var 2)) [.cmp .Gt (.bi .len [.comp false (.var 5) (.nm 5) (.seq (.idx (.var 0) (.var 1))) [.cmp .In (.var 5) (.var 2)] [("k", 5)]]) (.con (.int 0))] [("n", 1)]) [some (.tup ds), a, some (.lst (L.map .int)), b, c, d] = some (.lst (((L.map D.int).filter fun x => match x with
      | .int i => (sup.getD i.toNat []).any fun k => decide (k ∈ L)
      | _ => false).map id)) := by
    refine ev_filter _ _ (xs := L.map .int) (by simp [itemsOf]) (by simp; omega) fun x hx => ?_
    obtain ⟨i, hi, rfl⟩ := List.mem_map.mp hx
    have hi2 := hL i hi
    unfold rngM at hi2
    obtain ⟨j, hj, rfl⟩ := List.mem_map.mp hi2
    have hj := List.mem_range.mp hj
    obtain ⟨e, he⟩ : ∃ e, ds[j]? = some e := ⟨_, List.getElem?_eq_getElem (by omega)⟩
    obtain ⟨ns, hn2, hn3⟩ := q2 j e he
    have hgd : sup.getD ((j : Int).toNat) [] = ns := by
      rw [List.getD_eq_getElem?_getD]
      simp [hn2]
    have hnl : ns.length ≤ 9 := by
      have := (sm_seq (sms_mem hd (List.mem_of_getElem? he)) hn3).1
      simpa using this
    have i1 : idxD Mp.S0 (.tup ds) (.int (j : Int)) = some e := by rw [seq_idx (ds := ds) rfl, atI_nat (by omega), he]
    have c2 : evE (E n) (.comp false (.var 5) (.nm 5) (.seq (.idx (.var 0) (.var 1))) [.cmp .In (.var 5) (.var 2)] [("k", 5)]) [some (.tup ds), some (.int (j : Int)), some (.lst (L.map .int)), b, c, d] = some (.lst (((ns.map D.int).filter fun x => match x with
        | .int k => decide (k ∈ L)
        | _ => false).map id)) := by
      refine ev_filter _ _ (xs := ns.map .int) (by simp [i1, seq_items hn3]) (by simp; omega) fun x hx => ?_
      obtain ⟨k, hk, rfl⟩ := List.mem_map.mp hx
      refine ⟨[some (.tup ds), some (.int (j : Int)), some (.lst (L.map .int)), b, c, some (.int k)], by simp [wipeD], ?_, fun _ => by simp⟩
      have : cmpD .In Mp.S0 (.int k) (.lst (L.map .int)) = some (decide (k ∈ L)) := in_ints
      simp [this]
    rw [filt_ints] at c2
    have hgt : cmpD .Gt Mp.S0 (.int (((ns.filter fun i => decide (i ∈ L)).map D.int).length : Int)) (.int 0) = some (ns.any fun k => decide (k ∈ L)) := by
      rw [cmp_gt, List.length_map, pos_filter]
    have hlen : biD .len Mp.S0 [.lst ((ns.filter fun i => decide (i ∈ L)).map .int)] = some (.int (((ns.filter fun i => decide (i ∈ L)).map D.int).length : Int)) := rfl
    simp only [] at c2
    generalize ((ns.filter fun i => decide (i ∈ L)).map D.int) = g at *
    refine ⟨[some (.tup ds), some (.int (j : Int)), some (.lst (L.map .int)), b, c, d], by simp [wipeD], ?_, fun _ => by simp⟩
    simp only [hgd]
    rw [x_cmp, x_bi, x_cons, x_nil, c2, x_con]
    simp [CE.isStar, hlen, hgt]
  rw [filt_ints] at c1
  refine ⟨_, a, d, ?_, rfl⟩
  unfold leftB
  have st : evS (E n) (.asg (.nm 2) (.comp false (.var 1) (.nm 1) (.seq (.var 2)) [.cmp .Gt (.bi .len [.comp false (.var 5) (.nm 5) (.seq (.idx (.var 0) (.var 1))) [.cmp .In (.var 5) (.var 2)] [("k", 5)]]) (.con (.int 0))] [("n", 1)])) [some (.tup ds), a, some (.lst (L.map .int)), b, c, d] = some (.nx [some (.tup ds), a, some (.lst ((leftF sup L).map .int)), b, c, d]) := by
    rw [s_asg, c1]
    simp [leftF]
  rw [s_seq_nx st]
  exact s_nil
end Lw

namespace Lw
open PySem Mp
theorem enum_range {m : Int} : ∀ {ds : List D} {k : Nat}, (enumFrom' k ds).all (othQ m) = (List.range ds.length).all fun i => othersD (ds.getD i .non) ((k + i : Nat) : Int) m
  | [], _ => rfl
  | d :: ds, k => by
    show (othersD d k m && (enumFrom' (k + 1) ds).all (othQ m)) = _
    rw [enum_range, List.length_cons, List.range_succ_eq_map, List.all_cons, List.all_map]
    congr 1
    · congr 1
      funext i
      simp only [Function.comp, Nat.succ_eq_add_one]
      have : k + 1 + i = k + (i + 1) := by omega
      rw [this]; rfl
theorem web_rows {ds : List D} (ht : tds ds = true) : (enumFrom' 0 ds).all (othQ ds.length) = (List.range ds.length).all fun i => rowL i ds.length (ds.getD i .non) := by
  rw [enum_range, Bool.eq_iff_iff, List.all_eq_true, List.all_eq_true]
  have e : ∀ i ∈ List.range ds.length, rowL i ds.length (ds.getD i .non) = othersD (ds.getD i .non) ((0 + i : Nat) : Int) ds.length := fun i hi => by
    have hi := List.mem_range.mp hi
    have eg : ds.getD i .non = ds[i] := by rw [List.getD_eq_getElem?_getD, List.getElem?_eq_getElem hi]; rfl
    rw [Nat.zero_add]
    refine rowL_oth ?_
    rw [eg]
    exact tds_mem ht (List.getElem_mem hi)
  exact ⟨fun h i hi => by rw [e i hi]; exact h i hi, fun h i hi => by rw [← e i hi]; exact h i hi⟩
theorem sup_in {m : Nat} : ∀ {ds : List D} {k : Nat} {sup : List (List Int)}, (enumFrom' k ds).all (othQ m) = true → rowsI ds = some sup → ∀ r ∈ sup, ∀ i ∈ r, 0 ≤ i ∧ i ≤ (m : Int) - 1
  | [], _, sup, _, h => by cases h; intro r hr; cases hr
  | d :: ds, k, sup, ha, h => by
    have ha : (othersD d k m && (enumFrom' (k + 1) ds).all (othQ m)) = true := ha
    obtain ⟨h1, h2⟩ := (Bool.and_eq_true _ _).mp ha
    obtain ⟨ns, p1, p2, _⟩ := others_ints h1
    unfold rowsI at h
    rw [p1, Option.bind_some, intsOf_map, Option.bind_some] at h
    obtain ⟨s2, q1, q2⟩ := Option.map_eq_some_iff.mp h
    subst q2
    intro r hr
    rcases List.mem_cons.mp hr with rfl | hr
    · exact p2
    · exact sup_in h2 q1 r hr
theorem mem_rngM {m : Nat} {i : Int} (h : 0 ≤ i ∧ i ≤ (m : Int) - 1) : i ∈ rngM m := by
  unfold rngM
  exact List.mem_map.mpr ⟨i.toNat, List.mem_range.mpr (by omega), by omega⟩
theorem left_web {ds : List D} {sup : List (List Int)} (ha : (enumFrom' 0 ds).all (othQ ds.length) = true) (hr : rowsI ds = some sup) (hl : ds.length ≤ 8) : decide ((leftN sup 8 (rngM sup.length)).length = 0) = decide ((orderN sup sup.length []).length = sup.length) := by
  have hlen := (rowsI_at hr).1
  have := left_order (sup := sup) (fun i hi k hk => by
    have hr2 : sup.getD i.toNat [] ∈ sup := by
      unfold rngM at hi
      obtain ⟨j, hj, rfl⟩ := List.mem_map.mp hi
      have hj := List.mem_range.mp hj
      have e : sup.getD ((j : Int).toNat) [] = sup[j] := by
        rw [List.getD_eq_getElem?_getD]
        simp [List.getElem?_eq_getElem hj]
      rw [e]
      exact List.getElem_mem hj
    have := sup_in ha hr _ hr2 k hk
    rw [hlen] at this
    exact mem_rngM this) (by omega)
  exact decide_eq_decide.mpr this
theorem ev_lrng {fe : Fe} {ρ : Ev} {a : CE} {x : D} {z : List D} (ha : evE fe a ρ = some x) (sa : a.isStar = false) (hz : rngOf [x] = some z) (hl : z.length ≤ 1000) : evE fe (.lrng false [a]) ρ = some (.lst z) := by
  rw [x_lrng, x_cons, x_nil, sa, ha]
  simp only [Bool.false_eq_true, if_false, Option.bind_some, Option.map_some]
  rw [hz, Option.bind_some, if_pos (Nat.le_trans hl (by decide))]
end Lw

namespace Lw
open PySem Mp
def webS1 : CS := .ifs (.or (.not (.isi (.var 0) [.tuple])) (.not (.cmp2 .LtE .LtE (.con (.int 1)) (.bi .len [.var 0]) (.con (.int 8))))) [.ret (.con (.bl false))] []
def webB : List CS := [webS1, .forr (.nm 1) (.rng [.bi .len [.var 0]]) outB, .asg (.nm 2) (.lrng false [.bi .len [.var 0]]), .forr (.nm 3) (.rng [.con (.int 8)]) leftB, .ret (.cmp .Eq (.bi .len [.var 2]) (.con (.int 0)))]
theorem web_body : f__law_is_web.body = webB := rfl
theorem evB_of {fe : Fe} {fn : Fn} {ds : List D} {r : D} (hl : ds.length = fn.ps.length) (h : evSs fe fn.body (ds.map some ++ List.replicate (fn.N.length - ds.length) none) = some (.rt r)) : evB fe fn ds = some r := by
  unfold evB
  rw [if_pos hl, h]; rfl
theorem v_law_is_web {n : Nat} {v : D} (hv : sm v = true) (ht : td v = true) : E (n + 2) "_law_is_web" [v] = some (.bl (webD v)) := by
  rw [ev_in (fn := f__law_is_web) (by kernel_rfl) (by decide +kernel)]
  refine evB_of rfl ?_
  rw [web_body]
  show evSs (E (n + 1)) webB [some v, none, none, none, none, none] = _
  cases v with
  | tup ds =>
    obtain ⟨hl, hd⟩ := sm_seq hv rfl
    have ht : tds ds = true := by simpa only [td] using ht
    have hlen : biD .len Mp.S0 [.tup ds] = some (.int (ds.length : Int)) := rfl
    have hisi : isiD Mp.S0 (.tup ds) [.tuple] = some true := rfl
    have hrow : rowD (.tup ds) 1 8 = (decide ((1 : Int) ≤ ds.length) && decide ((ds.length : Int) ≤ 8)) := rfl
    cases h0 : rowD (.tup ds) 1 8 with
    | false =>
      have st : evS (E (n + 1)) webS1 [some (.tup ds), none, none, none, none, none] = some (.rt (.bl false)) := by
        rw [hrow] at h0
        unfold webS1
        by_cases h1 : (1 : Int) ≤ ds.length
        · have h2 : ¬ (ds.length : Int) ≤ 8 := by simpa [h1] using h0
          simp [CE.isStar, hisi, hlen, cmp_le, h1, h2]
        · simp [CE.isStar, hisi, hlen, cmp_le, h1]
      unfold webB
      rw [s_seq_rt st]
      simp [webD, h0]
    | true =>
      have h12 := h0
      rw [hrow, Bool.and_eq_true, decide_eq_true_eq, decide_eq_true_eq] at h12
      have st : evS (E (n + 1)) webS1 [some (.tup ds), none, none, none, none, none] = some (.nx [some (.tup ds), none, none, none, none, none]) := by
        unfold webS1
        simp [CE.isStar, hisi, hlen, cmp_le, h12.1, h12.2]
      unfold webB
      rw [s_seq_nx st]
      obtain ⟨L1, L2⟩ := out_loop (n := n) (o1 := none) (o2 := none) (o3 := none) (o4 := none) (o5 := none) hv ht
      rw [← web_rows ht] at L1 L2
      cases h1 : (enumFrom' 0 ds).all (othQ ds.length) with
      | false =>
        rw [s_seq_rt (L2 h1)]
        simp [webD, h0, seqD, h1]
      | true =>
        obtain ⟨a, b, c, e1⟩ := L1 h1
        rw [s_seq_nx e1]
        obtain ⟨sup, h2, h3⟩ := all_rows h1
        have c1 : evE (E (n + 1)) (.lrng false [.bi .len [.var 0]]) [some (.tup ds), a, none, none, b, c] = some (.lst ((rngM ds.length).map .int)) :=
          ev_lrng (x := .int (ds.length : Int)) (by simp [CE.isStar, hlen]) rfl (range0 (by omega)) (by simp [rngM]; omega)
        have s3 : evS (E (n + 1)) (.asg (.nm 2) (.lrng false [.bi .len [.var 0]])) [some (.tup ds), a, none, none, b, c] = some (.nx [some (.tup ds), a, some (.lst ((rngM sup.length).map .int)), none, b, c]) := by
          rw [s_asg, c1, h3]
          simp
        rw [s_seq_nx s3]
        have hI : evI (E (n + 1)) (.rng [.con (.int 8)]) [some (.tup ds), a, some (.lst ((rngM sup.length).map .int)), none, b, c] = some ((List.range 8).map fun (i : Nat) => D.int (i : Int)) := by
          rw [ev_rng1 x_con rfl]
          exact range0i (m := 8) (by omega)
        have F := s_for (fe := E (n + 1)) (g := .nm 3) (b := leftB) hI
        obtain ⟨ρ', e2, h4, h5, a', b', c', d', rfl⟩ := evFor_keep (σ := List Int) (step := fun x ρ2 => (asgG Mp.S0 (.nm 3) x ρ2).bind fun ρ3 => evSs (E (n + 1)) leftB ρ3)
          (fun L ρ => (∀ i ∈ L, i ∈ rngM sup.length) ∧ L.length ≤ 9 ∧ ∃ a b c d, ρ = [some (.tup ds), a, some (.lst (L.map .int)), b, c, d]) (leftF sup) (fun x L ρ hi => by
            obtain ⟨p1, p2, a, b, c, d, rfl⟩ := hi
            obtain ⟨ρ1, a1, b1, q1, q2⟩ := left_loop (n := n + 1) (a := a) (b := some x) (c := c) (d := d) hv h2 p1 p2
            refine ⟨ρ1, ?_, fun i hi => p1 i (List.mem_filter.mp hi).1, Nat.le_trans (List.length_filter_le _ _) p2, _, _, _, _, q2⟩
            have hasg : asgG Mp.S0 (.nm 3) x [some (.tup ds), a, some (.lst (L.map .int)), b, c, d] = some [some (.tup ds), a, some (.lst (L.map .int)), some x, c, d] := by simp
            simp only [hasg, Option.bind_some]
            exact q1) (xs := (List.range 8).map fun (i : Nat) => D.int (i : Int)) (s := rngM sup.length) (ρ := [some (.tup ds), a, some (.lst ((rngM sup.length).map .int)), none, b, c]) ⟨fun _ h => h, by rw [rngM_len]; omega, _, _, _, _, rfl⟩
        rw [← F] at e2
        rw [s_seq_nx e2]
        have e3 : Nat.repeat (leftF sup) ((List.range 8).map fun (i : Nat) => D.int (i : Int)).length (rngM sup.length) = leftN sup 8 (rngM sup.length) := by
          rw [rep_left]; rfl
        rw [e3]
        have hw := left_web h1 h2 (by omega)
        have hret : evS (E (n + 1)) (.ret (.cmp .Eq (.bi .len [.var 2]) (.con (.int 0)))) [some (.tup ds), a', some (.lst ((leftN sup 8 (rngM sup.length)).map .int)), b', c', d'] = some (.rt (.bl (decide ((leftN sup 8 (rngM sup.length)).length = 0)))) := by
          have hl2 : biD .len Mp.S0 [.lst ((leftN sup 8 (rngM sup.length)).map .int)] = some (.int ((leftN sup 8 (rngM sup.length)).length : Int)) := by simp [biD, vw]
          generalize leftN sup 8 (rngM sup.length) = L at *
          simp [CE.isStar, hl2, cmp_eq]
        rw [s_seq_rt hret, hw]
        simp [webD, h0, seqD, h1, h2]
  | _ =>
    first
      | (simp [td] at ht; done)
      | (unfold webB
         refine s_seq_rt ?_
         unfold webS1
         simp [CE.isStar, isiD, tnOf, isTy, webD, rowD, seqD])
end Lw

namespace Lw
open PySem Mp
mutual
/-- lists read as tuples, all the way -/
def tupD : D → D
  | .tup ds => .tup (tupDs ds)
  | .lst ds => .tup (tupDs ds)
  | .non => .non
  | .bl b => .bl b
  | .int i => .int i
  | .str x => .str x
  | .scr ns => .scr ns
  | .ref a => .ref a
def tupDs : List D → List D
  | [] => []
  | d :: ds => tupD d :: tupDs ds
end
theorem tupDs_map : ∀ ds : List D, tupDs ds = ds.map tupD
  | [] => by simp only [tupDs]; rfl
  | d :: ds => by simp only [tupDs]; rw [tupDs_map ds]; rfl
theorem seq_tup (v : D) : seqD (tupD v) = (seqD v).map fun ds => ds.map tupD := by
  cases v <;> simp only [tupD, seqD, Option.map_none, Option.map_some, tupDs_map]
theorem within_tup (v : D) (a b : Int) : within (tupD v) a b = within v a b := by
  cases v <;> simp only [tupD, within]
theorem ints_tup : ∀ ds : List D, intsOf (ds.map tupD) = intsOf ds
  | [] => rfl
  | d :: ds => by
    have ih := ints_tup ds
    cases d with
    | int i => show (intsOf (ds.map tupD)).map (i :: ·) = (intsOf ds).map (i :: ·); rw [ih]
    | _ => simp only [List.map_cons, tupD, intsOf]
theorem row_tup (v : D) (a b : Int) : rowD (tupD v) a b = rowD v a b := by
  unfold rowD
  rw [seq_tup]
  cases seqD v with
  | none => rfl
  | some ds => simp only [Option.map_some, List.length_map]
theorem below_tup (v : D) (m : Int) : belowD (tupD v) m = belowD v m := by
  unfold belowD
  rw [seq_tup]
  cases seqD v with
  | none => rfl
  | some ds =>
    simp only [Option.map_some, List.all_map, ints_tup]
    congr 2
    funext d
    exact within_tup d _ _
theorem others_tup (v : D) (n m : Int) : othersD (tupD v) n m = othersD v n m := by
  unfold othersD
  rw [below_tup]
  cases h : belowD v m with
  | false => rfl
  | true =>
    obtain ⟨ns, q1, _⟩ := below_ints h
    have q2 := seq_tup v
    rw [q1] at q2
    have e : (ns.map D.int).map tupD = ns.map .int := by rw [List.map_map]; rfl
    rw [q2, q1]
    simp only [Option.map_some, e]
theorem rows_tup : ∀ ds : List D, rowsI (ds.map tupD) = rowsI ds
  | [] => rfl
  | d :: ds => by
    show (seqD (tupD d)).bind _ = (seqD d).bind _
    rw [seq_tup]
    cases seqD d with
    | none => rfl
    | some es =>
      simp only [Option.map_some, Option.bind_some, ints_tup]
      cases intsOf es with
      | none => rfl
      | some ns => simp only [Option.bind_some]; rw [rows_tup ds]
theorem enum_tup (f g : D → Bool) (h : ∀ (i : Nat) (d : D), f (.tup [.int i, tupD d]) = g (.tup [.int i, d])) : ∀ (ds : List D) (k : Nat), (enumFrom' k (ds.map tupD)).all f = (enumFrom' k ds).all g
  | [], _ => rfl
  | d :: ds, k => by
    show (f (.tup [.int k, tupD d]) && (enumFrom' (k + 1) (ds.map tupD)).all f) = (g (.tup [.int k, d]) && (enumFrom' (k + 1) ds).all g)
    rw [h, enum_tup f g h ds (k + 1)]
/-- is_web does not see which rows are lists -/
theorem web_tup (v : D) : webD (tupD v) = webD v := by
  unfold webD
  rw [row_tup, seq_tup]
  cases seqD v with
  | none => rfl
  | some ds =>
    simp only [Option.map_some, List.length_map, rows_tup]
    rw [enum_tup (othQ ds.length) (othQ ds.length) fun i d => others_tup d i _]
theorem cond_tup (v : D) (n m : Int) : condD (tupD v) n m = condD v n m := by
  unfold condD
  rw [row_tup, seq_tup]
  cases seqD v with
  | none => rfl
  | some ds =>
    simp only [Option.map_some, List.all_map, rows_tup]
    congr 2
    congr 1
    funext d
    exact others_tup d _ _
theorem hab_tup (v : D) : habD (tupD v) = habD v := by
  unfold habD
  rw [row_tup, seq_tup]
  cases seqD v with
  | none => rfl
  | some ds =>
    simp only [Option.map_some, List.length_map]
    rw [enum_tup (habQ ds.length) (habQ ds.length) fun i d => ?_]
    unfold habQ
    simp only []
    rw [row_tup, seq_tup]
    cases seqD d with
    | none => rfl
    | some es =>
      simp only [Option.map_some, List.all_map]
      congr 2
      funext e
      exact cond_tup e _ _
end Lw

namespace Lw
open PySem Mp
theorem op_mod {a b : Int} (h : 0 < b) : opD .Mod (.int a) (.int b) = some (.int (a % b)) := by
  show (if 0 < b then some (D.int (a % b)) else none) = _
  rw [if_pos h]
theorem op_add {a b : Int} : opD .Add (.int a) (.int b) = some (.int (a + b)) := rfl
theorem op_mulR {a b : Int} (h1 : -(2 ^ 64) < b) (h2 : b < 2 ^ 64) : opD .Mult (.int a) (.int b) = some (.int (a * b)) := by
  show (if mulOk a b = true then some (D.int (a * b)) else none) = _
  rw [if_pos]
  unfold mulOk
  simp only [Bool.or_eq_true, Bool.and_eq_true, decide_eq_true_eq]
  exact .inr ⟨h1, h2⟩
theorem bi_int {a : Int} : biD .int Mp.S0 [.int a] = some (.int a) := rfl
theorem len_lst {ds : List D} : biD .len Mp.S0 [.lst ds] = some (.int (ds.length : Int)) := rfl
/-- a draw: below the limit -/
theorem idx_ints {row : List Int} {j : Int} (h0 : 0 ≤ j) (h1 : j < row.length) : idxD Mp.S0 (.lst (row.map .int)) (.int j) = some (.int (row.getD j.toNat 0)) := by
  obtain ⟨k, rfl⟩ := Int.eq_ofNat_of_zero_le h0
  have hk : k < row.length := by omega
  rw [seq_idx (ds := row.map .int) rfl, atI_nat (by simp; omega), getD_map hk]
  rfl
theorem v_law_draw {n : Nat} {row : List Int} {at_ lim : Int} (hr : row ≠ []) (ha : 0 ≤ at_) (hl : 0 < lim) : ∃ w, 0 ≤ w ∧ w < lim ∧ E (n + 1) "_law_draw" [.lst (row.map .int), .int at_, .int lim] = some (.int w) := by
  have hpos : 0 < row.length := (by cases row with
    | nil => exact absurd rfl hr
    | cons _ _ => simp)
  by_cases h : at_ < (row.length : Int)
  · have i1 := idx_ints (row := row) ha h
    refine ⟨row.getD at_.toNat 0 % lim, Int.emod_nonneg _ (by omega), Int.emod_lt_of_pos _ hl, ?_⟩
    rw [ev_in (fn := f__law_draw) (by kernel_rfl) (by decide +kernel)]
    generalize row.getD at_.toNat 0 = a at *
    have hc : cmpD .Lt Mp.S0 (.int at_) (.int (row.length : Int)) = some true := by rw [cmp_lt, decide_eq_true h]
    have hlen : biD .len Mp.S0 [.lst (row.map .int)] = some (.int (row.length : Int)) := by rw [len_lst, List.length_map]
    have hm := op_mod (a := a) hl
    simp [evB, f__law_draw, CE.isStar, hlen, hc, i1, bi_int, hm]
  · have hlen : biD .len Mp.S0 [.lst (row.map .int)] = some (.int (row.length : Int)) := by rw [len_lst, List.length_map]
    have hc : cmpD .Lt Mp.S0 (.int at_) (.int (row.length : Int)) = some false := by rw [cmp_lt, decide_eq_false h]
    have hm1 := op_mod (a := at_) (b := (row.length : Int)) (by omega)
    have hj0 : 0 ≤ at_ % (row.length : Int) := Int.emod_nonneg _ (by omega)
    have hj1 : at_ % (row.length : Int) < row.length := Int.emod_lt_of_pos _ (by omega)
    have i1 := idx_ints (row := row) hj0 hj1
    generalize row.getD (at_ % (row.length : Int)).toNat 0 = a at *
    refine ⟨((((a * 40692 + at_ * 7919 + 3) % 2147483399) * 48271 + at_) % 2147483647) % lim, Int.emod_nonneg _ (by omega), Int.emod_lt_of_pos _ hl, ?_⟩
    have m1 := op_mulR (a := a) (b := 40692) (by omega) (by omega)
    have m2 := op_mulR (a := at_) (b := 7919) (by omega) (by omega)
    have d1 := op_mod (a := a * 40692 + at_ * 7919 + 3) (b := 2147483399) (by omega)
    have m3 := op_mulR (a := (a * 40692 + at_ * 7919 + 3) % 2147483399) (b := 48271) (by omega) (by omega)
    have d2 := op_mod (a := (a * 40692 + at_ * 7919 + 3) % 2147483399 * 48271 + at_) (b := 2147483647) (by omega)
    have d3 := op_mod (a := ((a * 40692 + at_ * 7919 + 3) % 2147483399 * 48271 + at_) % 2147483647) hl
    rw [ev_in (fn := f__law_draw) (by kernel_rfl) (by decide +kernel)]
    simp [evB, f__law_draw, CE.isStar, hlen, hc, bi_int, hm1, i1, m1, m2, op_add, d1, m3, d2, d3]
end Lw

namespace Lw
open PySem Mp
/-- a take: a draw, the spot one further -/
theorem w_law_take {n : Nat} {row : List Int} {sp : Addr} {a lim : Int} {S : Hs} {k : DK} {ke : EK} (hr : row ≠ []) (hS : S sp = some (.lst [.int a])) (ha : 0 ≤ a) (hl : 0 < lim)
    (hk : ∀ w : Int, 0 ≤ w → w < lim → k (.int w) (hput S sp (.lst [.int (a + 1)]))) : wpC T (n + 2) "_law_take" [.lst (row.map .int), .ref sp, .int lim] S k ke := by
  obtain ⟨w, w0, w1, hw⟩ := v_law_draw (n := n) (row := row) hr ha hl
  have hcall := hk w w0 w1
  refine call_in (fn := f__law_take) (by kernel_rfl) ⟨rfl, ?_⟩
  have i0 : idxD S (.ref sp) (.int 0) = some (.int a) := by simp [idxD, vw, hS, L2.atI, L2.ixN]
  have i1 : idxD (hput S sp (.lst [.int (a + 1)])) (.ref sp) (.int 0) = some (.int (a + 1)) := by simp [idxD, vw, hput_same, L2.atI, L2.ixN]
  have o1 : opD .Add (.int a) (.int 1) = some (.int (a + 1)) := rfl
  have o2 : opD .Sub (.int (a + 1)) (.int 1) = some (.int a) := by
    have : opD .Sub (.int (a + 1)) (.int 1) = some (.int (a + 1 - 1)) := rfl
    rw [this]; congr 2; omega
  simp only [f__law_take, wpSs, wpS, wpE, wpEs, CE.isStar]
  simp [i0, o1, hS, vw, L2.ixN, i1, o2]
  exact pure_ok hw ⟨_, le_refl, hcall⟩
end Lw

namespace Lw
open PySem Mp
mutual
/-- tuples made lists, all the way -/
def listD : D → D
  | .tup ds => .lst (listDs ds)
  | .non => .non
  | .bl b => .bl b
  | .int i => .int i
  | .str x => .str x
  | .lst ds => .lst ds
  | .scr ns => .scr ns
  | .ref a => .ref a
def listDs : List D → List D
  | [] => []
  | d :: ds => listD d :: listDs ds
end
theorem listDs_map : ∀ ds : List D, listDs ds = ds.map listD
  | [] => by simp only [listDs]; rfl
  | d :: ds => by simp only [listDs]; rw [listDs_map ds]; rfl
theorem dep_mem : ∀ {ds : List D} {d : D}, d ∈ ds → D.dep d ≤ D.deps ds
  | e :: ds, d, h => by
    simp only [D.deps]
    rcases List.mem_cons.mp h with rfl | h
    · exact Nat.le_max_left _ _
    · exact Nat.le_trans (dep_mem h) (Nat.le_max_right _ _)
theorem v_listed : ∀ (m : Nat) (v : D), sm v = true → td v = true → D.dep v < m → E m "_law_listed" [v] = some (listD v)
  | 0, v, _, _, h => by omega
  | m + 1, v, hs, ht, h => by
    rw [ev_in (fn := f__law_listed) (by kernel_rfl) (by decide +kernel)]
    cases v with
    | tup ds =>
      obtain ⟨hl, hd⟩ := sm_seq hs rfl
      have ht : tds ds = true := by simpa only [td] using ht
      have hdep : D.deps ds + 1 < m + 1 := by simpa only [D.dep] using h
      have hisi : isiD Mp.S0 (.tup ds) [.tuple] = some true := rfl
      have c1 : evE (E m) (.comp false (.call "_law_listed" [.var 1]) (.nm 1) (.seq (.var 0)) [] [("one", 1)]) [some (.tup ds), none] = some (.lst (ds.map listD)) := by
        refine ev_map _ (xs := ds) (by simp [itemsOf]) (by omega) fun x hx => ⟨[some (.tup ds), some x], by simp [wipeD], ?_⟩
        have := v_listed m x (sms_mem hd hx) (tds_mem ht hx) (by have := dep_mem hx; omega)
        simp [CE.isStar, this]
      simp [evB, f__law_listed, CE.isStar, hisi, c1, listD, listDs_map]
    | _ =>
      first
        | (simp [td] at ht; done)
        | simp [evB, f__law_listed, CE.isStar, isiD, tnOf, isTy, listD]
theorem v_tupled : ∀ (m : Nat) (v : D), sm v = true → D.dep v < m → E m "_law_tupled" [v] = some (tupD v)
  | 0, v, _, h => by omega
  | m + 1, v, hs, h => by
    rw [ev_in (fn := f__law_tupled) (by kernel_rfl) (by decide +kernel)]
    cases v with
    | tup ds =>
      obtain ⟨hl, hd⟩ := sm_seq hs rfl
      have hdep : D.deps ds + 1 < m + 1 := by simpa only [D.dep] using h
      have hisi : isiD Mp.S0 (.tup ds) [.tuple] = some true := rfl
      have hisl : isiD Mp.S0 (.tup ds) [.list] = some false := rfl
      have c1 : evE (E m) (.comp false (.call "_law_tupled" [.var 1]) (.nm 1) (.seq (.var 0)) [] [("one", 1)]) [some (.tup ds), none] = some (.lst (ds.map tupD)) := by
        refine ev_map _ (xs := ds) (by simp [itemsOf]) (by omega) fun x hx => ⟨[some (.tup ds), some x], by simp [wipeD], ?_⟩
        have := v_tupled m x (sms_mem hd hx) (by have := dep_mem hx; omega)
        simp [CE.isStar, this]
      have ht : biD .tuple Mp.S0 [.lst (ds.map tupD)] = some (.tup (ds.map tupD)) := rfl
      simp [evB, f__law_tupled, CE.isStar, hisi, hisl, c1, ht, tupD, tupDs_map]
    | lst ds =>
      obtain ⟨hl, hd⟩ := sm_seq hs rfl
      have hdep : D.deps ds + 1 < m + 1 := by simpa only [D.dep] using h
      have hisl : isiD Mp.S0 (.lst ds) [.list] = some true := rfl
      have c1 : evE (E m) (.comp false (.call "_law_tupled" [.var 1]) (.nm 1) (.seq (.var 0)) [] [("one", 1)]) [some (.lst ds), none] = some (.lst (ds.map tupD)) := by
        refine ev_map _ (xs := ds) (by simp [itemsOf]) (by omega) fun x hx => ⟨[some (.lst ds), some x], by simp [wipeD], ?_⟩
        have := v_tupled m x (sms_mem hd hx) (by have := dep_mem hx; omega)
        simp [CE.isStar, this]
      have ht : biD .tuple Mp.S0 [.lst (ds.map tupD)] = some (.tup (ds.map tupD)) := rfl
      simp [evB, f__law_tupled, CE.isStar, hisl, c1, ht, tupD, tupDs_map]
    | _ =>
      first
        | (simp [sm] at hs; done)
        | simp [evB, f__law_tupled, CE.isStar, isiD, tnOf, isTy, tupD]
end Lw

namespace Lw
open PySem Mp
theorem evB_of2 {fe : Fe} {fn : Fn} {ds : List D} {r : D} (hl : ds.length = fn.ps.length) (h : evSs fe fn.body (ds.map some ++ List.replicate (fn.N.length - ds.length) none) = some (.rt r)) : evB fe fn ds = some r := by
  unfold evB
  rw [if_pos hl, h]; rfl
theorem s_ifs_t {fe : Fe} {t : CE} {a b : List CS} {ρ : Ev} (h : evE fe t ρ = some (.bl true)) : evS fe (.ifs t a b) ρ = evSs fe a ρ := by
  rw [s_ifs, h]; rfl
theorem s_ifs_f {fe : Fe} {t : CE} {a b : List CS} {ρ : Ev} (h : evE fe t ρ = some (.bl false)) : evS fe (.ifs t a b) ρ = evSs fe b ρ := by
  rw [s_ifs, h]; rfl
/-- two verdicts compared -/
theorem v_so_bl {n : Nat} {a c : Bool} : E (n + 1) "_law_so" [.bl a, .bl c] = some (.bl (a == c)) := by
  rw [ev_in (fn := f__law_so) (by kernel_rfl) (by decide +kernel)]
  refine evB_of2 rfl ?_
  show evSs (E n) f__law_so.body [some (.bl a), some (.bl c), none] = _
  unfold f__law_so
  simp only []
  have e1 : evE (E n) (.cmp .Is (.var 1) (.con .non)) [some (.bl a), some (.bl c), none] = some (.bl false) := rfl
  have e2 : evE (E n) (.isi (.var 1) [.tuple]) [some (.bl a), some (.bl c), none] = some (.bl false) := rfl
  have e3 : evE (E n) (.or (.isi (.var 1) [.bool]) (.isi (.var 0) [.bool])) [some (.bl a), some (.bl c), none] = some (.bl true) := rfl
  rw [s_seq_nx (ρ' := [some (.bl a), some (.bl c), none]) (by rw [s_ifs_f e1]; exact s_nil), s_seq_nx (ρ' := [some (.bl a), some (.bl c), none]) (by rw [s_ifs_f e2]; exact s_nil)]
  refine s_seq_rt ?_
  rw [s_ifs_t e3]
  refine s_seq_rt ?_
  cases a <;> cases c <;> rfl
end Lw

namespace Lw
open PySem Mp
def soB : List CS := [.ifs (.not (.call "_law_so" [.idx (.var 0) (.var 2), .idx (.var 1) (.var 2)])) [.ret (.con (.bl false))] []]
/-- a row against itself -/
theorem so_loop {m : Nat} {ds : List D} (hl : ds.length ≤ 9) (h : ∀ d ∈ ds, E m "_law_so" [d, d] = some (.bl true)) : ∃ x, evS (E m) (.forr (.nm 2) (.rng [.bi .len [.var 1]]) soB) [some (.tup ds), some (.tup ds), none] = some (.nx [some (.tup ds), some (.tup ds), x]) := by
  have hlen : biD .len Mp.S0 [.tup ds] = some (.int (ds.length : Int)) := rfl
  have hI : evI (E m) (.rng [.bi .len [.var 1]]) [some (.tup ds), some (.tup ds), none] = some ((List.range ds.length).map fun (i : Nat) => D.int (i : Int)) := by
    rw [ev_rng1 (show _ = some (.int (ds.length : Int)) by simp [CE.isStar, hlen]) rfl]
    exact range0i (by omega)
  have F := s_for (fe := E m) (g := .nm 2) (b := soB) hI
  have A := evFor_all (step := fun x ρ2 => (asgG Mp.S0 (.nm 2) x ρ2).bind fun ρ3 => evSs (E m) soB ρ3) (fun _ => true) (fun ρ => ∃ x, ρ = [some (.tup ds), some (.tup ds), x])
    (xs := (List.range ds.length).map fun (i : Nat) => D.int (i : Int)) (ρ := [some (.tup ds), some (.tup ds), none]) (fun x hx ρ hρ => ?_) ⟨_, rfl⟩
  · obtain ⟨ρ', e1, x, rfl⟩ := A.1 (List.all_eq_true.mpr fun _ _ => rfl)
    rw [← F] at e1
    exact ⟨x, e1⟩
  · obtain ⟨y, rfl⟩ := hρ
    obtain ⟨i, hi, rfl⟩ := List.mem_map.mp hx
    have hi := List.mem_range.mp hi
    have i1 : idxD Mp.S0 (.tup ds) (.int (i : Int)) = some ds[i] := by rw [seq_idx (ds := ds) rfl, atI_nat hi, List.getElem?_eq_getElem hi]
    have hc := h ds[i] (List.getElem_mem hi)
    generalize ds[i] = d at *
    have hasg : asgG Mp.S0 (.nm 2) (.int (i : Int)) [some (.tup ds), some (.tup ds), y] = some [some (.tup ds), some (.tup ds), some (.int (i : Int))] := by simp
    refine ⟨fun _ => ⟨[some (.tup ds), some (.tup ds), some (.int (i : Int))], ?_, _, rfl⟩, fun z => by (cases z)⟩
    simp only [hasg, Option.bind_some]
    simp [soB, CE.isStar, i1, hc]

theorem v_so_same : ∀ (m : Nat) (v : D), sm v = true → td v = true → D.dep v < m → E m "_law_so" [v, v] = some (.bl true)
  | 0, v, _, _, h => by omega
  | m + 1, v, hs, ht, h => by
    cases v with
    | bl b => rw [v_so_bl]; cases b <;> rfl
    | tup ds =>
      obtain ⟨hl, hd⟩ := sm_seq hs rfl
      have ht : tds ds = true := by simpa only [td] using ht
      have hdep : D.deps ds + 1 < m + 1 := by simpa only [D.dep] using h
      obtain ⟨x, L⟩ := so_loop (m := m) (ds := ds) hl fun d hm => v_so_same m d (sms_mem hd hm) (tds_mem ht hm) (by have := dep_mem hm; omega)
      rw [ev_in (fn := f__law_so) (by kernel_rfl) (by decide +kernel)]
      refine evB_of2 rfl ?_
      show evSs (E m) f__law_so.body [some (.tup ds), some (.tup ds), none] = _
      unfold f__law_so
      simp only []
      have e1 : evE (E m) (.cmp .Is (.var 1) (.con .non)) [some (.tup ds), some (.tup ds), none] = some (.bl false) := rfl
      have e2 : evE (E m) (.isi (.var 1) [.tuple]) [some (.tup ds), some (.tup ds), none] = some (.bl true) := rfl
      have hlen : biD .len Mp.S0 [.tup ds] = some (.int (ds.length : Int)) := rfl
      have hisi : isiD Mp.S0 (.tup ds) [.tuple] = some true := rfl
      have e3 : evE (E m) (.or (.not (.isi (.var 0) [.tuple])) (.cmp .NotEq (.bi .len [.var 0]) (.bi .len [.var 1]))) [some (.tup ds), some (.tup ds), none] = some (.bl false) := by
        simp [CE.isStar, hisi, hlen, cmp_ne]
      rw [s_seq_nx (ρ' := [some (.tup ds), some (.tup ds), none]) (by rw [s_ifs_f e1]; exact s_nil)]
      refine s_seq_rt ?_
      rw [s_ifs_t e2, s_seq_nx (ρ' := [some (.tup ds), some (.tup ds), none]) (by rw [s_ifs_f e3]; exact s_nil), s_seq_nx (show evS (E m) (.forr (.nm 2) (.rng [.bi .len [.var 1]]) [.ifs (.not (.call "_law_so" [.idx (.var 0) (.var 2), .idx (.var 1) (.var 2)])) [.ret (.con (.bl false))] []]) _ = _ from L)]
      refine s_seq_rt ?_
      rw [s_ret, x_con]; rfl
    | non =>
      rw [ev_in (fn := f__law_so) (by kernel_rfl) (by decide +kernel)]
      rfl
    | int i =>
      rw [ev_in (fn := f__law_so) (by kernel_rfl) (by decide +kernel)]
      refine evB_of2 rfl ?_
      show evSs (E m) f__law_so.body [some (.int i), some (.int i), none] = _
      unfold f__law_so
      simp only []
      have e1 : evE (E m) (.cmp .Is (.var 1) (.con .non)) [some (.int i), some (.int i), none] = some (.bl false) := rfl
      have e2 : evE (E m) (.isi (.var 1) [.tuple]) [some (.int i), some (.int i), none] = some (.bl false) := rfl
      have e3 : evE (E m) (.or (.isi (.var 1) [.bool]) (.isi (.var 0) [.bool])) [some (.int i), some (.int i), none] = some (.bl false) := rfl
      have e4 : evE (E m) (.isi (.var 1) [.int]) [some (.int i), some (.int i), none] = some (.bl true) := rfl
      have hisi : isiD Mp.S0 (.int i) [.int] = some true := rfl
      rw [s_seq_nx (ρ' := [some (.int i), some (.int i), none]) (by rw [s_ifs_f e1]; exact s_nil), s_seq_nx (ρ' := [some (.int i), some (.int i), none]) (by rw [s_ifs_f e2]; exact s_nil), s_seq_nx (ρ' := [some (.int i), some (.int i), none]) (by rw [s_ifs_f e3]; exact s_nil)]
      refine s_seq_rt ?_
      rw [s_ifs_t e4]
      refine s_seq_rt ?_
      simp [hisi, cmp_eq]
    | str x =>
      rw [ev_in (fn := f__law_so) (by kernel_rfl) (by decide +kernel)]
      refine evB_of2 rfl ?_
      show evSs (E m) f__law_so.body [some (.str x), some (.str x), none] = _
      unfold f__law_so
      simp only []
      have e1 : evE (E m) (.cmp .Is (.var 1) (.con .non)) [some (.str x), some (.str x), none] = some (.bl false) := rfl
      have e2 : evE (E m) (.isi (.var 1) [.tuple]) [some (.str x), some (.str x), none] = some (.bl false) := rfl
      have e3 : evE (E m) (.or (.isi (.var 1) [.bool]) (.isi (.var 0) [.bool])) [some (.str x), some (.str x), none] = some (.bl false) := rfl
      have e4 : evE (E m) (.isi (.var 1) [.int]) [some (.str x), some (.str x), none] = some (.bl false) := rfl
      have hisi : isiD Mp.S0 (.str x) [.str] = some true := rfl
      have heq : cmpD .Eq Mp.S0 (.str x) (.str x) = some true := by
        have : cmpD .Eq Mp.S0 (.str x) (.str x) = some (x == x) := rfl
        rw [this, beq_self_eq_true]
      rw [s_seq_nx (ρ' := [some (.str x), some (.str x), none]) (by rw [s_ifs_f e1]; exact s_nil), s_seq_nx (ρ' := [some (.str x), some (.str x), none]) (by rw [s_ifs_f e2]; exact s_nil), s_seq_nx (ρ' := [some (.str x), some (.str x), none]) (by rw [s_ifs_f e3]; exact s_nil), s_seq_nx (ρ' := [some (.str x), some (.str x), none]) (by rw [s_ifs_f e4]; exact s_nil)]
      refine s_seq_rt ?_
      simp [hisi, heq]
    | _ => simp [td] at ht
end Lw

namespace Lw
open PySem Mp
/-- the inner loop over a row of whole numbers -/
def inC : List CS := [.ifs (.or (.not (.cmp2 .LtE .Lt (.con (.int 0)) (.idx (.var 3) (.var 4)) (.var 1))) (.or (.cmp .Eq (.idx (.var 3) (.var 4)) (.var 2)) (.and (.cmp .Gt (.var 4) (.con (.int 0))) (.cmp .GtE (.idx (.var 3) (.op .Sub (.var 4) (.con (.int 1)))) (.idx (.var 3) (.var 4)))))) [.ret (.con (.bl false))] []]
theorem in_loopC {fe : Fe} {vv : Option D} {m n : Int} {ns : List Int} {o5 : Option D} (hl : ns.length ≤ 9) :
    (okRow ns n m = true → ∃ x, evS fe (.forr (.nm 4) (.rng [.bi .len [.var 3]]) inC) [vv, some (.int m), some (.int n), some (.tup (ns.map .int)), o5] = some (.nx [vv, some (.int m), some (.int n), some (.tup (ns.map .int)), x])) ∧
    (okRow ns n m = false → evS fe (.forr (.nm 4) (.rng [.bi .len [.var 3]]) inC) [vv, some (.int m), some (.int n), some (.tup (ns.map .int)), o5] = some (.rt (.bl false))) := by
  have hI : evI fe (.rng [.bi .len [.var 3]]) [vv, some (.int m), some (.int n), some (.tup (ns.map .int)), o5] = some ((List.range ns.length).map fun (i : Nat) => D.int (i : Int)) := by
    rw [ev_rng1 (show _ = some (.int (ns.length : Int)) by simp [CE.isStar, biD, vw]) rfl]
    exact range0i (by omega)
  have F := s_for (fe := fe) (g := .nm 4) (b := inC) hI
  have A := evFor_all (step := fun x ρ2 => (asgG Mp.S0 (.nm 4) x ρ2).bind fun ρ3 => evSs fe inC ρ3)
    (fun d => match d with
      | .int i => okAt ns n m i.toNat
      | _ => false) (fun ρ => ∃ x, ρ = [vv, some (.int m), some (.int n), some (.tup (ns.map .int)), x]) (xs := (List.range ns.length).map fun (i : Nat) => D.int (i : Int)) (ρ := [vv, some (.int m), some (.int n), some (.tup (ns.map .int)), o5]) (fun x hx ρ hρ => ?_) ⟨_, rfl⟩
  · obtain ⟨A1, A2⟩ := A
    rw [← F] at A1 A2
    have e : ((List.range ns.length).map fun (i : Nat) => D.int (i : Int)).all (fun d => match d with
      | .int i => okAt ns n m i.toNat
      | _ => false) = okRow ns n m := by
      rw [List.all_map]; rfl
    rw [e] at A1 A2
    refine ⟨fun h => ?_, A2⟩
    obtain ⟨ρ', e1, x, rfl⟩ := A1 h
    exact ⟨x, e1⟩
  · obtain ⟨y, rfl⟩ := hρ
    obtain ⟨i, hi, rfl⟩ := List.mem_map.mp hx
    have hi := List.mem_range.mp hi
    have i1 : idxD Mp.S0 (.tup (ns.map .int)) (.int (i : Int)) = some (.int (ns.getD i 0)) := by
      rw [seq_idx (ds := ns.map .int) rfl, atI_nat (by simpa using hi), getD_map hi]
    have i2 : 0 < i → idxD Mp.S0 (.tup (ns.map .int)) (.int ((i : Int) - 1)) = some (.int (ns.getD (i - 1) 0)) := fun h0 => by
      have : (i : Int) - 1 = ((i - 1 : Nat) : Int) := by omega
      rw [this, seq_idx (ds := ns.map .int) rfl, atI_nat (by simp; omega), getD_map (by omega)]
    have step : evSs fe inC [vv, some (.int m), some (.int n), some (.tup (ns.map .int)), some (.int (i : Int))] = some (if okAt ns n m i = true then .nx [vv, some (.int m), some (.int n), some (.tup (ns.map .int)), some (.int (i : Int))] else .rt (.bl false)) := by
      unfold inC okAt
      generalize ns.getD i 0 = a at *
      generalize ns.getD (i - 1) 0 = b at *
      by_cases h1 : 0 ≤ a
      · by_cases h2 : a < m
        · by_cases h3 : a = n
          · subst h3
            simp [CE.isStar, i1, cmp_le, cmp_lt, h1, h2, cmp_eq]
          · by_cases h0 : 0 < i
            · have i3 := i2 h0
              by_cases h4 : a ≤ b
              · simp [CE.isStar, i1, i3, cmp_le, cmp_lt, cmp_eq, cmp_gt, cmp_ge, op_sub, h1, h2, h3, h0, h4]
              · simp [CE.isStar, i1, i3, cmp_le, cmp_lt, cmp_eq, cmp_gt, cmp_ge, op_sub, h1, h2, h3, h0, h4]
            · have h5 : i = 0 := by omega
              subst h5
              simp [CE.isStar, cmp_le, cmp_lt, cmp_eq, cmp_gt, h1, h2, h3]
              have i4 : idxD Mp.S0 (.tup (ns.map .int)) (.int 0) = some (.int a) := i1
              simp [i4, h1, h2, h3, cmp_le, cmp_lt, cmp_eq]
        · simp [CE.isStar, i1, cmp_le, cmp_lt, h1, h2]
      · simp [CE.isStar, i1, cmp_le, cmp_lt, h1]
    have hasg : asgG Mp.S0 (.nm 4) (.int (i : Int)) [vv, some (.int m), some (.int n), some (.tup (ns.map .int)), y] = some [vv, some (.int m), some (.int n), some (.tup (ns.map .int)), some (.int (i : Int))] := by simp
    simp only [hasg, Option.bind_some, step]
    have ei : ((i : Int)).toNat = i := by omega
    simp only [ei]
    cases h : okAt ns n m i with
    | true => exact ⟨fun _ => ⟨_, by rw [if_pos rfl], _, rfl⟩, fun z => by (cases z)⟩
    | false => exact ⟨fun z => by (cases z), fun _ => by simp⟩
end Lw

namespace Lw
open PySem Mp
theorem wholesC {n : Nat} {e0 e1 e2 : Option D} {es : List D} {cl : Option D} (h : sms es = true) (hl : es.length ≤ 9) : evE (E (n + 1)) (.comp false (.var 4) (.nm 4) (.seq (.var 3)) [.not (.call "_law_whole" [.var 4])] [("k", 4)]) [e0, e1, e2, some (.tup es), cl] = some (.lst (es.filter fun d => !isInt d)) := by
  rw [← List.map_id (es.filter fun d => !isInt d)]
  refine ev_filter _ _ (xs := es) (by simp [itemsOf]) (by omega) fun x hx => ⟨[e0, e1, e2, some (.tup es), some x], by simp [wipeD], ?_, fun _ => by simp⟩
  simp [CE.isStar, v_law_whole (n := n) (sm_plain (sms_mem h hx))]
def outC : List CS := [.ifs (.or (.not (.isi (.var 3) [.tuple])) (.cmp .Gt (.bi .len [.comp false (.var 4) (.nm 4) (.seq (.var 3)) [.not (.call "_law_whole" [.var 4])] [("k", 4)]]) (.con (.int 0)))) [.ret (.con (.bl false))] [],
    .forr (.nm 4) (.rng [.bi .len [.var 3]]) inC]
theorem out_loopC {n : Nat} {vv o4 : Option D} {m i : Int} {d : D} (hv : sm d = true) (ht : td d = true) :
    (rowL i m d = true → ∃ x, evSs (E (n + 1)) outC [vv, some (.int m), some (.int i), some d, o4] = some (.nx [vv, some (.int m), some (.int i), some d, x])) ∧
    (rowL i m d = false → evSs (E (n + 1)) outC [vv, some (.int m), some (.int i), some d, o4] = some (.rt (.bl false))) := by
  cases d with
  | tup es =>
    obtain ⟨hl2, hd2⟩ := sm_seq hv rfl
    have hw := wholesC (n := n) (e0 := vv) (e1 := some (.int m)) (e2 := some (.int i)) (cl := o4) hd2 hl2
    have hlen : biD .len Mp.S0 [.lst (es.filter fun d => !isInt d)] = some (.int ((es.filter fun d => !isInt d).length : Int)) := rfl
    have hisi : isiD Mp.S0 (.tup es) [.tuple] = some true := rfl
    cases hall : es.all isInt with
    | false =>
      have h0 := filter_some hall
      generalize (es.filter fun d => !isInt d) = bad at *
      refine ⟨fun z => by (simp [rowL, itemsT, hall] at z), fun _ => ?_⟩
      unfold outC
      refine s_seq_rt ?_
      simp [CE.isStar, hisi, hw, hlen, cmp_gt, h0]
    | true =>
      obtain ⟨ns, rfl⟩ := ints_of hall
      have h0 := filter_none hall
      rw [h0] at hw hlen
      have hrow : rowL i m (.tup (ns.map .int)) = okRow ns i m := by
        unfold rowL
        simp only [isTup, itemsT, hall, intsOf_map, Option.getD_some, Bool.true_and]
      rw [hrow]
      obtain ⟨L1, L2⟩ := in_loopC (fe := E (n + 1)) (vv := vv) (m := m) (n := i) (ns := ns) (o5 := o4) (by simpa using hl2)
      have hgt : cmpD .Gt Mp.S0 (.int (([] : List D).length : Int)) (.int 0) = some false := rfl
      have st2 : evS (E (n + 1)) (.ifs (.or (.not (.isi (.var 3) [.tuple])) (.cmp .Gt (.bi .len [.comp false (.var 4) (.nm 4) (.seq (.var 3)) [.not (.call "_law_whole" [.var 4])] [("k", 4)]]) (.con (.int 0)))) [.ret (.con (.bl false))] []) [vv, some (.int m), some (.int i), some (.tup (ns.map .int)), o4] = some (.nx [vv, some (.int m), some (.int i), some (.tup (ns.map .int)), o4]) := by
        generalize ([] : List D).length = z at hlen hgt
        simp [CE.isStar, hisi, hw, hlen, hgt]
      refine ⟨fun h => ?_, fun h => ?_⟩
      · obtain ⟨x, e1⟩ := L1 h
        refine ⟨x, ?_⟩
        unfold outC
        rw [s_seq_nx st2, s_seq_nx e1]
        exact s_nil
      · have e1 := L2 h
        unfold outC
        rw [s_seq_nx st2]
        exact s_seq_rt e1
  | _ =>
    refine ⟨fun z => by (simp [rowL, isTup] at z), fun _ => ?_⟩
    first
      | (simp [td] at ht; done)
      | (unfold outC; refine s_seq_rt ?_; simp [CE.isStar, isiD, tnOf, isTy])
end Lw

namespace Lw
open PySem Mp
theorem v_law_is_condition {n : Nat} {v : D} {m i : Int} (hv : sm v = true) (ht : td v = true) : E (n + 2) "_law_is_condition" [v, .int m, .int i] = some (.bl (condD v i m)) := by
  rw [ev_in (fn := f__law_is_condition) (by kernel_rfl) (by decide +kernel)]
  refine evB_of rfl ?_
  show evSs (E (n + 1)) [.ifs (.or (.not (.isi (.var 0) [.tuple])) (.cmp .NotEq (.bi .len [.var 0]) (.con (.int 2)))) [.ret (.con (.bl false))] [], .forr (.nm 3) (.seq (.var 0)) outC, .ret (.cmp .Eq (.bi .len [.comp false (.var 4) (.nm 4) (.seq (.idx (.var 0) (.con (.int 0)))) [.cmp .In (.var 4) (.idx (.var 0) (.con (.int 1)))] [("k", 4)]]) (.con (.int 0)))] [some v, some (.int m), some (.int i), none, none] = _
  cases v with
  | tup ds =>
    obtain ⟨hl, hd⟩ := sm_seq hv rfl
    have ht : tds ds = true := by simpa only [td] using ht
    have hlen : biD .len Mp.S0 [.tup ds] = some (.int (ds.length : Int)) := rfl
    have hisi : isiD Mp.S0 (.tup ds) [.tuple] = some true := rfl
    by_cases h2 : ds.length = 2
    · have h2i : (ds.length : Int) = 2 := by omega
      rw [s_seq_nx (ρ' := [some (.tup ds), some (.int m), some (.int i), none, none]) (by simp [CE.isStar, hisi, hlen, cmp_ne, h2i])]
      have hI : evI (E (n + 1)) (.seq (.var 0)) [some (.tup ds), some (.int m), some (.int i), none, none] = some ds := by simp [itemsOf]
      have F := s_for (fe := E (n + 1)) (g := .nm 3) (b := outC) hI
      have A := evFor_all (step := fun x ρ2 => (asgG Mp.S0 (.nm 3) x ρ2).bind fun ρ3 => evSs (E (n + 1)) outC ρ3) (fun d => rowL i m d) (fun ρ => ∃ a b, ρ = [some (.tup ds), some (.int m), some (.int i), a, b]) (xs := ds) (ρ := [some (.tup ds), some (.int m), some (.int i), none, none]) (fun x hx ρ hρ => ?_) ⟨_, _, rfl⟩
      · obtain ⟨A1, A2⟩ := A
        rw [← F] at A1 A2
        have hoth : ds.all (fun d => rowL i m d) = ds.all (fun d => othersD d i m) := by
          rw [Bool.eq_iff_iff, List.all_eq_true, List.all_eq_true]
          exact ⟨fun h d hm => by rw [← rowL_oth (tds_mem ht hm)]; exact h d hm, fun h d hm => by rw [rowL_oth (tds_mem ht hm)]; exact h d hm⟩
        have hr2 : rowD (.tup ds) 2 2 = true := by simp [rowD, seqD]; omega
        cases hall : ds.all (fun d => rowL i m d) with
        | false =>
          rw [s_seq_rt (A2 hall)]
          rw [hoth] at hall
          simp [condD, hr2, seqD, hall]
        | true =>
          obtain ⟨ρ', e1, a, b, rfl⟩ := A1 hall
          rw [s_seq_nx e1]
          rw [hoth] at hall
          rcases ds with _ | ⟨d1, _ | ⟨d2, _ | ⟨_, _⟩⟩⟩
          · cases h2
          · cases h2
          · obtain ⟨ns, p1, _⟩ := others_ints (List.all_eq_true.mp hall d1 (by simp))
            obtain ⟨ms, p3, _⟩ := others_ints (List.all_eq_true.mp hall d2 (by simp))
            have hl1 : ns.length ≤ 9 := by
              have := (sm_seq (sms_mem hd (by simp)) p1).1
              simpa using this
            have hsup : rowsI [d1, d2] = some [ns, ms] := by
              unfold rowsI rowsI rowsI
              rw [p1, Option.bind_some, intsOf_map, Option.bind_some, p3, Option.bind_some, intsOf_map]
              rfl
            have i0 : idxD Mp.S0 (.tup [d1, d2]) (.int 0) = some d1 := rfl
            have i1 : idxD Mp.S0 (.tup [d1, d2]) (.int 1) = some d2 := rfl
            have c2 : evE (E (n + 1)) (.comp false (.var 4) (.nm 4) (.seq (.idx (.var 0) (.con (.int 0)))) [.cmp .In (.var 4) (.idx (.var 0) (.con (.int 1)))] [("k", 4)]) [some (.tup [d1, d2]), some (.int m), some (.int i), a, b] = some (.lst (((ns.map D.int).filter fun x => match x with
                | .int k => decide (k ∈ ms)
                | _ => false).map id)) := by
              refine ev_filter _ _ (xs := ns.map .int) (by simp [i0, seq_items p1]) (by simp; omega) fun x hx => ?_
              obtain ⟨k, hk, rfl⟩ := List.mem_map.mp hx
              refine ⟨[some (.tup [d1, d2]), some (.int m), some (.int i), a, some (.int k)], by simp [wipeD], ?_, fun _ => by simp⟩
              have : cmpD .In Mp.S0 (.int k) d2 = some (decide (k ∈ ms)) := by
                show inAny Mp.S0 (.int k) d2 = _
                rw [seq_in p3, in_ints]
              simp [i1, this]
            rw [filt_ints] at c2
            have hq : decide ((((ns.filter fun k => decide (k ∈ ms)).map D.int).length : Int) = 0) = !(ns.any fun k => decide (k ∈ ms)) := by
              rw [List.length_map, ← pos_filter (l := ns)]
              by_cases z : (ns.filter fun k => decide (k ∈ ms)).length = 0
              · rw [z]; rfl
              · rw [decide_eq_false (by omega), decide_eq_true (by omega)]; rfl
            have hlen2 : biD .len Mp.S0 [.lst ((ns.filter fun k => decide (k ∈ ms)).map .int)] = some (.int (((ns.filter fun k => decide (k ∈ ms)).map D.int).length : Int)) := rfl
            simp only [] at c2
            generalize ((ns.filter fun k => decide (k ∈ ms)).map D.int) = g at *
            refine s_seq_rt ?_
            rw [s_ret, x_cmp, x_bi, x_cons, x_nil, c2, x_con]
            have hcd : condD (.tup [d1, d2]) i m = !(ns.any fun k => decide (k ∈ ms)) := by
              unfold condD
              rw [hr2]
              simp only [seqD, hall, hsup, Bool.true_and]
            rw [hcd, ← hq]
            simp [CE.isStar, hlen2, cmp_eq]
          · simp at h2
      · obtain ⟨a, b, rfl⟩ := hρ
        have hasg : asgG Mp.S0 (.nm 3) x [some (.tup ds), some (.int m), some (.int i), a, b] = some [some (.tup ds), some (.int m), some (.int i), some x, b] := by simp
        simp only [hasg, Option.bind_some]
        obtain ⟨B1, B2⟩ := out_loopC (n := n) (vv := some (.tup ds)) (o4 := b) (m := m) (i := i) (sms_mem hd hx) (tds_mem ht hx)
        exact ⟨fun h => by obtain ⟨y, e⟩ := B1 h; exact ⟨_, e, _, _, rfl⟩, B2⟩
    · have h2i : ¬ (ds.length : Int) = 2 := by omega
      rw [s_seq_rt (d := .bl false) (by simp [CE.isStar, hisi, hlen, cmp_ne, h2i])]
      have : rowD (.tup ds) 2 2 = false := by
        cases e : rowD (.tup ds) 2 2 with
        | false => rfl
        | true =>
          simp [rowD, seqD] at e
          omega
      simp [condD, this]
  | _ =>
    first
      | (simp [td] at ht; done)
      | (refine s_seq_rt ?_; simp [CE.isStar, isiD, tnOf, isTy, condD, rowD, seqD])
end Lw

namespace Lw
open PySem Mp
theorem enum_rangeQ {q : D → Bool} : ∀ {ds : List D} {k : Nat}, (enumFrom' k ds).all q = (List.range ds.length).all fun i => q (.tup [.int ((k + i : Nat) : Int), ds.getD i .non])
  | [], _ => rfl
  | d :: ds, k => by
    show (q (.tup [.int k, d]) && (enumFrom' (k + 1) ds).all q) = _
    rw [enum_rangeQ, List.length_cons, List.range_succ_eq_map, List.all_cons, List.all_map]
    congr 1
    · congr 1
      funext i
      simp only [Function.comp, Nat.succ_eq_add_one]
      have : k + 1 + i = k + (i + 1) := by omega
      rw [this]; rfl
def hbB : List CS := [.asg (.nm 2) (.idx (.var 0) (.var 1)),
   .ifs (.or (.not (.isi (.var 2) [.tuple])) (.cmp .NotEq (.bi .len [.var 2]) (.con (.int 2)))) [.ret (.con (.bl false))] [],
   .ifs (.or (.not (.call "_law_is_condition" [.idx (.var 2) (.con (.int 0)), .bi .len [.var 0], .var 1])) (.not (.call "_law_is_condition" [.idx (.var 2) (.con (.int 1)), .bi .len [.var 0], .var 1]))) [.ret (.con (.bl false))] []]
def hbS1 : CS := .ifs (.or (.not (.isi (.var 0) [.tuple])) (.not (.cmp2 .LtE .LtE (.con (.int 1)) (.bi .len [.var 0]) (.con (.int 8))))) [.ret (.con (.bl false))] []
theorem hb_step {n : Nat} {ds : List D} {d : D} {i : Nat} {o : Option D} (hi : idxD Mp.S0 (.tup ds) (.int (i : Int)) = some d) (hs : sm d = true) (ht : td d = true) :
    evSs (E (n + 2)) hbB [some (.tup ds), some (.int (i : Int)), o] = some (if habQ ds.length (.tup [.int (i : Int), d]) = true then .nx [some (.tup ds), some (.int (i : Int)), some d] else .rt (.bl false)) := by
  have st1 : evS (E (n + 2)) (.asg (.nm 2) (.idx (.var 0) (.var 1))) [some (.tup ds), some (.int (i : Int)), o] = some (.nx [some (.tup ds), some (.int (i : Int)), some d]) := by simp [hi]
  unfold hbB
  rw [s_seq_nx st1]
  cases d with
  | tup es =>
    obtain ⟨hl, hd⟩ := sm_seq hs rfl
    have ht : tds es = true := by simpa only [td] using ht
    have hlen : biD .len Mp.S0 [.tup es] = some (.int (es.length : Int)) := rfl
    have hlen2 : biD .len Mp.S0 [.tup ds] = some (.int (ds.length : Int)) := rfl
    have hisi : isiD Mp.S0 (.tup es) [.tuple] = some true := rfl
    by_cases h2 : es.length = 2
    · have h2i : (es.length : Int) = 2 := by omega
      rw [s_seq_nx (ρ' := [some (.tup ds), some (.int (i : Int)), some (.tup es)]) (by simp [CE.isStar, hisi, hlen, cmp_ne, h2i])]
      rcases es with _ | ⟨d1, _ | ⟨d2, _ | ⟨_, _⟩⟩⟩
      · cases h2
      · cases h2
      · have i0 : idxD Mp.S0 (.tup [d1, d2]) (.int 0) = some d1 := rfl
        have i1 : idxD Mp.S0 (.tup [d1, d2]) (.int 1) = some d2 := rfl
        have c1 := v_law_is_condition (n := n) (v := d1) (m := ds.length) (i := i) (sms_mem hd (by simp)) (tds_mem ht (by simp))
        have c2 := v_law_is_condition (n := n) (v := d2) (m := ds.length) (i := i) (sms_mem hd (by simp)) (tds_mem ht (by simp))
        have hq : habQ ds.length (.tup [.int (i : Int), .tup [d1, d2]]) = (condD d1 i ds.length && condD d2 i ds.length) := by simp [habQ, rowD, seqD]
        rw [hq]
        cases q1 : condD d1 i ds.length <;> cases q2 : condD d2 i ds.length <;> rw [q1] at c1 <;> rw [q2] at c2 <;> simp [CE.isStar, i0, i1, hlen2, c1, c2]
      · simp at h2
    · have h2i : ¬ (es.length : Int) = 2 := by omega
      rw [s_seq_rt (d := .bl false) (by simp [CE.isStar, hisi, hlen, cmp_ne, h2i])]
      have : rowD (.tup es) 2 2 = false := by
        cases e : rowD (.tup es) 2 2 with
        | false => rfl
        | true =>
          simp [rowD, seqD] at e
          omega
      simp [habQ, this]
  | _ =>
    first
      | (simp [td] at ht; done)
      | (rw [s_seq_rt (d := .bl false) (by simp [CE.isStar, isiD, tnOf, isTy])]; simp [habQ, rowD, seqD])
theorem v_law_is_habits {n : Nat} {v : D} (hv : sm v = true) (ht : td v = true) : E (n + 3) "_law_is_habits" [v] = some (.bl (habD v)) := by
  rw [ev_in (fn := f__law_is_habits) (by kernel_rfl) (by decide +kernel)]
  refine evB_of rfl ?_
  show evSs (E (n + 2)) [hbS1, .forr (.nm 1) (.rng [.bi .len [.var 0]]) hbB, .ret (.con (.bl true))] [some v, none, none] = _
  cases v with
  | tup ds =>
    obtain ⟨hl, hd⟩ := sm_seq hv rfl
    have ht : tds ds = true := by simpa only [td] using ht
    have hlen : biD .len Mp.S0 [.tup ds] = some (.int (ds.length : Int)) := rfl
    have hisi : isiD Mp.S0 (.tup ds) [.tuple] = some true := rfl
    have hrow : rowD (.tup ds) 1 8 = (decide ((1 : Int) ≤ ds.length) && decide ((ds.length : Int) ≤ 8)) := rfl
    cases h0 : rowD (.tup ds) 1 8 with
    | false =>
      have st : evS (E (n + 2)) hbS1 [some (.tup ds), none, none] = some (.rt (.bl false)) := by
        rw [hrow] at h0
        unfold hbS1
        by_cases h1 : (1 : Int) ≤ ds.length
        · have h2 : ¬ (ds.length : Int) ≤ 8 := by simpa [h1] using h0
          simp [CE.isStar, hisi, hlen, cmp_le, h1, h2]
        · simp [CE.isStar, hisi, hlen, cmp_le, h1]
      rw [s_seq_rt st]
      simp [habD, h0]
    | true =>
      have h12 := h0
      rw [hrow, Bool.and_eq_true, decide_eq_true_eq, decide_eq_true_eq] at h12
      have st : evS (E (n + 2)) hbS1 [some (.tup ds), none, none] = some (.nx [some (.tup ds), none, none]) := by
        unfold hbS1
        simp [CE.isStar, hisi, hlen, cmp_le, h12.1, h12.2]
      rw [s_seq_nx st]
      have hI : evI (E (n + 2)) (.rng [.bi .len [.var 0]]) [some (.tup ds), none, none] = some ((List.range ds.length).map fun (i : Nat) => D.int (i : Int)) := by
        rw [ev_rng1 (show _ = some (.int (ds.length : Int)) by simp [CE.isStar, hlen]) rfl]
        exact range0i (by omega)
      have F := s_for (fe := E (n + 2)) (g := .nm 1) (b := hbB) hI
      have A := evFor_all (step := fun x ρ2 => (asgG Mp.S0 (.nm 1) x ρ2).bind fun ρ3 => evSs (E (n + 2)) hbB ρ3)
        (fun d => match d with
          | .int i => habQ ds.length (.tup [.int i, ds.getD i.toNat .non])
          | _ => false) (fun ρ => ∃ a b, ρ = [some (.tup ds), a, b]) (xs := (List.range ds.length).map fun (i : Nat) => D.int (i : Int)) (ρ := [some (.tup ds), none, none]) (fun x hx ρ hρ => ?_) ⟨_, _, rfl⟩
      · obtain ⟨A1, A2⟩ := A
        rw [← F] at A1 A2
        have e : ((List.range ds.length).map fun (i : Nat) => D.int (i : Int)).all (fun d => match d with
          | .int i => habQ ds.length (.tup [.int i, ds.getD i.toNat .non])
          | _ => false) = (enumFrom' 0 ds).all (habQ ds.length) := by
          rw [List.all_map, enum_rangeQ]
          refine congrArg (fun f => (List.range ds.length).all f) (funext fun i => ?_)
          show habQ ds.length (.tup [.int (i : Int), ds.getD ((i : Int)).toNat .non]) = habQ ds.length (.tup [.int ((0 + i : Nat) : Int), ds.getD i .non])
          rw [Nat.zero_add, Int.toNat_natCast]
        rw [e] at A1 A2
        have hh : habD (.tup ds) = (enumFrom' 0 ds).all (habQ ds.length) := by simp [habD, h0, seqD]
        rw [hh]
        cases hall : (enumFrom' 0 ds).all (habQ ds.length) with
        | false => rw [s_seq_rt (A2 hall)]
        | true =>
          obtain ⟨ρ', e1, a, b, rfl⟩ := A1 hall
          rw [s_seq_nx e1]
          refine s_seq_rt ?_
          rw [s_ret, x_con]; rfl
      · obtain ⟨a, b, rfl⟩ := hρ
        obtain ⟨i, hi, rfl⟩ := List.mem_map.mp hx
        have hi := List.mem_range.mp hi
        have ei : ((i : Int)).toNat = i := by omega
        have eg : ds.getD i .non = ds[i] := by rw [List.getD_eq_getElem?_getD, List.getElem?_eq_getElem hi]; rfl
        simp only [ei, eg]
        have hm := List.getElem_mem hi
        have i1 : idxD Mp.S0 (.tup ds) (.int (i : Int)) = some ds[i] := by rw [seq_idx (ds := ds) rfl, atI_nat hi, List.getElem?_eq_getElem hi]
        have hst := hb_step (n := n) (o := b) i1 (sms_mem hd hm) (tds_mem ht hm)
        generalize ds[i] = d at *
        have hasg : asgG Mp.S0 (.nm 1) (.int (i : Int)) [some (.tup ds), a, b] = some [some (.tup ds), some (.int (i : Int)), b] := by simp
        simp only [hasg, Option.bind_some, hst]
        cases h : habQ ds.length (.tup [.int (i : Int), d]) with
        | true => exact ⟨fun _ => ⟨_, by rw [if_pos rfl], _, _, rfl⟩, fun z => by (cases z)⟩
        | false => exact ⟨fun z => by (cases z), fun _ => by simp⟩
  | _ =>
    first
      | (simp [td] at ht; done)
      | (refine s_seq_rt ?_
         unfold hbS1
         simp [CE.isStar, isiD, tnOf, isTy, habD, rowD, seqD])
end Lw

namespace Lw
open PySem Mp
theorem hput_comm {S : Hs} {a b : Addr} {o u : O} (h : a ≠ b) : hput (hput S a o) b u = hput (hput S b u) a o := by
  funext c
  unfold hput
  by_cases h1 : c = b
  · by_cases h2 : c = a
    · exact absurd (h2.symm.trans h1) h
    · simp [h1, h2]
      intro e
      exact absurd e.symm h
  · by_cases h2 : c = a
    · simp [h1, h2]
      intro e
      exact absurd e h
    · simp [h1, h2]
theorem hput_mid {S : Hs} {sp p : Addr} {o o' u : O} (h : sp ≠ p) : hput (hput (hput S sp o) p u) sp o' = hput (hput S sp o') p u := by
  rw [hput_comm (a := p) (b := sp) (fun e => h e.symm), hput_hput]
/-- a call that moves the spot on -/
def Dr (m : Nat) (row : List Int) (f : Str) (as : List D) (P : D → Prop) : Prop :=
  ∀ {S : Hs} {sp : Addr} {a : Int} {k : DK} {ke : EK}, S sp = some (.lst [.int a]) → 0 ≤ a → (∀ (b : Int) (w : D), 0 ≤ b → P w → k w (hput S sp (.lst [.int b]))) → wpC T m f (.lst (row.map .int) :: .ref sp :: as) S k ke
def below (lim : Int) (w : D) : Prop := ∃ i : Int, w = .int i ∧ 0 ≤ i ∧ i < lim
theorem d_take {n : Nat} {row : List Int} {lim : Int} (hr : row ≠ []) (hl : 0 < lim) : Dr (n + 2) row "_law_take" [.int lim] (below lim) :=
  fun hS ha hk => w_law_take hr hS ha hl fun w h0 h1 => hk _ _ (by omega) ⟨w, rfl, h0, h1⟩
def RelL (Q : D → Option D → Prop) : List D → List D → Prop
  | [], ys => ys = []
  | x :: xs, ys => ∃ o r, Q x o ∧ RelL Q xs r ∧ ys = (match o with
    | some y => y :: r
    | none => r)
theorem cmpL_draw {ok : Hs → Prop} {p sp : Addr} {step : D → (Option D → Hs → Prop) → Hs → Prop} {fin : Hs → Prop} {S : Hs} (Q : D → Option D → Prop) (hok : ∀ S', ok S') : ∀ {xs : List D} {acc : List D} {a : Int},
    (∀ x ∈ xs, ∀ acc a kk, 0 ≤ a → (∀ (o : Option D) (b : Int), 0 ≤ b → Q x o → kk o (hput (hput S sp (.lst [.int b])) p (.lst acc))) → step x kk (hput (hput S sp (.lst [.int a])) p (.lst acc))) →
    0 ≤ a → acc.length + xs.length ≤ sizeLine → (∀ (ys : List D) (b : Int), 0 ≤ b → RelL Q xs ys → fin (hput (hput S sp (.lst [.int b])) p (.lst (acc ++ ys)))) → cmpL ok p step xs fin (hput (hput S sp (.lst [.int a])) p (.lst acc))
  | [], acc, a, _, ha, _, h => ⟨hok _, by have := h [] a ha rfl; rwa [List.append_nil] at this⟩
  | x :: xs, acc, a, hs, ha, hl, h => by
    rw [List.length_cons] at hl
    refine ⟨hok _, hs x List.mem_cons_self acc a _ ha fun o b hb hq => ?_⟩
    cases o with
    | none => exact cmpL_draw Q hok (fun y hy => hs y (List.mem_cons_of_mem _ hy)) hb (by omega) fun ys b' hb' hr => h ys b' hb' ⟨none, ys, hq, hr, rfl⟩
    | some y =>
      refine ⟨acc, hput_same, by omega, ?_⟩
      rw [hput_hput]
      refine cmpL_draw Q hok (fun y hy => hs y (List.mem_cons_of_mem _ hy)) hb (by rw [List.length_append]; simp; omega) fun ys b' hb' hr => ?_
      rw [List.append_assoc]
      exact h (y :: ys) b' hb' ⟨some y, ys, hq, hr, rfl⟩
def likeD (v w : D) : Prop := sm w = true ∧ tupD w = v
theorem rel_like : ∀ {xs ys : List D}, RelL (fun x o => ∃ w, o = some w ∧ likeD x w) xs ys → ys.length = xs.length ∧ sms ys = true ∧ tupDs ys = xs
  | [], ys, h => by
    have h : ys = [] := h
    subst h
    exact ⟨rfl, rfl, by simp only [tupDs]⟩
  | x :: xs, ys, h => by
    obtain ⟨o, r, ⟨w, rfl, h1, h2⟩, hr, rfl⟩ := h
    obtain ⟨q1, q2, q3⟩ := rel_like hr
    refine ⟨by simp [q1], ?_, ?_⟩
    · simp only [sms, Bool.and_eq_true]; exact ⟨h1, q2⟩
    · simp only [tupDs]; rw [h2, q3]
theorem d_either {row : List Int} (hr : row ≠ []) : ∀ (m : Nat) (v : D), sm v = true → td v = true → D.dep v + 2 ≤ m → Dr m row "_law_either" [v] (likeD v)
  | 0, v, _, _, h => by omega
  | m + 1, v, hs, ht, h => by
    intro hS ha hk; rename_i S sp a k ke
    refine call_in (fn := f__law_either) (by kernel_rfl) ⟨rfl, ?_⟩
    cases v with
    | tup ds =>
      obtain ⟨hl, hd⟩ := sm_seq hs rfl
      have ht : tds ds = true := by simpa only [td] using ht
      have hdep : D.deps ds + 1 + 2 ≤ m + 1 := by simpa only [D.dep] using h
      have hisi : isiD S (.tup ds) [.tuple] = some true := rfl
      obtain ⟨m', rfl⟩ : ∃ m', m = m' + 2 := ⟨m - 2, by omega⟩
      simp only [f__law_either, wpSs, wpS, wpE, wpEs, wpI, CE.isStar]
      simp [hisi, itemsOf]
      intro p hp
      have hpp : sp ≠ p := fun e => by rw [← e, hS] at hp; cases hp
      have e0 : S = hput S sp (.lst [.int a]) := (hput_self hS).symm
      rw [e0]
      refine cmpL_draw (fun x o => ∃ w, o = some w ∧ likeD x w) (fun _ => trivial) (fun x hx acc a' kk ha' hkk => ?_) ha (by simp; exact Nat.le_trans hl (by decide)) fun ys b hb hrel => ?_
      · simp [wipeD, wpT, wpE, wpEs, CE.isStar]
        refine d_either hr _ x (sms_mem hd hx) (tds_mem ht hx) (by have := dep_mem hx; omega) (a := a') (by rw [hput_ne hpp, hput_same]) ha' fun b w hb hw => ?_
        rw [hput_mid hpp]
        exact hkk _ b hb ⟨w, rfl, hw⟩
      · obtain ⟨q1, q2, q3⟩ := rel_like hrel
        refine ⟨_, hput_same, ?_⟩
        rw [hdel_hput (by rw [hput_ne (fun e => hpp e.symm)]; exact hp), List.nil_append]
        refine d_take hr (by omega) hput_same hb fun b' w hb' hw => ?_
        obtain ⟨i, rfl, _, _⟩ := hw
        rw [hput_hput]
        simp [cmp_eq]
        by_cases hi : i = 0
        · simp [hi]
          refine ⟨_, le_refl, hk _ _ hb' ⟨?_, ?_⟩⟩
          · simp only [sm, Bool.and_eq_true, decide_eq_true_eq]; exact ⟨by omega, q2⟩
          · simp only [tupD]; rw [q3]
        · simp [hi, biD, vw]
          refine ⟨_, le_refl, hk _ _ hb' ⟨?_, ?_⟩⟩
          · simp only [sm, Bool.and_eq_true, decide_eq_true_eq]; exact ⟨by omega, q2⟩
          · simp only [tupD]; rw [q3]
    | _ =>
      first
        | (simp [td] at ht; done)
        | (simp only [f__law_either, wpSs, wpS, wpE, wpEs, wpI, CE.isStar]
           simp [isiD, tnOf, isTy]
           have e0 := hput_self hS
           have := hk a _ ha ⟨hs, by simp only [tupD]⟩
           rw [e0] at this
           exact ⟨_, le_refl, this⟩)
mutual
theorem tup_list : ∀ {v : D}, td v = true → tupD (listD v) = v
  | .tup ds, h => by
    have h : tds ds = true := by simpa only [td] using h
    simp only [listD, tupD]
    rw [tup_lists h]
  | .non, _ => rfl
  | .bl _, _ => rfl
  | .int _, _ => rfl
  | .str _, _ => rfl
  | .lst _, h => by simp [td] at h
  | .scr _, h => by simp [td] at h
  | .ref _, h => by simp [td] at h
theorem tup_lists : ∀ {ds : List D}, tds ds = true → tupDs (listDs ds) = ds
  | [], _ => by simp only [listDs, tupDs]
  | d :: ds, h => by
    simp only [tds, Bool.and_eq_true] at h
    simp only [listDs, tupDs]
    rw [tup_list h.1, tup_lists h.2]
end
mutual
theorem tup_self : ∀ {v : D}, td v = true → tupD v = v
  | .tup ds, h => by
    have h : tds ds = true := by simpa only [td] using h
    simp only [tupD]
    rw [tup_selfs h]
  | .non, _ => rfl
  | .bl _, _ => rfl
  | .int _, _ => rfl
  | .str _, _ => rfl
  | .lst _, h => by simp [td] at h
  | .scr _, h => by simp [td] at h
  | .ref _, h => by simp [td] at h
theorem tup_selfs : ∀ {ds : List D}, tds ds = true → tupDs ds = ds
  | [], _ => by simp only [tupDs]
  | d :: ds, h => by
    simp only [tds, Bool.and_eq_true] at h
    simp only [tupDs]
    rw [tup_self h.1, tup_selfs h.2]
end
theorem listDs_len (ds : List D) : (listDs ds).length = ds.length := by rw [listDs_map, List.length_map]
mutual
theorem sm_list : ∀ {v : D}, sm v = true → sm (listD v) = true
  | .tup ds, h => by
    simp only [sm, Bool.and_eq_true, decide_eq_true_eq] at h
    simp only [listD, sm, Bool.and_eq_true, decide_eq_true_eq]
    exact ⟨by rw [listDs_len]; exact h.1, sms_list h.2⟩
  | .non, _ => rfl
  | .bl _, _ => rfl
  | .int _, _ => rfl
  | .str _, _ => rfl
  | .lst _, h => by simp only [listD]; exact h
  | .scr _, h => by simp [sm] at h
  | .ref _, h => by simp [sm] at h
theorem sms_list : ∀ {ds : List D}, sms ds = true → sms (listDs ds) = true
  | [], _ => by simp only [listDs, sms]
  | d :: ds, h => by
    simp only [sms, Bool.and_eq_true] at h
    simp only [listDs, sms, Bool.and_eq_true]
    exact ⟨sm_list h.1, sms_list h.2⟩
end
mutual
theorem dep_tup : ∀ v : D, D.dep (tupD v) = D.dep v
  | .tup ds => by simp only [tupD, D.dep]; rw [deps_tup ds]
  | .lst ds => by simp only [tupD, D.dep]; rw [deps_tup ds]
  | .non => rfl
  | .bl _ => rfl
  | .int _ => rfl
  | .str _ => rfl
  | .scr _ => rfl
  | .ref _ => rfl
theorem deps_tup : ∀ ds : List D, D.deps (tupDs ds) = D.deps ds
  | [] => by simp only [tupDs]
  | d :: ds => by simp only [tupDs, D.deps]; rw [dep_tup d, deps_tup ds]
end
theorem d_handed {row : List Int} (hr : row ≠ []) {n : Nat} {v : D} (hs : sm v = true) (ht : td v = true) (hd : D.dep v ≤ n) : Dr (n + 3) row "_law_handed" [v] (likeD v) := by
  intro S sp a k ke hS ha hk
  refine call_in (fn := f__law_handed) (by kernel_rfl) ⟨rfl, ?_⟩
  simp only [f__law_handed, wpSs, wpS, wpE, wpEs, wpI, CE.isStar]
  simp
  refine d_take hr (by omega) hS ha fun b w hb hw => ?_
  obtain ⟨i, rfl, _, _⟩ := hw
  simp [cmp_eq]
  by_cases h2 : i = 2
  · simp [h2]
    refine d_either hr _ v hs ht (by omega) hput_same hb fun b w hb hw => ?_
    rw [hput_hput]
    exact ⟨_, le_refl, hk _ _ hb hw⟩
  · simp [h2]
    by_cases h0 : i = 0
    · simp [h0]
      exact pure_ok (v_listed _ v hs ht (by omega)) ⟨_, le_refl, hk _ _ hb ⟨sm_list hs, tup_list ht⟩⟩
    · simp [h0]
      exact ⟨_, le_refl, hk _ _ hb ⟨hs, tup_self ht⟩⟩
end Lw

namespace Lw
open PySem Mp
theorem forL_inv {ok : Hs → Prop} {step : D → (Ev → Hs → Prop) → Ev → Hs → Prop} {k : Ev → Hs → Prop} (I : Nat → Ev → Hs → Prop) (hok : ∀ S, ok S) : ∀ {xs : List D} {t : Nat} {ρ : Ev} {S : Hs},
    (∀ (j : Nat) (x : D), xs[j]? = some x → ∀ ρ S kk, I (t + j) ρ S → (∀ ρ' S', I (t + j + 1) ρ' S' → kk ρ' S') → step x kk ρ S) → I t ρ S → (∀ ρ' S', I (t + xs.length) ρ' S' → k ρ' S') → forL ok step xs k ρ S
  | [], t, ρ, S, _, hi, hk => ⟨hok _, hk _ _ hi⟩
  | x :: xs, t, ρ, S, hs, hi, hk => by
    refine ⟨hok _, hs 0 x rfl ρ S _ hi fun ρ' S' hi' => ?_⟩
    refine forL_inv I hok (fun j y hy ρ S kk h1 h2 => hs (j + 1) y (by simpa using hy) ρ S kk (by rwa [show t + (j + 1) = t + 0 + 1 + j by omega]) fun ρ'' S'' h => h2 _ _ (by rwa [show t + 0 + 1 + j + 1 = t + (j + 1) + 1 by omega])) hi' fun ρ'' S'' h => hk _ _ (by rw [List.length_cons]; rwa [show t + (xs.length + 1) = t + 0 + 1 + xs.length by omega])
theorem le_put {S : Hs} {p : Addr} {o : O} (h : S p = none) : S.le (hput S p o) := fun a u hu => by
  rw [hput_ne (fun e => by rw [e, h] at hu; cases hu)]; exact hu
theorem rngi_at {m j : Nat} {x : D} (h : (List.map (fun (i : Nat) => D.int (i : Int)) (List.range m))[j]? = some x) : j < m ∧ x = .int (j : Int) := by
  by_cases hj : j < m
  · rw [List.getElem?_map, List.getElem?_range hj] at h
    exact ⟨hj, (Option.some.inj h).symm⟩
  · rw [List.getElem?_eq_none (by simp; omega)] at h
    cases h
theorem mth_app {S : Hs} {p : Addr} {xs : List D} {y : D} (h : S p = some (.lst xs)) (hl : xs.length < sizeLine) : mthD .append S (.ref p) [y] = some (.non, hput S p (.lst (xs ++ [y]))) := by
  simp only [mthD, h]
  rw [if_pos hl]
theorem recv_app {S : Hs} {p : Addr} {xs : List D} (h : S p = some (.lst xs)) : recvOk .append S (.ref p) = true := by
  simp only [recvOk, h]
theorem op_fdiv {a b : Int} (h : 0 < b) (h2 : b < 1073741824) : opD .FloorDiv (.int a) (.int b) = some (.int (a / b)) := by
  show (if 0 < b ∧ b < 1073741824 then some (D.int (a / b)) else none) = _
  rw [if_pos ⟨h, h2⟩]
theorem bi_intS {S : Hs} {a : Int} : biD .int S [.int a] = some (.int a) := rfl
theorem rng_lit (m : Nat) (i : Int) (h : i = (m : Int)) (hm : m ≤ 1000) : rngOf [.int i] = some ((List.range m).map fun (i : Nat) => D.int (i : Int)) := by
  subst h
  exact range0i hm
def nB1 : List CS := [.ifs (.cmp .Eq (.var 3) (.con (.int 0))) [.brk] [],
  .expr (.meth .append (.var 1) [.op .Mod (.bi .int [.var 3]) (.con (.int 997))]),
  .asg (.nm 3) (.op .FloorDiv (.var 3) (.con (.int 997)))]
theorem num_big {c : Cw} {F : Mp.Fin} {p : Addr} {S : Hs} {ns row : List Int} {x : Int} {o2 o4 o5 : Option D} (hl : row.length + 60 ≤ 4000)
    (hk : ∀ (row2 : List Int) (a b : Option D), row2.length ≤ row.length + 60 → F.nx [some (.scr ns), some (.ref p), o2, a, b, o5] (hput S p (.lst (row2.map .int)))) :
    wpS c (.forr (.nm 4) (.rng [.con (.int 60)]) nB1) F [some (.scr ns), some (.ref p), o2, some (.int x), o4, o5] (hput S p (.lst (row.map .int))) := by
  simp only [wpS]
  refine wpI_rng1 (x := .int 60) (fun k' h => by simpa only [wpE] using h) rfl (rng_lit 60 60 rfl (by omega)) ?_
  refine forL_inv (fun t ρ S' => ∃ (row2 : List Int) (y : Int) (b : Option D), ρ = [some (.scr ns), some (.ref p), o2, some (.int y), b, o5] ∧ S' = hput S p (.lst (row2.map .int)) ∧ row2.length ≤ row.length + t) (fun _ => trivial) (t := 0) ?_ ⟨row, x, o4, rfl, rfl, Nat.le_refl _⟩ ?_
  · intro j d hd ρ S' kk hI hkk
    obtain ⟨hj, rfl⟩ := rngi_at hd
    obtain ⟨row2, y, b, rfl, rfl, hlen⟩ := hI
    have hp : hput S p (.lst (row2.map .int)) p = some (.lst (row2.map .int)) := hput_same
    have ha := mth_app (y := .int (y % 997)) hp (by simp; exact Nat.lt_of_lt_of_le (show row2.length < 5000 by omega) (by decide))
    have hr := recv_app hp
    have m1 := op_mod (a := y) (b := 997) (by omega)
    have m2 := op_fdiv (a := y) (b := 997) (by omega) (by omega)
    rw [hput_hput] at ha
    simp only [g_nm, List.length_cons, List.length_nil]
    simp [nB1, wpSs, wpS, wpE, wpEs, CE.isStar, cmp_eq]
    by_cases hy : y = 0
    · simp [hy]
      exact hk row2 _ _ (by omega)
    · simp [hy, bi_intS, m1, m2, vw, ha, hr]
      refine hkk _ _ ⟨row2 ++ [y % 997], y / 997, _, rfl, by rw [List.map_append]; rfl, by simp; omega⟩
  · rintro ρ' S' ⟨row2, y, b, rfl, rfl, hlen⟩
    refine hk _ _ _ ?_
    simpa using hlen
def nE1 : CE := .op .Mod (.bi .int [.op .Add (.op .Add (.op .Mult (.var 2) (.con (.int 48271))) (.op .Mult (.var 4) (.con (.int 69621)))) (.con (.int 11))]) (.con (.int 2147483647))
def nE2 : CE := .op .Mod (.bi .int [.op .Add (.op .Mult (.var 5) (.con (.int 16807))) (.var 4)]) (.con (.int 2147483629))
def nB2 : List CS := [.asg (.nm 5) nE1, .expr (.meth .append (.var 1) [nE2])]
def fe0 : Fe := fun _ _ => none
theorem fe0_ok {G : CallSem} : FeOk fe0 G := fun _ _ _ _ _ _ h => by cases h
theorem ev_nE1 {x j : Int} {o0 o1 o3 o5 : Option D} : ∃ z : Int, evE fe0 nE1 [o0, o1, some (.int x), o3, some (.int j), o5] = some (.int z) := by
  have m1 := op_mulR (a := x) (b := 48271) (by omega) (by omega)
  have m2 := op_mulR (a := j) (b := 69621) (by omega) (by omega)
  have m3 := op_mod (a := x * 48271 + j * 69621 + 11) (b := 2147483647) (by omega)
  refine ⟨(x * 48271 + j * 69621 + 11) % 2147483647, ?_⟩
  unfold nE1
  simp [CE.isStar, bi_int, m1, m2, op_add, m3]
theorem ev_nE2 {z j : Int} {o0 o1 o2 o3 : Option D} : ∃ w : Int, evE fe0 nE2 [o0, o1, o2, o3, some (.int j), some (.int z)] = some (.int w) := by
  have m1 := op_mulR (a := z) (b := 16807) (by omega) (by omega)
  have m3 := op_mod (a := z * 16807 + j) (b := 2147483629) (by omega)
  refine ⟨(z * 16807 + j) % 2147483629, ?_⟩
  unfold nE2
  simp [CE.isStar, bi_int, m1, op_add, m3]
theorem num_small {c : Cw} {F : Mp.Fin} {p : Addr} {S : Hs} {ns row : List Int} {x : Int} {o3 o4 o5 : Option D} (hl : row.length + 60 ≤ 4000)
    (hk : ∀ (row2 : List Int) (a b : Option D), row2.length ≤ row.length + 60 → F.nx [some (.scr ns), some (.ref p), some (.int x), o3, a, b] (hput S p (.lst (row2.map .int)))) :
    wpS c (.forr (.nm 4) (.rng [.con (.int 4)]) nB2) F [some (.scr ns), some (.ref p), some (.int x), o3, o4, o5] (hput S p (.lst (row.map .int))) := by
  simp only [wpS]
  refine wpI_rng1 (x := .int 4) (fun k' h => by simpa only [wpE] using h) rfl (rng_lit 4 4 rfl (by omega)) ?_
  refine forL_inv (fun t ρ S' => ∃ (row2 : List Int) (a b : Option D), ρ = [some (.scr ns), some (.ref p), some (.int x), o3, a, b] ∧ S' = hput S p (.lst (row2.map .int)) ∧ row2.length ≤ row.length + t) (fun _ => trivial) (t := 0) ?_ ⟨row, o4, o5, rfl, rfl, Nat.le_refl _⟩ ?_
  · intro j d hd ρ S' kk hI hkk
    obtain ⟨hj, rfl⟩ := rngi_at hd
    obtain ⟨row2, a, b, rfl, rfl, hlen⟩ := hI
    generalize (j : Int) = jj
    have hp : hput S p (.lst (row2.map .int)) p = some (.lst (row2.map .int)) := hput_same
    have hr := recv_app hp
    obtain ⟨z, hz⟩ := ev_nE1 (x := x) (j := jj) (o0 := some (.scr ns)) (o1 := some (.ref p)) (o3 := o3) (o5 := b)
    obtain ⟨w, hw⟩ := ev_nE2 (z := z) (j := jj) (o0 := some (.scr ns)) (o1 := some (.ref p)) (o2 := some (.int x)) (o3 := o3)
    have ha := mth_app (y := .int w) hp (by simp; exact Nat.lt_of_lt_of_le (show row2.length < 5000 by omega) (by decide))
    rw [hput_hput] at ha
    simp only [g_nm, List.length_cons, List.length_nil]
    simp only [show (4 : Nat) < 0 + 1 + 1 + 1 + 1 + 1 + 1 by omega, if_true, List.set_cons_succ, List.set_cons_zero]
    unfold nB2
    simp only [wpSs, wpS]
    refine evE_ok nE1 fe0_ok hz ?_
    simp only [g_nm, List.length_cons, List.length_nil]
    simp only [show (5 : Nat) < 0 + 1 + 1 + 1 + 1 + 1 + 1 by omega, if_true, List.set_cons_succ, List.set_cons_zero]
    simp only [wpE, wpEs, List.getElem?_cons_succ, List.getElem?_cons_zero]
    refine ⟨hr, evE_ok nE2 fe0_ok hw ?_⟩
    simp only [show nE2.isStar = false from rfl, ha]
    refine hkk _ _ ⟨row2 ++ [w], _, _, rfl, by rw [List.map_append]; rfl, by simp; omega⟩
  · rintro ρ' S' ⟨row2, a, b, rfl, rfl, hlen⟩
    refine hk _ _ _ ?_
    simp at hlen
    omega
theorem cutI_ints {ns : List Int} (h : ns.length ≤ 63) : (cutI ns none (some 63)).length ≤ 63 := by
  unfold cutI
  rw [List.length_take, List.length_drop]
  omega
theorem w_numbers {n : Nat} {ns : List Int} {S : Hs} {k : DK} {ke : EK} (h : ns.length ≤ 63) (hk : ∀ row : List Int, row ≠ [] → k (.lst (row.map .int)) S) : wpC T (n + 1) "_law_numbers" [.scr ns] S k ke := by
  refine call_in (fn := f__law_numbers) (by kernel_rfl) ⟨rfl, ?_⟩
  show wpSs _ [.asg (.nm 1) (.nlst []),
    .forr (.nm 2) (.seq (.sl (.var 0) none (some (.con (.int 63))))) [
      .ifs (.cmp .GtE (.var 2) (.op .Pow (.con (.int 10)) (.con (.int 18)))) [.asg (.nm 3) (.var 2), .forr (.nm 4) (.rng [.con (.int 60)]) nB1] [.forr (.nm 4) (.rng [.con (.int 4)]) nB2]],
    .ifs (.cmp .Eq (.bi .len [.var 1]) (.con (.int 0))) [.expr (.meth .append (.var 1) [.con (.int 0)])] [], .frz 1, .ret (.var 1)] _ [some (.scr ns), none, none, none, none, none] S
  generalize hB1 : CS.forr (.nm 4) (.rng [.con (.int 60)]) nB1 = b1
  generalize hB2 : CS.forr (.nm 4) (.rng [.con (.int 4)]) nB2 = b2
  simp only [wpSs, wpS, wpE, wpEs]
  refine ⟨by decide, fun p hp => ?_⟩
  simp only [g_nm, List.length_cons, List.length_nil]
  simp only [wpI, wpE, wpO]
  have hsl : slD (hput S p (.lst [])) (.scr ns) none (some 63) = some (.lst ((cutI ns none (some 63)).map .int)) := rfl
  simp [hsl, itemsOf]
  have hlen := cutI_ints h
  generalize cutI ns none (some 63) = cs at *
  refine forL_inv (fun t ρ S' => ∃ (row : List Int) (o2 o3 o4 o5 : Option D), ρ = [some (.scr ns), some (.ref p), o2, o3, o4, o5] ∧ S' = hput S p (.lst (row.map .int)) ∧ row.length ≤ 60 * t) (fun _ => trivial) (t := 0) ?_ ⟨[], none, none, none, none, rfl, rfl, Nat.le_refl _⟩ ?_
  · intro j d hd ρ S' kk hI hkk
    rw [List.getElem?_map] at hd
    obtain ⟨x, hx, rfl⟩ := Option.map_eq_some_iff.mp hd
    have hj : j < cs.length := by
      obtain ⟨hh, _⟩ := List.getElem?_eq_some_iff.mp hx
      exact hh
    obtain ⟨row, o2, o3, o4, o5, rfl, rfl, hrow⟩ := hI
    have hpow : opD .Pow (.int 10) (.int 18) = some (.int 1000000000000000000) := by
      show (if (0 : Int) ≤ 18 ∧ (18 : Int) ≤ 1000 ∧ (10 : Int).natAbs < 2 ^ 64 then some (D.int (10 ^ (18 : Int).toNat)) else none) = _
      rw [if_pos (by decide)]
      rfl
    have hv : ∀ (S : Hs) (i : Int), vw S (.int i) = .int i := fun _ _ => rfl
    have hge : ∀ (S : Hs), cmpD .GtE S (.int x) (.int 1000000000000000000) = some (decide (1000000000000000000 ≤ x)) := fun _ => rfl
    generalize (1000000000000000000 : Int) = big at hpow hge
    simp only [g_nm, List.length_cons, List.length_nil, List.set_cons_succ, List.set_cons_zero]
    simp only [show (2 : Nat) < 0 + 1 + 1 + 1 + 1 + 1 + 1 by omega, if_true, List.getElem?_cons_succ, List.getElem?_cons_zero, hv, hpow, hge, truth_bl]
    subst hB1 hB2
    by_cases hb : big ≤ x
    · simp only [hb, decide_true]
      refine num_big (by omega) fun row2 a b hr2 => hkk _ _ ⟨row2, _, _, _, _, rfl, rfl, by omega⟩
    · simp only [hb, decide_false]
      refine num_small (by omega) fun row2 a b hr2 => hkk _ _ ⟨row2, _, _, _, _, rfl, rfl, by omega⟩
  · rintro ρ' S' ⟨row, o2, o3, o4, o5, rfl, rfl, hrow⟩
    have hp2 : hput S p (.lst (row.map .int)) p = some (.lst (row.map .int)) := hput_same
    have hlen2 : biD .len (hput S p (.lst (row.map .int))) [.ref p] = some (.int (row.length : Int)) := by simp [biD, vw, hp2]
    simp [CE.isStar, hlen2, cmp_eq]
    cases row with
    | nil =>
      have hr := recv_app (S := hput S p (.lst [])) (p := p) (xs := []) hput_same
      have ha := mth_app (S := hput S p (.lst [])) (p := p) (xs := []) (y := .int 0) hput_same (by decide)
      rw [hput_hput] at ha
      simp [hr, ha]
      refine ⟨S, ?_, hk [0] (by simp)⟩
      rw [hdel_hput hp]
      exact le_refl
    | cons r row =>
      have hz : ¬ (row.length : Int) + 1 = 0 := by omega
      simp [hz]
      refine ⟨S, ?_, hk (r :: row) (by simp)⟩
      rw [hdel_hput hp]
      exact le_refl
theorem q_cons {c : Cw} {s : CS} {r : List CS} {F : Mp.Fin} {ρ : Ev} {S : Hs} (h : wpS c s { F with nx := fun ρ' S' => wpSs c r F ρ' S' } ρ S) : wpSs c (s :: r) F ρ S := by
  rw [wpSs]; exact h
theorem q_nil {c : Cw} {F : Mp.Fin} {ρ : Ev} {S : Hs} (h : F.nx ρ S) : wpSs c [] F ρ S := by
  rw [wpSs]; exact h
theorem q_asg {c : Cw} {i : Nat} {e : CE} {F : Mp.Fin} {ρ : Ev} {S : Hs} (h : wpE c e ρ (fun x S1 => i < ρ.length ∧ F.nx (ρ.set i (some x)) S1) S) : wpS c (.asg (.nm i) e) F ρ S := by
  rw [wpS]
  have : (fun x S1 => i < ρ.length ∧ F.nx (ρ.set i (some x)) S1) = (fun x S1 => match asgG S1 (.nm i) x ρ with
    | some ρ' => F.nx ρ' S1
    | none => False) := by
    funext x S1
    rw [g_nm]
    by_cases hi : i < ρ.length
    · rw [if_pos hi]; simp [hi]
    · rw [if_neg hi]; simp [hi]
  rw [this] at h
  exact h
theorem q_ret {c : Cw} {e : CE} {F : Mp.Fin} {ρ : Ev} {S : Hs} (h : wpE c e ρ F.rt S) : wpS c (.ret e) F ρ S := by
  rw [wpS]; exact h
theorem q_var {c : Cw} {i : Nat} {ρ : Ev} {k : DK} {S : Hs} {d : D} (e : ρ[i]? = some (some d)) (h : k d S) : wpE c (.var i) ρ k S := by
  rw [wpE, e]; exact h
theorem q_con {c : Cw} {ρ : Ev} {k : DK} {S : Hs} {d : D} (h : k d S) : wpE c (.con d) ρ k S := by
  rw [wpE]; exact h
theorem q_lrngN {c : Cw} {a : CE} {ρ : Ev} {k : DK} {S : Hs} {x : D} {xs : List D} (ha : ∀ k' : DK, k' x S → wpE c a ρ k' S) (sa : a.isStar = false) (hr : rngOf [x] = some xs) (hl : xs.length ≤ 1000) (h : ∀ p, S p = none → k (.ref p) (hput S p (.lst xs))) : wpE c (.lrng true [a]) ρ k S := by
  rw [wpE, wpEs]
  simp only [sa]
  refine ha _ ?_
  rw [wpEs, hr]
  refine ⟨Nat.le_trans hl (by decide), ?_⟩
  rw [if_pos trivial]
  exact h
theorem q_nlst0 {c : Cw} {ρ : Ev} {k : DK} {S : Hs} (h : ∀ p, S p = none → k (.ref p) (hput S p (.lst []))) : wpE c (.nlst []) ρ k S := by
  rw [wpE, wpEs]
  exact ⟨by decide, h⟩
theorem q_for1 {c : Cw} {g : CG} {a : CE} {b : List CS} {F : Mp.Fin} {ρ : Ev} {S : Hs} {x : D} {xs : List D} (ha : ∀ k' : DK, k' x S → wpE c a ρ k' S) (sa : a.isStar = false) (hr : rngOf [x] = some xs)
    (h : forL (fun _ => True) (fun x k ρ2 S2 => match asgG S2 g x ρ2 with
      | some ρ3 => wpSs c b { nx := k, ct := k, bk := F.nx, rt := F.rt } ρ3 S2
      | none => False) xs F.nx ρ S) : wpS c (.forr g (.rng [a]) b) F ρ S := by
  rw [wpS]
  exact wpI_rng1 ha sa hr h
theorem q_frz {c : Cw} {i : Nat} {F : Mp.Fin} {ρ : Ev} {S : Hs} {a : Addr} {xs : List D} (e : ρ[i]? = some (some (.ref a))) (hS : S a = some (.lst xs)) (h : F.nx (ρ.set i (some (.lst xs))) (hdel S a)) : wpS c (.frz i) F ρ S := by
  rw [wpS, e]
  simp only [hS]
  exact h
theorem erase_map (f : Int → D) : ∀ (L : List Int) (i : Nat), (L.map f).eraseIdx i = (L.eraseIdx i).map f
  | [], _ => rfl
  | _ :: _, 0 => rfl
  | a :: L, i + 1 => by
    rw [List.map_cons, List.eraseIdx_cons_succ, List.eraseIdx_cons_succ, List.map_cons, erase_map f L i]
theorem erase_perm : ∀ {L : List Int} {i : Nat} (h : i < L.length), (L[i] :: L.eraseIdx i).Perm L
  | a :: L, 0, _ => List.Perm.refl _
  | a :: L, i + 1, h => by
    rw [List.eraseIdx_cons_succ, List.getElem_cons_succ]
    exact (List.Perm.swap _ _ _).trans ((erase_perm (by simpa using h)).cons a)
/-- the nodes in a drawn sequence -/
theorem d_shuffled {row : List Int} (hr : row ≠ []) {n m : Nat} (hm : m ≤ 8) : Dr (n + 3) row "_law_shuffled" [.int (m : Int)] (fun w => ∃ M : List Int, w = .lst (M.map .int) ∧ M.Perm (rngM m)) := by
  intro S sp a k ke hS ha hk
  have hrng : rngOf [.int (m : Int)] = some ((rngM m).map D.int) := range0 (by omega)
  have hrng2 : rngOf [.int (m : Int)] = some ((List.range m).map fun (i : Nat) => D.int (i : Int)) := range0i (by omega)
  generalize (m : Int) = mi at hrng hrng2 ⊢
  refine call_in (fn := f__law_shuffled) (by kernel_rfl) ⟨rfl, ?_⟩
  show wpSs _ [.asg (.nm 3) (.lrng true [.var 2]), .asg (.nm 4) (.nlst []), .forr (.nm 5) (.rng [.var 2]) [.expr (.meth .append (.var 4) [.meth .popAt (.var 3) [.call "_law_take" [.var 0, .var 1, .bi .len [.var 3]]]])], .frz 4, .ret (.var 4)] _ [some (.lst (row.map .int)), some (.ref sp), some (.int mi), none, none, none] S
  refine q_cons (q_asg (q_lrngN (x := .int mi) (fun k' h => q_var rfl h) rfl hrng (by simp [rngM]; omega) fun l hl => ⟨by simp, ?_⟩))
  refine q_cons (q_asg (q_nlst0 fun q hq => ⟨by simp, ?_⟩))
  have hsl : sp ≠ l := fun e => by rw [← e, hS] at hl; cases hl
  have hql : q ≠ l := fun e => by rw [e, hput_same] at hq; cases hq
  have hSq : S q = none := by rw [hput_ne hql] at hq; exact hq
  have hsq : sp ≠ q := fun e => by rw [← e, hS] at hSq; cases hSq
  refine q_cons (q_for1 (x := .int mi) (fun k' h => q_var rfl h) rfl hrng2 ?_)
  refine forL_inv (fun t ρ S' => ∃ (M L : List Int) (b : Int) (o5 : Option D), ρ = [some (.lst (row.map .int)), some (.ref sp), some (.int mi), some (.ref l), some (.ref q), o5] ∧ S' = hput (hput (hput S sp (.lst [.int b])) l (.lst (L.map .int))) q (.lst (M.map .int)) ∧ 0 ≤ b ∧ M.length = t ∧ (M ++ L).Perm (rngM m)) (fun _ => trivial) (t := 0) ?_ ⟨[], rngM m, a, none, rfl, by rw [hput_self hS]; rfl, ha, rfl, List.Perm.refl _⟩ ?_
  · intro j d hd ρ S' kk hI hkk
    obtain ⟨hj, rfl⟩ := rngi_at hd
    obtain ⟨M, L, b, o5, rfl, rfl, hb, hM, hperm⟩ := hI
    have hlen := hperm.length_eq
    rw [List.length_append, rngM_len] at hlen
    have hL : 0 < L.length := by omega
    generalize (j : Int) = jj
    simp only [g_nm, List.length_cons, List.length_nil]
    simp
    simp only [wpSs, wpS, wpE, wpEs, List.getElem?_cons_succ, List.getElem?_cons_zero, CE.isStar]
    refine ⟨recv_app hput_same, ?_, ?_⟩
    · simp only [recvOk]
      rw [hput_ne (fun e => hql e.symm), hput_same]
    · have hbl : biD .len (hput (hput (hput S sp (.lst [.int b])) l (.lst (L.map .int))) q (.lst (M.map .int))) [.ref l] = some (.int (L.length : Int)) := by
        simp only [biD, vw]
        rw [hput_ne (fun e => hql e.symm), hput_same]
        simp
      simp only [hbl]
      refine d_take hr (by omega) (a := b) (by rw [hput_ne hsq, hput_ne hsl, hput_same]) hb fun b2 w hb2 hw => ?_
      obtain ⟨i, rfl, hi0, hi1⟩ := hw
      have e1 : hput (hput (hput (hput S sp (.lst [.int b])) l (.lst (L.map .int))) q (.lst (M.map .int))) sp (.lst [.int b2]) = hput (hput (hput S sp (.lst [.int b2])) l (.lst (L.map .int))) q (.lst (M.map .int)) := by
        rw [hput_comm (fun e => hsq e.symm), hput_mid hsl]
      rw [e1]
      have hSl : hput (hput (hput S sp (.lst [.int b2])) l (.lst (L.map .int))) q (.lst (M.map .int)) l = some (.lst (L.map .int)) := by rw [hput_ne (fun e => hql e.symm), hput_same]
      obtain ⟨ii, hie⟩ : ∃ ii : Nat, ii = i.toNat := ⟨_, rfl⟩
      have hii : ii < L.length := by omega
      have hpop : mthD .popAt (hput (hput (hput S sp (.lst [.int b2])) l (.lst (L.map .int))) q (.lst (M.map .int))) (.ref l) [.int i] = some (.int L[ii], hput (hput (hput S sp (.lst [.int b2])) l (.lst ((L.eraseIdx ii).map .int))) q (.lst (M.map .int))) := by
        simp only [mthD, hSl]
        rw [if_pos (by omega)]
        rw [← hie, List.getElem?_map, List.getElem?_eq_getElem hii]
        simp only [Option.map_some]
        rw [hput_comm (a := q) (b := l) hql, hput_hput, erase_map]
      rw [hpop]
      have hap := mth_app (S := hput (hput (hput S sp (.lst [.int b2])) l (.lst ((L.eraseIdx ii).map .int))) q (.lst (M.map .int))) (y := .int L[ii]) hput_same (by simp; exact Nat.lt_of_lt_of_le (show M.length < 5000 by omega) (by decide))
      rw [hput_hput] at hap
      simp only [hap]
      refine hkk _ _ ⟨M ++ [L[ii]], L.eraseIdx ii, b2, _, rfl, by rw [List.map_append]; rfl, hb2, by simp [hM], ?_⟩
      rw [List.append_assoc]
      refine List.Perm.trans (List.Perm.append_left M ?_) hperm
      exact erase_perm hii
  · rintro ρ' S' ⟨M, L, b, o5, rfl, rfl, hb, hM, hperm⟩
    have hlen := hperm.length_eq
    rw [List.length_append, rngM_len] at hlen
    have hL : L = [] := by
      refine List.eq_nil_of_length_eq_zero ?_
      simp at hM
      omega
    subst hL
    rw [List.append_nil] at hperm
    refine q_cons (q_frz rfl hput_same (q_cons (q_ret (q_var rfl ?_))))
    refine ⟨hput S sp (.lst [.int b]), ?_, hk b _ hb ⟨M, rfl, hperm⟩⟩
    rw [hdel_hput (by rw [hput_ne hql, hput_ne (fun e => hsq e.symm)]; exact hSq)]
    exact le_put (by rw [hput_ne (fun e => hsl e.symm)]; exact hl)
end Lw

namespace Lw
open PySem Mp
def rowT (r : List Int) : D := .tup (r.map .int)
def webT (R : List (List Int)) : D := .tup (R.map rowT)
/-- whole numbers below m, not i, going up -/
def RowOk (i m : Int) (r : List Int) : Prop := (∀ x ∈ r, 0 ≤ x ∧ x < m) ∧ incB r = true ∧ i ∉ r
theorem oth_ok {i m : Int} {r : List Int} (h : RowOk i m r) : othersD (rowT r) i m = true := by
  obtain ⟨h1, h2, h3⟩ := h
  unfold othersD belowD rowT
  simp only [seqD, intsOf_map, any_ints, Option.getD_some, h2, Bool.and_true]
  rw [Bool.and_eq_true]
  refine ⟨List.all_eq_true.mpr fun d hd => ?_, by simpa using h3⟩
  obtain ⟨x, hx, rfl⟩ := List.mem_map.mp hd
  have := h1 x hx
  simp only [within, Bool.and_eq_true, decide_eq_true_eq]
  omega
theorem inc_sort {ns : List Int} (h : ns.Nodup) : incB (sortI ns) = true := by
  have hp := sortI_perm ns
  have hnd : (sortI ns).Nodup := hp.nodup_iff.mpr h
  have hs := sortI_sorted ns
  have hlt : (sortI ns).Pairwise (· < ·) := (hs.and hnd).imp fun h => by
    have h1 := h.1
    have h2 := h.2
    omega
  unfold incB
  rw [List.all_eq_true]
  intro i hi
  have hi := List.mem_range.mp hi
  have := List.pairwise_iff_getElem.mp hlt i (i + 1) (by omega) (by omega) (by omega)
  rw [decide_eq_true_eq, List.getD_eq_getElem?_getD, List.getD_eq_getElem?_getD, List.getElem?_eq_getElem (by omega), List.getElem?_eq_getElem (by omega)]
  exact this
theorem rngM_nodup {m : Nat} : (rngM m).Nodup := List.Pairwise.map _ (fun a b h e => h (Int.ofNat.inj e)) List.nodup_range
theorem rngM_mem {m : Nat} {i : Int} (h : i ∈ rngM m) : 0 ≤ i ∧ i < m := by
  unfold rngM at h
  obtain ⟨j, hj, rfl⟩ := List.mem_map.mp h
  have hj := List.mem_range.mp hj
  omega
theorem rows_rowT : ∀ R : List (List Int), rowsI (R.map rowT) = some R
  | [] => rfl
  | r :: R => by
    rw [List.map_cons]
    unfold rowsI
    rw [rows_rowT R]
    simp [rowT, seqD, intsOf_map]
structure GoodW (M : List Int) (R : List (List Int)) : Prop where
  perm : M.Perm (rngM R.length)
  row : ∀ (j : Nat) (hj : j < M.length), incB (R.getD (M[j]).toNat []) = true ∧ (∀ x ∈ R.getD (M[j]).toNat [], x ∈ M.take j) ∧ (R.getD (M[j]).toNat []).length ≤ j
theorem good_nodup {M : List Int} {R : List (List Int)} (h : GoodW M R) : M.Nodup := h.perm.nodup_iff.mpr rngM_nodup
theorem not_take {M : List Int} (h : M.Nodup) {j : Nat} (hj : j < M.length) : M[j] ∉ M.take j := fun hm => by
  obtain ⟨k, hk, e⟩ := List.getElem_of_mem hm
  rw [List.getElem_take] at e
  rw [List.length_take] at hk
  have := List.pairwise_iff_getElem.mp h k j (by omega) hj (by omega)
  exact this e
theorem row_good {M : List Int} {R : List (List Int)} (h : GoodW M R) {i : Nat} (hi : i < R.length) : RowOk i R.length (R.getD i []) ∧ (R.getD i []).length ≤ R.length := by
  have hlen := h.perm.length_eq
  rw [rngM_len] at hlen
  have hm : (i : Int) ∈ M := h.perm.mem_iff.mpr (mem_rngM (by omega))
  obtain ⟨j, hj, e⟩ := List.getElem_of_mem hm
  obtain ⟨h1, h2, h3⟩ := h.row j hj
  have hnt := not_take (good_nodup h) hj
  rw [e] at h1 h2 h3 hnt
  have ei : ((i : Int)).toNat = i := by omega
  rw [ei] at h1 h2 h3
  refine ⟨⟨fun x hx => rngM_mem (h.perm.mem_iff.mp (List.mem_of_mem_take (h2 x hx))), h1, fun hx => hnt (h2 _ hx)⟩, by omega⟩
theorem order_good {M : List Int} {R : List (List Int)} (h : GoodW M R) : (orderN R R.length []).length = R.length := by
  have hend := ord_end (sup := R) R.length [] mu_le
  have hlen := h.perm.length_eq
  rw [rngM_len] at hlen
  have all : ∀ (j : Nat) (hj : j < M.length), M[j] ∈ orderN R R.length [] := by
    intro j
    induction j using Nat.strongRecOn with
    | ind j ih =>
      intro hj
      refine Classical.byContradiction fun hn => ?_
      obtain ⟨h1, h2, h3⟩ := h.row j hj
      have : M[j] ∈ stepO R (orderN R R.length []) := step_mem.mpr ⟨h.perm.mem_iff.mp (List.getElem_mem hj), hn, fun k hk => by
        obtain ⟨q, hq, e⟩ := List.getElem_of_mem (h2 k hk)
        rw [List.getElem_take] at e
        rw [List.length_take] at hq
        rw [← e]
        exact ih q (by omega) (by omega)⟩
      rw [hend] at this
      cases this
  obtain ⟨n1, n2⟩ := ord_sub (sup := R) R.length [] List.nodup_nil (fun _ z => by cases z)
  have l1 := len_le n1 n2
  have l2 := len_le (l := rngM R.length) (r := orderN R R.length []) rngM_nodup fun i hi => by
    obtain ⟨j, hj, e⟩ := List.getElem_of_mem (h.perm.mem_iff.mpr hi)
    rw [← e]
    exact all j hj
  rw [rngM_len] at l1 l2
  omega
theorem getD_rowT {R : List (List Int)} {i : Nat} (hi : i < R.length) : (R.map rowT).getD i .non = rowT (R.getD i []) := by
  rw [List.getD_eq_getElem?_getD, List.getD_eq_getElem?_getD, List.getElem?_map, List.getElem?_eq_getElem hi]
  rfl
theorem web_good {M : List Int} {R : List (List Int)} (h : GoodW M R) (h1 : 1 ≤ R.length) (h8 : R.length ≤ 8) : webD (webT R) = true := by
  have hrow : rowD (webT R) 1 8 = true := by
    simp only [rowD, webT, seqD, List.length_map, Bool.and_eq_true, decide_eq_true_eq]
    omega
  unfold webD
  rw [hrow, Bool.true_and]
  simp only [webT, seqD, List.length_map, rows_rowT]
  rw [Bool.and_eq_true, enum_range, List.length_map]
  refine ⟨List.all_eq_true.mpr fun i hi => ?_, by rw [decide_eq_true_eq]; exact order_good h⟩
  have hi := List.mem_range.mp hi
  rw [getD_rowT hi, Nat.zero_add]
  exact oth_ok (row_good h hi).1
mutual
/-- rows of at most 8, of tuples and whole numbers -/
def ti : D → Bool
  | .tup ds => decide (ds.length ≤ 8) && tis ds
  | .int _ => true
  | _ => false
def tis : List D → Bool
  | [] => true
  | d :: ds => ti d && tis ds
end
theorem tis_mem : ∀ {ds : List D} {d : D}, tis ds = true → d ∈ ds → ti d = true
  | d :: ds, e, h, hm => by
    simp only [tis, Bool.and_eq_true] at h
    rcases List.mem_cons.mp hm with rfl | hm
    · exact h.1
    · exact tis_mem h.2 hm
theorem tis_of : ∀ {ds : List D}, (∀ d ∈ ds, ti d = true) → tis ds = true
  | [], _ => by simp only [tis]
  | d :: ds, h => by
    simp only [tis, Bool.and_eq_true]
    exact ⟨h d List.mem_cons_self, tis_of fun x hx => h x (List.mem_cons_of_mem _ hx)⟩
mutual
theorem ti_sm : ∀ {d : D}, ti d = true → sm d = true ∧ td d = true
  | .tup ds, h => by
    simp only [ti, Bool.and_eq_true, decide_eq_true_eq] at h
    obtain ⟨q1, q2⟩ := tis_sms h.2
    simp only [sm, td, Bool.and_eq_true, decide_eq_true_eq]
    exact ⟨⟨by omega, q1⟩, q2⟩
  | .int _, _ => ⟨rfl, rfl⟩
  | .non, h => by simp [ti] at h
  | .bl _, h => by simp [ti] at h
  | .str _, h => by simp [ti] at h
  | .lst _, h => by simp [ti] at h
  | .scr _, h => by simp [ti] at h
  | .ref _, h => by simp [ti] at h
theorem tis_sms : ∀ {ds : List D}, tis ds = true → sms ds = true ∧ tds ds = true
  | [], _ => ⟨by simp only [sms], by simp only [tds]⟩
  | d :: ds, h => by
    simp only [tis, Bool.and_eq_true] at h
    obtain ⟨q1, q2⟩ := ti_sm h.1
    obtain ⟨q3, q4⟩ := tis_sms h.2
    simp only [sms, tds, Bool.and_eq_true]
    exact ⟨⟨q1, q3⟩, q2, q4⟩
end
theorem ti_row {r : List Int} (h : r.length ≤ 8) : ti (rowT r) = true := by
  simp only [rowT, ti, Bool.and_eq_true, decide_eq_true_eq, List.length_map]
  refine ⟨h, tis_of fun d hd => ?_⟩
  obtain ⟨x, _, rfl⟩ := List.mem_map.mp hd
  rfl
theorem deps_le : ∀ {ds : List D} {n : Nat}, (∀ d ∈ ds, D.dep d ≤ n) → D.deps ds ≤ n
  | [], n, _ => by simp only [D.deps]; omega
  | d :: ds, n, h => by
    simp only [D.deps]
    exact Nat.max_le.mpr ⟨h d List.mem_cons_self, deps_le fun x hx => h x (List.mem_cons_of_mem _ hx)⟩
theorem dep_row {r : List Int} : D.dep (rowT r) ≤ 1 := by
  simp only [rowT, D.dep]
  have := deps_le (ds := r.map D.int) (n := 0) fun d hd => by
    obtain ⟨x, _, rfl⟩ := List.mem_map.mp hd
    simp only [D.dep]; omega
  omega
theorem ti_web {M : List Int} {R : List (List Int)} (h : GoodW M R) (h8 : R.length ≤ 8) : ti (webT R) = true := by
  simp only [webT, ti, Bool.and_eq_true, decide_eq_true_eq, List.length_map]
  refine ⟨h8, tis_of fun d hd => ?_⟩
  obtain ⟨r, hr, rfl⟩ := List.mem_map.mp hd
  obtain ⟨i, hi, e⟩ := List.getElem_of_mem hr
  have := (row_good h hi).2
  rw [List.getD_eq_getElem?_getD, List.getElem?_eq_getElem hi] at this
  simp only [Option.getD_some, e] at this
  exact ti_row (by omega)
theorem dep_web {R : List (List Int)} : D.dep (webT R) ≤ 2 := by
  simp only [webT, D.dep]
  have := deps_le (ds := R.map rowT) (n := 1) fun d hd => by
    obtain ⟨r, _, rfl⟩ := List.mem_map.mp hd
    exact dep_row
  omega
end Lw

namespace Lw
open PySem Mp
theorem rel_pick {f : Int → Int} : ∀ {xs : List Int} {ys : List D}, RelL (fun x o => o = none ∨ ∃ i : Int, x = .int i ∧ o = some (.int (f i))) (xs.map .int) ys → ∃ ns : List Int, ys = ns.map .int ∧ ns.Sublist (xs.map f)
  | [], ys, h => by
    have h : ys = [] := h
    subst h
    exact ⟨[], rfl, List.Sublist.refl _⟩
  | x :: xs, ys, h => by
    obtain ⟨o, r, hq, hr, rfl⟩ := h
    obtain ⟨ns, rfl, hs⟩ := rel_pick hr
    rcases hq with rfl | ⟨i, hi, rfl⟩
    · exact ⟨ns, rfl, hs.cons _⟩
    · cases hi
      exact ⟨f x :: ns, rfl, hs.cons₂ _⟩
theorem take_map {M : List Int} {j : Nat} (hj : j ≤ M.length) : (rngM j).map (fun i => M.getD i.toNat 0) = M.take j := by
  refine List.ext_getElem ?_ fun i h1 h2 => ?_
  · rw [List.length_map, rngM_len, List.length_take]; omega
  · rw [List.length_map, rngM_len] at h1
    simp [rngM]
    rw [List.getElem?_eq_getElem (by omega)]
    rfl
theorem w_pick {n : Nat} {row : List Int} (hr : row ≠ []) {c : Cw} (hc : c.G = wpC T (n + 2)) {M : List Int} {j : Nat} {jj : Int} (hjr : rngOf [.int jj] = some ((rngM j).map D.int)) (hj : j ≤ M.length) (hM : M.length ≤ 8) {often : Int} (ho : 0 < often) {S : Hs} {sp : Addr} {b : Int} (hS : S sp = some (.lst [.int b])) (hb : 0 ≤ b) {o2 o5 o7 : Option D} {k : DK}
    (hk : ∀ (ns : List Int) (b' : Int), 0 ≤ b' → ns.Sublist (M.take j) → k (.lst (ns.map .int)) (hput S sp (.lst [.int b']))) :
    wpE c (.comp false (.idx (.var 3) (.var 7)) (.nm 7) (.rng [.var 6]) [.cmp .Eq (.call "_law_take" [.var 0, .var 1, .var 4]) (.con (.int 0))] [("at", 7)]) [some (.lst (row.map .int)), some (.ref sp), o2, some (.lst (M.map .int)), some (.int often), o5, some (.int jj), o7] k S := by
  simp only [wpE]
  refine wpI_rng1 (x := .int jj) (fun k' h => q_var rfl h) rfl hjr ?_
  intro q hq
  have hsq : sp ≠ q := fun e => by rw [← e, hS] at hq; cases hq
  rw [show hput S q (.lst []) = hput (hput S sp (.lst [.int b])) q (.lst []) by rw [hput_self hS]]
  refine cmpL_draw (fun x o => o = none ∨ ∃ i : Int, x = .int i ∧ o = some (.int (M.getD i.toNat 0))) (fun _ => trivial) (fun x hx acc a' kk ha' hkk => ?_) hb (by simp [rngM]; exact Nat.le_trans (show j ≤ 1000 by omega) (by decide)) fun ys b' hb' hrel => ?_
  · obtain ⟨i, hi, rfl⟩ := List.mem_map.mp hx
    have hi := rngM_mem hi
    obtain ⟨ii, rfl⟩ := Int.eq_ofNat_of_zero_le hi.1
    have hii : ii < M.length := by omega
    simp [wipeD, wpT, wpE, wpEs, CE.isStar, hc]
    refine d_take hr ho (a := a') (by rw [hput_ne hsq, hput_same]) ha' fun b2 w hb2 hw => ?_
    obtain ⟨z, rfl, _, _⟩ := hw
    rw [hput_mid hsq]
    simp [cmp_eq]
    by_cases hz : z = 0
    · have hix : idxD (hput (hput S sp (.lst [.int b2])) q (.lst acc)) (.lst (M.map .int)) (.int (ii : Int)) = some (.int (M.getD ii 0)) := by
        show L2.atI (M.map D.int) (ii : Int) = _
        rw [atI_nat (by simpa using hii), getD_map hii]
      simp only [hz, decide_true, hix]
      exact hkk _ b2 hb2 (.inr ⟨_, rfl, rfl⟩)
    · simp only [hz, decide_false]
      exact hkk _ b2 hb2 (.inl rfl)
  · obtain ⟨ns, rfl, hs⟩ := rel_pick hrel
    rw [take_map hj] at hs
    rw [List.nil_append]
    refine ⟨_, hput_same, ?_⟩
    simp only [Bool.false_eq_true, if_false]
    rw [hdel_hput (by rw [hput_ne (fun e => hsq e.symm)]; exact hq)]
    exact hk ns b' hb' hs
theorem good_set {M : List Int} {R : List (List Int)} {j : Nat} {r : List Int} (hM : M.Perm (rngM R.length)) (hj : j < M.length) (hr : incB r = true ∧ (∀ x ∈ r, x ∈ M.take j) ∧ r.length ≤ j)
    (h : ∀ (i : Nat) (hi : i < M.length), i < j → incB (R.getD (M[i]).toNat []) = true ∧ (∀ x ∈ R.getD (M[i]).toNat [], x ∈ M.take i) ∧ (R.getD (M[i]).toNat []).length ≤ i) :
    ∀ (i : Nat) (hi : i < M.length), i < j + 1 → incB ((R.set (M[j]).toNat r).getD (M[i]).toNat []) = true ∧ (∀ x ∈ (R.set (M[j]).toNat r).getD (M[i]).toNat [], x ∈ M.take i) ∧ ((R.set (M[j]).toNat r).getD (M[i]).toNat []).length ≤ i := by
  intro i hi hij
  have hnd : M.Nodup := hM.nodup_iff.mpr rngM_nodup
  have m1 := rngM_mem (hM.mem_iff.mp (List.getElem_mem hj))
  have m2 := rngM_mem (hM.mem_iff.mp (List.getElem_mem hi))
  by_cases e : i = j
  · subst e
    have : (R.set (M[i]).toNat r).getD (M[i]).toNat [] = r := by
      rw [List.getD_eq_getElem?_getD, List.getElem?_set, if_pos rfl, if_pos (by omega)]
      rfl
    rw [this]
    exact hr
  · have hne : M[j] ≠ M[i] := fun z => by
      have := List.pairwise_iff_getElem.mp hnd i j hi hj (by omega)
      exact this z.symm
    have : (R.set (M[j]).toNat r).getD (M[i]).toNat [] = R.getD (M[i]).toNat [] := by
      rw [List.getD_eq_getElem?_getD, List.getElem?_set, if_neg (by omega), List.getD_eq_getElem?_getD]
    rw [this]
    exact h i hi (by omega)
def webE : CE := .bi .tuple [.bi .sorted [.comp false (.idx (.var 3) (.var 7)) (.nm 7) (.rng [.var 6]) [.cmp .Eq (.call "_law_take" [.var 0, .var 1, .var 4]) (.con (.int 0))] [("at", 7)]]]
theorem w_webE {n : Nat} {row : List Int} (hr : row ≠ []) {c : Cw} (hc : c.G = wpC T (n + 2)) {M : List Int} {j : Nat} {jj : Int} (hjr : rngOf [.int jj] = some ((rngM j).map D.int)) (hj : j ≤ M.length) (hM : M.length ≤ 8) (hnd : M.Nodup) {often : Int} (ho : 0 < often) {S : Hs} {sp : Addr} {b : Int} (hS : S sp = some (.lst [.int b])) (hb : 0 ≤ b) {o2 o5 o7 : Option D} {k : DK}
    (hk : ∀ (r : List Int) (b' : Int), 0 ≤ b' → incB r = true ∧ (∀ x ∈ r, x ∈ M.take j) ∧ r.length ≤ j → k (rowT r) (hput S sp (.lst [.int b']))) :
    wpE c webE [some (.lst (row.map .int)), some (.ref sp), o2, some (.lst (M.map .int)), some (.int often), o5, some (.int jj), o7] k S := by
  unfold webE
  rw [wpE, wpEs, wpE, wpEs]
  refine w_pick hr hc hjr hj hM ho hS hb fun ns b' hb' hs => ?_
  have hsort : ∀ S : Hs, biD .sorted S [.lst (ns.map .int)] = some (.lst ((sortI ns).map .int)) := fun S => by simp [biD, vw, intsOf_map]
  have htup : ∀ S : Hs, biD .tuple S [.lst ((sortI ns).map .int)] = some (rowT (sortI ns)) := fun S => rfl
  simp only [CE.isStar, wpEs, hsort, htup]
  refine hk _ b' hb' ⟨inc_sort (hs.nodup (List.Sublist.nodup (List.take_sublist _ _) hnd)), fun x hx => hs.subset ((sortI_perm ns).mem_iff.mp hx), ?_⟩
  have h1 := (sortI_perm ns).length_eq
  have h2 := hs.length_le
  rw [List.length_take] at h2
  omega
theorem q_call2 {c : Cw} {f : Str} {i j : Nat} {x y : D} {ρ : Ev} {k : DK} {S : Hs} (h1 : ρ[i]? = some (some x)) (h2 : ρ[j]? = some (some y)) (h : c.G f [x, y] S k (c.E ρ)) : wpE c (.call f [.var i, .var j]) ρ k S := by
  simp only [wpE, wpEs, h1, h2, CE.isStar]
  exact h
theorem q_call3 {c : Cw} {f : Str} {i j l : Nat} {x y z : D} {ρ : Ev} {k : DK} {S : Hs} (h1 : ρ[i]? = some (some x)) (h2 : ρ[j]? = some (some y)) (h3 : ρ[l]? = some (some z)) (h : c.G f [x, y, z] S k (c.E ρ)) : wpE c (.call f [.var i, .var j, .var l]) ρ k S := by
  simp only [wpE, wpEs, h1, h2, h3, CE.isStar]
  exact h
theorem q_call2c {c : Cw} {f : Str} {i j : Nat} {x y z : D} {ρ : Ev} {k : DK} {S : Hs} (h1 : ρ[i]? = some (some x)) (h2 : ρ[j]? = some (some y)) (h : c.G f [x, y, z] S k (c.E ρ)) : wpE c (.call f [.var i, .var j, .con z]) ρ k S := by
  simp only [wpE, wpEs, h1, h2, CE.isStar]
  exact h
theorem q_addc {c : Cw} {a : Int} {e : CE} {ρ : Ev} {k : DK} {S : Hs} (h : ∀ k' : DK, (∀ i S1, k (.int (a + i)) S1 → k' (.int i) S1) → wpE c e ρ k' S) : wpE c (.op .Add (.con (.int a)) e) ρ k S := by
  rw [wpE, wpE]
  exact h _ fun i S1 hk => hk
theorem range8 {j m : Nat} (h : j < m) (hm : m ≤ 8) : rngOf [.int (j : Int)] = some ((rngM j).map D.int) := range0 (by omega)
theorem idx_M {M : List Int} {j : Nat} (hjM : j < M.length) (S : Hs) : idxD S (.lst (M.map .int)) (.int (j : Int)) = some (.int M[j]) := by
  show L2.atI (M.map D.int) (j : Int) = _
  rw [atI_nat (by simpa using hjM), List.getElem?_map, List.getElem?_eq_getElem hjM]
  rfl
theorem d_web {row : List Int} (hr : row ≠ []) {n : Nat} : Dr (n + 4) row "_law_web" [] (fun w => ∃ M R, w = webT R ∧ GoodW M R ∧ 1 ≤ R.length ∧ R.length ≤ 8) := by
  intro S sp a k ke hS ha hk
  refine call_in (fn := f__law_web) (by kernel_rfl) ⟨rfl, ?_⟩
  show wpSs _ [.asg (.nm 2) (.op .Add (.con (.int 1)) (.call "_law_take" [.var 0, .var 1, .con (.int 8)])),
    .asg (.nm 3) (.call "_law_shuffled" [.var 0, .var 1, .var 2]),
    .asg (.nm 4) (.op .Add (.con (.int 2)) (.call "_law_take" [.var 0, .var 1, .con (.int 3)])),
    .asg (.nm 5) (.comp true (.tup []) (.nm 6) (.rng [.var 2]) [] [("k", 6)]),
    .forr (.nm 6) (.rng [.var 2]) [.asgIx (.var 5) (.idx (.var 3) (.var 6)) webE], .ret (.bi .tuple [.var 5])] _ [some (.lst (row.map .int)), some (.ref sp), none, none, none, none, none, none] S
  refine q_cons (q_asg (q_addc fun k' hk' => q_call2c rfl rfl ?_))
  refine d_take (n := n + 1) hr (by omega) hS ha fun b w hb hw => ?_
  obtain ⟨i, rfl, hi0, hi1⟩ := hw
  refine hk' _ _ ⟨by simp, ?_⟩
  obtain ⟨m, hm⟩ : ∃ m : Nat, (m : Int) = 1 + i := ⟨(1 + i).toNat, by omega⟩
  have hm8 : m ≤ 8 := by omega
  have hm1 : 1 ≤ m := by omega
  have hrng := range0i (m := m) (by omega)
  have hsh : ∀ mi : Int, (m : Int) = mi → Dr (n + 3) row "_law_shuffled" [.int mi] (fun w => ∃ M : List Int, w = .lst (M.map .int) ∧ M.Perm (rngM m)) := fun mi h => by
    subst h
    exact @d_shuffled row hr n m hm8
  rw [hm] at hrng
  have hsh := @hsh (1 + i) hm
  generalize 1 + i = mi at *
  refine q_cons (q_asg (q_call3 rfl rfl rfl ?_))
  refine hsh hput_same hb fun b w hb hw => ?_
  obtain ⟨M, rfl, hperm⟩ := hw
  rw [hput_hput]
  refine ⟨by simp, q_cons (q_asg (q_addc fun k' hk' => q_call2c rfl rfl ?_))⟩
  refine d_take (n := n + 1) hr (by omega) hput_same hb fun b w hb hw => ?_
  obtain ⟨of, rfl, ho0, ho1⟩ := hw
  rw [hput_hput]
  refine hk' _ _ ⟨by simp, ?_⟩
  have hof : 0 < 2 + of := by omega
  generalize 2 + of = often at *
  refine q_cons (q_asg ?_)
  rw [wpE]
  refine wpI_rng1 (x := .int mi) (fun k' h => q_var rfl h) rfl hrng ?_
  intro p hp
  have hsp : sp ≠ p := fun e => by rw [← e, hput_same] at hp; cases hp
  refine cmpL_pure (fun _ => some (.tup [])) (fun _ => trivial) (fun x hx acc kk h => ?_) (by simp; exact Nat.le_trans (show m ≤ 1000 by omega) (by decide)) ?_
  · simp [wipeD, wpT, wpE, wpEs]
    exact h
  rw [List.nil_append, fm_some]
  refine ⟨_, hput_same, ?_⟩
  have hmade : ((List.range m).map fun (i : Nat) => D.int (i : Int)).map (fun _ => D.tup []) = (List.replicate m []).map rowT := by
    rw [List.map_map, List.map_replicate]
    exact List.ext_getElem (by simp) fun i h1 h2 => by simp [rowT]
  rw [hmade, if_pos rfl]
  refine ⟨by simp, q_cons (q_for1 (x := .int mi) (fun k' h => q_var rfl h) rfl hrng ?_)⟩
  have hlen := hperm.length_eq
  rw [rngM_len] at hlen
  refine forL_inv (fun t ρ S' => ∃ (R : List (List Int)) (b : Int) (o6 o7 : Option D), ρ = [some (.lst (row.map .int)), some (.ref sp), some (.int mi), some (.lst (M.map .int)), some (.int often), some (.ref p), o6, o7] ∧ S' = hput (hput S sp (.lst [.int b])) p (.lst (R.map rowT)) ∧ 0 ≤ b ∧ R.length = m ∧
      (∀ (i : Nat) (hi : i < M.length), i < t → incB (R.getD (M[i]).toNat []) = true ∧ (∀ x ∈ R.getD (M[i]).toNat [], x ∈ M.take i) ∧ (R.getD (M[i]).toNat []).length ≤ i)) (fun _ => trivial) (t := 0) ?_ ⟨List.replicate m [], b, none, none, rfl, rfl, hb, by simp, fun i _ h => by omega⟩ ?_
  · intro j d hd ρ S' kk hI hkk
    obtain ⟨hj, hx⟩ := rngi_at hd
    clear hd
    have hjM : j < M.length := by omega
    have hjr := range8 hj hm8
    have hix0 := idx_M hjM
    generalize (j : Int) = jj at hx hjr hix0
    subst hx
    obtain ⟨R, b, o6, o7, rfl, rfl, hb, hR, hgood⟩ := hI
    rw [Nat.zero_add] at hgood
    simp only [g_nm, List.length_cons, List.length_nil]
    rw [if_pos (by omega)]
    refine q_cons ?_
    rw [wpS]
    refine w_webE (n := n + 1) hr rfl hjr (by omega) (by omega) (hperm.nodup_iff.mpr rngM_nodup) hof (b := b) (by rw [hput_ne hsp, hput_same]) hb fun r b' hb' hrr => ?_
    rw [hput_mid hsp]
    have mm := rngM_mem (hperm.mem_iff.mp (List.getElem_mem hjM))
    have hixn : L2.ixN (R.map rowT).length M[j] = some (M[j]).toNat := by
      unfold L2.ixN
      rw [List.length_map, if_pos mm.1, if_pos (by omega)]
    simp only [wpE, List.set_cons_succ, List.set_cons_zero, List.getElem?_cons_succ, List.getElem?_cons_zero, hix0, hput_same, hixn, hput_hput]
    refine q_nil (hkk _ _ ⟨R.set (M[j]).toNat r, b', _, _, rfl, by rw [List.map_set], hb', by simpa using hR, ?_⟩)
    rw [Nat.zero_add]
    exact good_set (by rw [hR]; exact hperm) hjM hrr hgood
  · rintro ρ' S' ⟨R, b, o6, o7, rfl, rfl, hb, hR, hgood⟩
    have ht : biD .tuple (hput (hput S sp (.lst [.int b])) p (.lst (R.map rowT))) [.ref p] = some (webT R) := by
      simp [biD, vw, webT]
    refine q_cons (q_ret ?_)
    simp only [wpE, wpEs, List.getElem?_cons_succ, List.getElem?_cons_zero, CE.isStar, ht]
    refine ⟨hput S sp (.lst [.int b]), le_put (by rw [hput_ne (fun e => hsp e.symm)]; rw [hput_ne (fun e => hsp e.symm)] at hp; exact hp), hk b _ hb ⟨M, R, rfl, ⟨by rw [hR]; exact hperm, fun j hj => hgood j hj (by simp; omega)⟩, by omega, by omega⟩⟩
end Lw

namespace Lw
open PySem Mp
abbrev Cd := List Int × List Int
def condT (c : Cd) : D := .tup [rowT c.1, rowT c.2]
def habT (q : Cd × Cd) : D := .tup [condT q.1, condT q.2]
def habsT (H : List (Cd × Cd)) : D := .tup (H.map habT)
def CdOk (i m : Int) (c : Cd) : Prop := RowOk i m c.1 ∧ RowOk i m c.2 ∧ ∀ x ∈ c.1, x ∉ c.2
def HabsOk (H : List (Cd × Cd)) : Prop := 1 ≤ H.length ∧ H.length ≤ 8 ∧ ∀ (i : Nat) (hi : i < H.length), CdOk i H.length (H[i]).1 ∧ CdOk i H.length (H[i]).2
theorem inc_lt {r : List Int} (h : incB r = true) : ∀ (d i : Nat), i + d + 1 < r.length → r.getD i 0 < r.getD (i + d + 1) 0 := by
  have hs : ∀ i, i + 1 < r.length → r.getD i 0 < r.getD (i + 1) 0 := fun i hi => by
    have := List.all_eq_true.mp h i (List.mem_range.mpr (by omega))
    simpa only [decide_eq_true_eq] using this
  intro d
  induction d with
  | zero => intro i hi; exact hs i hi
  | succ d ih =>
    intro i hi
    have h1 := ih i (by omega)
    have h2 := hs (i + d + 1) (by omega)
    rw [show i + (d + 1) + 1 = i + d + 1 + 1 by omega]
    omega
theorem inc_pair {r : List Int} (h : incB r = true) : r.Pairwise (· < ·) := List.pairwise_iff_getElem.mpr fun i j hi hj hij => by
  have := inc_lt h (j - i - 1) i (by omega)
  rw [show i + (j - i - 1) + 1 = j by omega, List.getD_eq_getElem?_getD, List.getD_eq_getElem?_getD, List.getElem?_eq_getElem hi, List.getElem?_eq_getElem hj] at this
  exact this
theorem pair_inc {r : List Int} (h : r.Pairwise (· < ·)) : incB r = true := by
  unfold incB
  rw [List.all_eq_true]
  intro i hi
  have hi := List.mem_range.mp hi
  have := List.pairwise_iff_getElem.mp h i (i + 1) (by omega) (by omega) (by omega)
  rw [decide_eq_true_eq, List.getD_eq_getElem?_getD, List.getD_eq_getElem?_getD, List.getElem?_eq_getElem (by omega), List.getElem?_eq_getElem (by omega)]
  exact this
theorem inc_nodup {r : List Int} (h : incB r = true) : r.Nodup := (inc_pair h).imp fun h e => by omega
theorem nodup_len {r : List Int} {m : Nat} (h : r.Nodup) (hr : ∀ x ∈ r, 0 ≤ x ∧ x < (m : Int)) : r.length ≤ m := by
  have := len_le h fun x hx => mem_rngM (m := m) (by have := hr x hx; omega)
  rwa [rngM_len] at this
theorem row_len {i : Int} {m : Nat} {r : List Int} (h : RowOk i m r) : r.length ≤ m := nodup_len (inc_nodup h.2.1) h.1
theorem row_nil {i m : Int} : RowOk i m [] := ⟨fun _ h => (by cases h), rfl, fun h => (by cases h)⟩
theorem cond_ok {i m : Int} {c : Cd} (h : CdOk i m c) : condD (condT c) i m = true := by
  obtain ⟨h1, h2, h3⟩ := h
  have hr : rowsI [rowT c.1, rowT c.2] = some [c.1, c.2] := rows_rowT [c.1, c.2]
  have h4 : (c.1.any fun i => decide (i ∈ c.2)) = false := by
    rw [List.any_eq_false]
    intro x hx
    simpa using h3 x hx
  simp [condD, condT, rowD, seqD, oth_ok h1, oth_ok h2, hr]
  exact h3
theorem getD_habT {H : List (Cd × Cd)} {i : Nat} (hi : i < H.length) : (H.map habT).getD i .non = habT H[i] := by
  rw [List.getD_eq_getElem?_getD, List.getElem?_map, List.getElem?_eq_getElem hi]
  rfl
theorem hab_ok {H : List (Cd × Cd)} (h : HabsOk H) : habD (habsT H) = true := by
  obtain ⟨h1, h8, h2⟩ := h
  have hrow : rowD (habsT H) 1 8 = true := by
    simp only [rowD, habsT, seqD, List.length_map, Bool.and_eq_true, decide_eq_true_eq]
    omega
  unfold habD
  rw [hrow, Bool.true_and]
  simp only [habsT, seqD, List.length_map]
  rw [enum_rangeQ, List.length_map]
  refine List.all_eq_true.mpr fun i hi => ?_
  have hi := List.mem_range.mp hi
  rw [getD_habT hi, Nat.zero_add]
  obtain ⟨q1, q2⟩ := h2 i hi
  simp [habQ, habT, rowD, seqD, cond_ok q1, cond_ok q2]
theorem ti_cond {i : Int} {m : Nat} {c : Cd} (h : CdOk i m c) (hm : m ≤ 8) : ti (condT c) = true := by
  have h1 := row_len h.1
  have h2 := row_len h.2.1
  simp [condT, ti, tis, ti_row (show c.1.length ≤ 8 by omega), ti_row (show c.2.length ≤ 8 by omega)]
theorem ti_habs {H : List (Cd × Cd)} (h : HabsOk H) : ti (habsT H) = true := by
  obtain ⟨h1, h8, h2⟩ := h
  simp only [habsT, ti, Bool.and_eq_true, decide_eq_true_eq, List.length_map]
  refine ⟨h8, tis_of fun d hd => ?_⟩
  obtain ⟨q, hq, rfl⟩ := List.mem_map.mp hd
  obtain ⟨i, hi, e⟩ := List.getElem_of_mem hq
  obtain ⟨q1, q2⟩ := h2 i hi
  rw [e] at q1 q2
  simp [habT, ti, tis, ti_cond q1 h8, ti_cond q2 h8]
theorem dep_cond {c : Cd} : D.dep (condT c) ≤ 2 := by
  simp only [condT, D.dep]
  have := deps_le (ds := [rowT c.1, rowT c.2]) (n := 1) fun d hd => by
    simp only [List.mem_cons, List.not_mem_nil, or_false] at hd
    rcases hd with rfl | rfl <;> exact dep_row
  omega
theorem dep_habs {H : List (Cd × Cd)} : D.dep (habsT H) ≤ 4 := by
  simp only [habsT, D.dep]
  have := deps_le (ds := H.map habT) (n := 3) fun d hd => by
    obtain ⟨q, _, rfl⟩ := List.mem_map.mp hd
    simp only [habT, D.dep]
    have := deps_le (ds := [condT q.1, condT q.2]) (n := 2) fun d hd => by
      simp only [List.mem_cons, List.not_mem_nil, or_false] at hd
      rcases hd with rfl | rfl <;> exact dep_cond
    omega
  omega
/-! the habits of a web -/
def behind (R : List (List Int)) (i : Int) : List Int := (rngM R.length).filter fun k => decide (i ∈ R.getD k.toNat [])
def ownH (R : List (List Int)) : List (Cd × Cd) := (List.range R.length).map fun i => ((R.getD i [], []), ([], behind R i))
theorem own_ok {M : List Int} {R : List (List Int)} (h : GoodW M R) (h1 : 1 ≤ R.length) (h8 : R.length ≤ 8) : HabsOk (ownH R) := by
  refine ⟨by simpa [ownH] using h1, by simpa [ownH] using h8, fun i hi => ?_⟩
  have hl : (ownH R).length = R.length := by simp [ownH]
  rw [hl] at hi ⊢
  have e : (ownH R)[i]'(by rw [hl]; exact hi) = ((R.getD i [], []), ([], behind R i)) := by simp [ownH]
  rw [e]
  have hrow := (row_good h hi).1
  refine ⟨⟨hrow, row_nil, fun _ _ h => (by cases h)⟩, row_nil, ⟨fun x hx => rngM_mem (List.mem_filter.mp hx).1, pair_inc ?_, fun hx => ?_⟩, fun _ h => (by cases h)⟩
  · refine List.Pairwise.filter _ ?_
    unfold rngM
    refine List.Pairwise.map _ (fun a b h => ?_) List.pairwise_lt_range
    omega
  · have := (List.mem_filter.mp hx).2
    rw [decide_eq_true_eq] at this
    have ei : ((i : Int)).toNat = i := by omega
    rw [ei] at this
    exact hrow.2.2 this
theorem v_habits_of {n : Nat} {R : List (List Int)} (h1 : R.length ≤ 8) : E (n + 1) "_law_habits_of" [webT R] = some (habsT (ownH R)) := by
  rw [ev_in (fn := f__law_habits_of) (by kernel_rfl) (by decide +kernel)]
  refine evB_of rfl ?_
  show evSs (E n) [.asg (.nm 1) (.bi .len [.var 0]), .ret (.bi .tuple [.comp false (.tup [.tup [.idx (.var 0) (.var 2), .tup []], .tup [.tup [], .bi .tuple [.comp false (.var 3) (.nm 3) (.rng [.var 1]) [.cmp .In (.var 2) (.idx (.var 0) (.var 3))] [("k", 3)]]]]) (.nm 2) (.rng [.var 1]) [] [("n", 2)]])] [some (webT R), none, none, none] = _
  have hlen : biD .len Mp.S0 [webT R] = some (.int (R.length : Int)) := by simp [biD, vw, webT]
  have st1 : evS (E n) (.asg (.nm 1) (.bi .len [.var 0])) [some (webT R), none, none, none] = some (.nx [some (webT R), some (.int (R.length : Int)), none, none]) := by simp [CE.isStar, hlen]
  rw [s_seq_nx st1]
  refine s_seq_rt ?_
  have hix : ∀ k : Nat, k < R.length → idxD Mp.S0 (webT R) (.int (k : Int)) = some (rowT (R.getD k [])) := fun k hk => by
    show L2.atI (R.map rowT) (k : Int) = _
    rw [atI_nat (by simpa using hk), List.getElem?_map, List.getElem?_eq_getElem hk, List.getD_eq_getElem?_getD, List.getElem?_eq_getElem hk]
    rfl
  have c1 : ∀ (i : Nat), evE (E n) (.comp false (.var 3) (.nm 3) (.rng [.var 1]) [.cmp .In (.var 2) (.idx (.var 0) (.var 3))] [("k", 3)]) [some (webT R), some (.int (R.length : Int)), some (.int (i : Int)), none] = some (.lst ((behind R i).map .int)) := fun i => by
    have hI : evI (E n) (.rng [.var 1]) [some (webT R), some (.int (R.length : Int)), some (.int (i : Int)), none] = some ((rngM R.length).map D.int) := by
      rw [ev_rng1 (show _ = some (.int (R.length : Int)) by simp) rfl]
      exact range0 (by omega)
    have := ev_filter (fe := E n) (elt := .var 3) (t := .cmp .In (.var 2) (.idx (.var 0) (.var 3))) (cg := .nm 3) (own := [("k", 3)]) (fun d => match d with
      | .int k => decide ((i : Int) ∈ R.getD k.toNat [])
      | _ => false) id hI (by simp [rngM]; omega) fun x hx => ?_
    · rw [this, filt_ints]
      rfl
    · obtain ⟨k, hk, rfl⟩ := List.mem_map.mp hx
      have hk := rngM_mem hk
      obtain ⟨kk, rfl⟩ := Int.eq_ofNat_of_zero_le hk.1
      refine ⟨[some (webT R), some (.int (R.length : Int)), some (.int (i : Int)), some (.int (kk : Int))], by simp [wipeD], ?_, fun _ => by simp⟩
      have hin : cmpD .In Mp.S0 (.int (i : Int)) (rowT (R.getD kk [])) = some (decide ((i : Int) ∈ R.getD kk [])) := in_ints
      have ek : ((kk : Int)).toNat = kk := by omega
      simp only [ek]
      simp only [x_cmp, x_var, x_idx, List.getElem?_cons_succ, List.getElem?_cons_zero, joinO_some, Option.bind_some]
      rw [hix kk (by omega), Option.bind_some, hin]
      rfl
  have hI2 : evI (E n) (.rng [.var 1]) [some (webT R), some (.int (R.length : Int)), none, none] = some ((List.range R.length).map fun (i : Nat) => D.int (i : Int)) := by
    rw [ev_rng1 (show _ = some (.int (R.length : Int)) by simp) rfl]
    exact range0i (by omega)
  have c2 := ev_map (fe := E n) (elt := .tup [.tup [.idx (.var 0) (.var 2), .tup []], .tup [.tup [], .bi .tuple [.comp false (.var 3) (.nm 3) (.rng [.var 1]) [.cmp .In (.var 2) (.idx (.var 0) (.var 3))] [("k", 3)]]]]) (cg := .nm 2) (own := [("n", 2)]) (fun d => match d with
      | .int i => habT ((R.getD i.toNat [], []), ([], behind R i))
      | _ => .non) hI2 (by simp; omega) fun x hx => ?_
  · rw [s_ret, x_bi, x_cons, x_nil, c2]
    have hl : ((List.range R.length).map fun (i : Nat) => D.int (i : Int)).map (fun d => match d with
      | .int i => habT ((R.getD i.toNat [], []), ([], behind R i))
      | _ => .non) = (ownH R).map habT := by
      rw [List.map_map]
      unfold ownH
      rw [List.map_map]
      rfl
    rw [hl]
    rfl
  · obtain ⟨i, hi, rfl⟩ := List.mem_map.mp hx
    have hi := List.mem_range.mp hi
    refine ⟨[some (webT R), some (.int (R.length : Int)), some (.int (i : Int)), none], by simp [wipeD], ?_⟩
    have ei : ((i : Int)).toNat = i := by omega
    simp only [ei]
    have c3 := c1 i
    have h3 : biD .tuple Mp.S0 [.lst ((behind R i).map .int)] = some (rowT (behind R i)) := rfl
    have h4 := hix i hi
    generalize hz : CE.comp false (.var 3) (.nm 3) (.rng [.var 1]) [.cmp .In (.var 2) (.idx (.var 0) (.var 3))] [("k", 3)] = z at *
    have zs : z.isStar = false := by rw [← hz]; rfl
    generalize behind R i = B at *
    have t1 : ∀ es, (CE.tup es).isStar = false := fun _ => rfl
    have t2 : ∀ b es, (CE.bi b es).isStar = false := fun _ _ => rfl
    have t3 : ∀ a b, (CE.idx a b).isStar = false := fun _ _ => rfl
    have s2 : (2 : Nat) ≤ sizeLine := by decide
    simp [t1, t2, t3, zs, h4, c3, h3, s2]
    rfl
end Lw

namespace Lw
open PySem Mp
theorem szlt (n : Nat) (h : n ≤ 1000) : n < sizeLine := Nat.lt_of_le_of_lt h (by decide)
theorem szle (n : Nat) (h : n ≤ 1000) : n ≤ sizeLine := Nat.le_trans h (by decide)
theorem w_two {c : Cw} {H : List (Cd × Cd)} {i wh : Int} {q : Cd × Cd} {cd : Cd} {o0 o1 o3 o5 o6 o7 o8 o10 o11 : Option D} {S0 : Hs} {k : DK}
    (h1 : ∀ S, idxD S (habsT H) (.int i) = some (habT q)) (h2 : ∀ S, idxD S (habT q) (.int wh) = some (condT cd))
    (hk : ∀ (p1 p2 : Addr) (S' : Hs), p1 ≠ p2 → S0 p1 = none → S0 p2 = none → S' p1 = some (.lst (cd.1.map .int)) → S' p2 = some (.lst (cd.2.map .int)) → S0.le S' → k (.lst [.ref p1, .ref p2]) S') :
    wpE c (.comp false (.bin [.var 11]) (.nm 11) (.seq (.idx (.idx (.var 2) (.var 4)) (.var 9))) [] [("two", 11)]) [o0, o1, some (habsT H), o3, some (.int i), o5, o6, o7, o8, some (.int wh), o10, o11] k S0 := by
  have hit : itemsOf S0 (condT cd) = some ([rowT cd.1, rowT cd.2], fun _ => True) := rfl
  have hbl : ∀ (S : Hs) (r : List Int), biD .list S [rowT r] = some (.lst (r.map .int)) := fun _ _ => rfl
  simp only [wpE, wpI, List.getElem?_cons_succ, List.getElem?_cons_zero, h1, h2, hit]
  intro p hp
  simp only [cmpL]
  refine ⟨trivial, ?_⟩
  simp [wipeD, wpT, wpE, wpEs, CE.isStar, hbl]
  intro p1 hp1
  have n1 : p1 ≠ p := fun e => by rw [e, hput_same] at hp1; cases hp1
  have s1 : S0 p1 = none := by rw [hput_ne n1] at hp1; exact hp1
  refine ⟨[], by rw [hput_ne (fun e => n1 e.symm), hput_same], szlt 0 (by omega), ?_⟩
  intro p2 hp2
  have n2 : p2 ≠ p := fun e => by rw [e, hput_same] at hp2; cases hp2
  rw [hput_ne n2] at hp2
  have n12 : p2 ≠ p1 := fun e => by rw [e, hput_same] at hp2; cases hp2
  rw [hput_ne n12, hput_ne n2] at hp2
  refine ⟨[.ref p1], by rw [hput_ne (fun e => n2 e.symm), hput_same]; rfl, szlt 1 (by omega), ?_⟩
  refine hk p1 p2 _ (fun e => n12 e.symm) s1 hp2 ?_ ?_ fun a o ho => ?_
  · rw [hdel_ne n1, hput_ne n1, hput_ne (fun e => n12 e.symm), hput_ne n1, hput_same]
  · rw [hdel_ne n2, hput_ne n2, hput_same]
  · have a0 : a ≠ p := fun e => by rw [e, hp] at ho; cases ho
    have a1 : a ≠ p1 := fun e => by rw [e, s1] at ho; cases ho
    have a2 : a ≠ p2 := fun e => by rw [e, hp2] at ho; cases ho
    rw [hdel_ne a0, hput_ne a0, hput_ne a2, hput_ne a0, hput_ne a1, hput_ne a0]
    exact ho
def newIn (n other : Int) (X Y : List Int) : List Int := if other ∈ X then X.erase other else if other ≠ n ∧ other ∉ Y then X ++ [other] else X
def Pre (i m : Int) (X : List Int) : Prop := (∀ x ∈ X, 0 ≤ x ∧ x < m) ∧ X.Nodup ∧ i ∉ X
theorem pre_of {i m : Int} {r : List Int} (h : RowOk i m r) : Pre i m r := ⟨h.1, inc_nodup h.2.1, h.2.2⟩
theorem row_of {i m : Int} {X : List Int} (h : Pre i m X) : RowOk i m (sortI X) := by
  have hm := fun x => (sortI_perm X).mem_iff (a := x)
  exact ⟨fun x hx => h.1 x ((hm x).mp hx), inc_sort h.2.1, fun hx => h.2.2 ((hm i).mp hx)⟩
theorem pre_new {i m other : Int} {X Y : List Int} (h : Pre i m X) (ho : 0 ≤ other ∧ other < m) (hd : ∀ x ∈ X, x ∉ Y) : Pre i m (newIn i other X Y) ∧ ∀ x ∈ newIn i other X Y, x ∉ Y := by
  obtain ⟨h1, h2, h3⟩ := h
  unfold newIn
  split
  · have hs := List.erase_subset (a := other) (l := X)
    exact ⟨⟨fun x hx => h1 x (hs hx), h2.erase _, fun hx => h3 (hs hx)⟩, fun x hx => hd x (hs hx)⟩
  · rename_i hn
    split
    · rename_i hc
      refine ⟨⟨fun x hx => ?_, ?_, fun hx => ?_⟩, fun x hx => ?_⟩
      · rcases List.mem_append.mp hx with hx | hx
        · exact h1 x hx
        · rw [List.mem_singleton.mp hx]; exact ho
      · rw [List.nodup_append]
        refine ⟨h2, by simp, fun a ha b hb e => ?_⟩
        rw [List.mem_singleton.mp hb] at e
        exact hn (by rw [← e]; exact ha)
      · rcases List.mem_append.mp hx with hx | hx
        · exact h3 hx
        · exact hc.1 (List.mem_singleton.mp hx).symm
      · rcases List.mem_append.mp hx with hx | hx
        · exact hd x hx
        · rw [List.mem_singleton.mp hx]; exact hc.2
    · exact ⟨⟨h1, h2, h3⟩, hd⟩
def chgS : CS := .ifs (.cmp .In (.var 5) (.idx (.var 6) (.var 10))) [
    .expr (.meth .remove (.idx (.var 6) (.var 10)) [.var 5])] [
    .ifs (.and (.cmp .NotEq (.var 5) (.var 4)) (.cmp .NotIn (.var 5) (.idx (.var 6) (.op .Sub (.con (.int 1)) (.var 10))))) [
      .expr (.meth .append (.idx (.var 6) (.var 10)) [.var 5])] []]
theorem w_change {c : Cw} {F : Mp.Fin} {i other part : Int} {one : D} {pp qq : Addr} {X Y : List Int} {o0 o1 o2 o3 o7 o8 o9 o11 : Option D} {S : Hs}
    (h1 : ∀ S, idxD S one (.int part) = some (.ref pp)) (h2 : ∀ S, idxD S one (.int (1 - part)) = some (.ref qq)) (hX : S pp = some (.lst (X.map .int))) (hY : S qq = some (.lst (Y.map .int))) (hl : X.length ≤ 8)
    (hk : F.nx [o0, o1, o2, o3, some (.int i), some (.int other), some one, o7, o8, o9, some (.int part), o11] (hput S pp (.lst ((newIn i other X Y).map .int)))) :
    wpS c chgS F [o0, o1, o2, o3, some (.int i), some (.int other), some one, o7, o8, o9, some (.int part), o11] S := by
  have hin : cmpD .In S (.int other) (.ref pp) = some (decide (other ∈ X)) := by simp [cmpD, inAny, hX, in_ints]
  have hni : cmpD .NotIn S (.int other) (.ref qq) = some (!decide (other ∈ Y)) := by simp [cmpD, inAny, hY, in_ints]
  unfold chgS
  simp only [wpS, wpE, wpEs, wpSs, List.getElem?_cons_succ, List.getElem?_cons_zero, h1, hin, truth_bl]
  unfold newIn at hk
  by_cases hm : other ∈ X
  · rw [if_pos hm] at hk
    have hr : recvOk .remove S (.ref pp) = true := by simp only [recvOk, hX]
    have hmt : mthD .remove S (.ref pp) [.int other] = some (.non, hput S pp (.lst ((X.erase other).map .int))) := by
      simp only [mthD, hX, intsOf_map, Option.bind_some]
      rw [if_pos hm]
    simp [hm, hr, hmt, CE.isStar]
    exact hk
  · rw [if_neg hm] at hk
    simp [hm, cmp_ne]
    by_cases he : other = i
    · rw [if_neg (fun z => z.1 he), hput_self hX] at hk
      simp [he]
      subst he
      exact hk
    · simp [he, vw, op_sub, h2, hni]
      by_cases hy : other ∈ Y
      · rw [if_neg (fun z => z.2 hy), hput_self hX] at hk
        simp [hy]
        exact hk
      · rw [if_pos ⟨he, hy⟩] at hk
        have hr := recv_app hX
        have ha := mth_app (y := .int other) hX (by simp; exact Nat.lt_of_lt_of_le (show X.length < 5000 by omega) (by decide))
        simp [hy, hr, ha, CE.isStar, h1]
        simpa using hk
theorem cut_lo {ds : List D} {i : Nat} (h : i ≤ ds.length) : cutD ds none (some (i : Int)) = ds.take i := by
  unfold cutD
  rw [HT.sIx_none, HT.sIx_nat, List.drop_zero, Nat.min_eq_left h, Nat.sub_zero]
theorem cut_hi {ds : List D} {i : Nat} (h : i ≤ ds.length) : cutD ds (some (i : Int)) none = ds.drop i := by
  unfold cutD
  rw [HT.sIx_none, HT.sIx_nat, Nat.min_eq_left h]
  exact List.take_of_length_le (by rw [List.length_drop]; omega)
theorem op_addT {a b : List D} (h : a.length + b.length ≤ 1000) : opD .Add (.tup a) (.tup b) = some (.tup (a ++ b)) := by
  show (if a.length + b.length ≤ sizeLine then some (D.tup (a ++ b)) else none) = _
  rw [if_pos (Nat.le_trans h (by decide))]
def withC (q : Cd × Cd) (wh : Int) (cd : Cd) : Cd × Cd := if wh = 0 then (cd, q.2) else (q.1, cd)
def chgT : List CS := [.asg (.nm 7) (.tup [.bi .tuple [.bi .sorted [.idx (.var 6) (.con (.int 0))]], .bi .tuple [.bi .sorted [.idx (.var 6) (.con (.int 1))]]]),
  .asg (.nm 8) (.ite (.cmp .Eq (.var 9) (.con (.int 0))) (.tup [.var 7, .idx (.idx (.var 2) (.var 4)) (.con (.int 1))]) (.tup [.idx (.idx (.var 2) (.var 4)) (.con (.int 0)), .var 7])),
  .ret (.op .Add (.op .Add (.sl (.var 2) none (some (.var 4))) (.tup [.var 8])) (.sl (.var 2) (some (.op .Add (.var 4) (.con (.int 1)))) none))]
theorem w_chgT {c : Cw} {F : Mp.Fin} {H : List (Cd × Cd)} {i : Nat} (hi : i < H.length) (h8 : H.length ≤ 8) {wh : Int} {p1 p2 : Addr} {A B : List Int} {o0 o1 o3 o5 o7 o8 o10 o11 : Option D} {S : Hs}
    (hA : S p1 = some (.lst (A.map .int))) (hB : S p2 = some (.lst (B.map .int))) (hk : F.rt (habsT (H.set i (withC H[i] wh (sortI A, sortI B)))) S) :
    wpSs c chgT F [o0, o1, some (habsT H), o3, some (.int (i : Int)), o5, some (.lst [.ref p1, .ref p2]), o7, o8, some (.int wh), o10, o11] S := by
  have i0 : idxD S (.lst [.ref p1, .ref p2]) (.int 0) = some (.ref p1) := rfl
  have i1 : idxD S (.lst [.ref p1, .ref p2]) (.int 1) = some (.ref p2) := rfl
  have s0 : biD .sorted S [.ref p1] = some (.lst ((sortI A).map .int)) := by simp [biD, vw, hA, intsOf_map]
  have s1 : biD .sorted S [.ref p2] = some (.lst ((sortI B).map .int)) := by simp [biD, vw, hB, intsOf_map]
  have t0 : ∀ r : List Int, biD .tuple S [.lst (r.map .int)] = some (rowT r) := fun _ => rfl
  have hix : idxD S (habsT H) (.int (i : Int)) = some (habT H[i]) := by
    show L2.atI (H.map habT) (i : Int) = _
    rw [atI_nat (by simpa using hi), List.getElem?_map, List.getElem?_eq_getElem hi]
    rfl
  have j0 : idxD S (habT H[i]) (.int 0) = some (condT (H[i]).1) := rfl
  have j1 : idxD S (habT H[i]) (.int 1) = some (condT (H[i]).2) := rfl
  have sl0 : slD S (habsT H) none (some (i : Int)) = some (.tup ((H.map habT).take i)) := by
    show some (D.tup (cutD (H.map habT) none (some (i : Int)))) = _
    rw [cut_lo (by rw [List.length_map]; omega)]
  have sl1 : slD S (habsT H) (some ((i : Int) + 1)) none = some (.tup ((H.map habT).drop (i + 1))) := by
    have : ((i : Int) + 1) = ((i + 1 : Nat) : Int) := by omega
    rw [this]
    show some (D.tup (cutD (H.map habT) (some ((i + 1 : Nat) : Int)) none)) = _
    rw [cut_hi (by rw [List.length_map]; omega)]
  have hset : ∀ q : Cd × Cd, (H.map habT).take i ++ [habT q] ++ (H.map habT).drop (i + 1) = (H.set i q).map habT := fun q => by
    rw [List.set_eq_take_append_cons_drop, if_pos hi]
    simp
  have hl1 : ((H.map habT).take i).length ≤ 8 := by rw [List.length_take, List.length_map]; omega
  have hl2 : ((H.map habT).drop (i + 1)).length ≤ 8 := by rw [List.length_drop, List.length_map]; omega
  have two : ∀ a b : D, (2 : Nat) ≤ sizeLine := fun _ _ => by decide
  unfold chgT
  simp only [wpSs, wpS, wpE, wpEs, wpO, CE.isStar, List.getElem?_cons_succ, List.getElem?_cons_zero, i0, i1, s0, s1, t0]
  refine ⟨szle 2 (by omega), ?_⟩
  simp [hix, j0, j1, cmp_eq]
  by_cases hw : wh = 0
  · have hq : habT (withC H[i] wh (sortI A, sortI B)) = .tup [.tup [rowT (sortI A), rowT (sortI B)], condT (H[i]).2] := by
      unfold withC
      rw [if_pos hw]
      rfl
    have hs := hset (withC H[i] wh (sortI A, sortI B))
    rw [hq] at hs
    simp [hw]
    refine ⟨szle 2 (by omega), ?_⟩
    rw [sl0]
    refine ⟨szle 1 (by omega), ?_⟩
    simp only [vw]
    rw [op_addT (by simp; omega)]
    simp only [op_add, sl1]
    rw [op_addT (by rw [List.length_append]; simp; omega), hs]
    exact hk
  · have hq : habT (withC H[i] wh (sortI A, sortI B)) = .tup [condT (H[i]).1, .tup [rowT (sortI A), rowT (sortI B)]] := by
      unfold withC
      rw [if_neg hw]
      rfl
    have hs := hset (withC H[i] wh (sortI A, sortI B))
    rw [hq] at hs
    simp [hw]
    refine ⟨szle 2 (by omega), ?_⟩
    rw [sl0]
    refine ⟨szle 1 (by omega), ?_⟩
    simp only [vw]
    rw [op_addT (by simp; omega)]
    simp only [op_add, sl1]
    rw [op_addT (by rw [List.length_append]; simp; omega), hs]
    exact hk
theorem habs_set {H : List (Cd × Cd)} (h : HabsOk H) {i : Nat} (hi : i < H.length) {wh : Int} {cd : Cd} (hc : CdOk i H.length cd) : HabsOk (H.set i (withC H[i] wh cd)) := by
  obtain ⟨h1, h8, h2⟩ := h
  refine ⟨by simpa using h1, by simpa using h8, fun j hj => ?_⟩
  rw [List.length_set] at hj
  rw [List.length_set, List.getElem_set]
  split
  · rename_i e
    subst e
    obtain ⟨q1, q2⟩ := h2 i hi
    unfold withC
    split
    · exact ⟨hc, q2⟩
    · exact ⟨q1, hc⟩
  · exact h2 j hj
theorem d_changed {row : List Int} (hr : row ≠ []) {n : Nat} {H : List (Cd × Cd)} (hH : HabsOk H) : Dr (n + 3) row "_law_changed_habits" [habsT H] (fun w => ∃ H', w = habsT H' ∧ HabsOk H') := by
  intro S sp a k ke hS ha hk
  refine call_in (fn := f__law_changed_habits) (by kernel_rfl) ⟨rfl, ?_⟩
  show wpSs _ ([.asg (.nm 3) (.bi .len [.var 2]), .asg (.nm 4) (.call "_law_take" [.var 0, .var 1, .var 3]),
    .asg (.tg [.nm 9, .nm 10]) (.tup [.call "_law_take" [.var 0, .var 1, .con (.int 2)], .call "_law_take" [.var 0, .var 1, .con (.int 2)]]),
    .asg (.nm 5) (.call "_law_take" [.var 0, .var 1, .var 3]),
    .asg (.nm 6) (.comp false (.bin [.var 11]) (.nm 11) (.seq (.idx (.idx (.var 2) (.var 4)) (.var 9))) [] [("two", 11)]), chgS] ++ chgT) _ [some (.lst (row.map .int)), some (.ref sp), some (habsT H), none, none, none, none, none, none, none, none, none] S
  generalize hc1 : chgS = cs
  generalize hc2 : chgT = ct
  generalize hc3 : CE.comp false (.bin [.var 11]) (.nm 11) (.seq (.idx (.idx (.var 2) (.var 4)) (.var 9))) [] [("two", 11)] = cc
  obtain ⟨h1, h8, h2⟩ := hH
  have hlen : ∀ S : Hs, biD .len S [habsT H] = some (.int (H.length : Int)) := fun S => by simp [biD, vw, habsT]
  simp only [wpSs, wpS, wpE, wpEs, List.cons_append, List.nil_append]
  simp only [List.getElem?_cons_succ, List.getElem?_cons_zero, CE.isStar, hlen]
  simp
  refine d_take hr (by omega) hS ha fun b w hb hw => ?_
  obtain ⟨i, rfl, hi0, hi1⟩ := hw
  obtain ⟨ii, rfl⟩ := Int.eq_ofNat_of_zero_le hi0
  have hii : ii < H.length := by omega
  refine d_take hr (by omega) hput_same hb fun b w hb hw => ?_
  obtain ⟨wh, rfl, hw0, hw1⟩ := hw
  rw [hput_hput]
  refine d_take hr (by omega) hput_same hb fun b w hb hw => ?_
  obtain ⟨part, rfl, hp0, hp1⟩ := hw
  rw [hput_hput]
  refine ⟨szle 2 (by omega), ?_⟩
  simp [asgG, asgGs, seqOf]
  refine d_take hr (by omega) hput_same hb fun b w hb hw => ?_
  obtain ⟨other, rfl, ho0, ho1⟩ := hw
  rw [hput_hput]
  obtain ⟨cd, hcd, hcok⟩ : ∃ cd : Cd, (∀ S, idxD S (habT H[ii]) (.int wh) = some (condT cd)) ∧ CdOk ii H.length cd := by
    obtain ⟨q1, q2⟩ := h2 ii hii
    rcases (show wh = 0 ∨ wh = 1 by omega) with rfl | rfl
    · exact ⟨_, fun _ => rfl, q1⟩
    · exact ⟨_, fun _ => rfl, q2⟩
  have hix : ∀ S, idxD S (habsT H) (.int (ii : Int)) = some (habT H[ii]) := fun S => by
    show L2.atI (H.map habT) (ii : Int) = _
    rw [atI_nat (by simpa using hii), List.getElem?_map, List.getElem?_eq_getElem hii]
    rfl
  subst hc3
  refine w_two hix hcd fun p1 p2 S' n12 s1 s2 e1 e2 hle => ?_
  obtain ⟨c1, c2, c3⟩ := hcok
  have l1 := row_len c1
  have l2 := row_len c2
  subst hc1 hc2
  rcases (show part = 0 ∨ part = 1 by omega) with rfl | rfl
  · refine w_change (pp := p1) (qq := p2) (fun _ => rfl) (fun _ => rfl) e1 e2 (by omega) ?_
    obtain ⟨q1, q2⟩ := pre_new (pre_of c1) ⟨ho0, ho1⟩ c3
    refine w_chgT hii h8 hput_same (by rw [hput_ne (fun e => n12 e.symm)]; exact e2) ⟨hput S sp (.lst [.int b]), fun a o ho => ?_, hk b _ hb ⟨_, rfl, habs_set ⟨h1, h8, h2⟩ hii ⟨row_of q1, row_of (pre_of c2), fun x hx hy => q2 x ((sortI_perm _).mem_iff.mp hx) ((sortI_perm _).mem_iff.mp hy)⟩⟩⟩
    rw [hput_ne (fun e => by rw [e, s1] at ho; cases ho)]
    exact hle a o ho
  · refine w_change (pp := p2) (qq := p1) (fun _ => rfl) (fun _ => rfl) e2 e1 (by omega) ?_
    obtain ⟨q1, q2⟩ := pre_new (pre_of c2) ⟨ho0, ho1⟩ (fun x hx hy => c3 x hy hx)
    refine w_chgT hii h8 (by rw [hput_ne n12]; exact e1) hput_same ⟨hput S sp (.lst [.int b]), fun a o ho => ?_, hk b _ hb ⟨_, rfl, habs_set ⟨h1, h8, h2⟩ hii ⟨row_of (pre_of c1), row_of q1, fun x hx hy => q2 x ((sortI_perm _).mem_iff.mp hy) ((sortI_perm _).mem_iff.mp hx)⟩⟩⟩
    rw [hput_ne (fun e => by rw [e, s2] at ho; cases ho)]
    exact hle a o ho
end Lw

namespace Lw
open PySem Mp
/-- fit to be handed in -/
def Fit (n : Nat) (w : D) : Prop := sm w = true ∧ td w = true ∧ D.dep w ≤ n
theorem fit_tup {ds : List D} {n : Nat} (hl : ds.length ≤ 9) (h : ∀ d ∈ ds, Fit n d) : Fit (n + 1) (.tup ds) := by
  have hs : ∀ {ds : List D}, (∀ d ∈ ds, Fit n d) → sms ds = true ∧ tds ds = true := by
    intro ds
    induction ds with
    | nil => intro _; exact ⟨by simp only [sms], by simp only [tds]⟩
    | cons a l ih =>
      intro h
      obtain ⟨q1, q2⟩ := ih fun x hx => h x (List.mem_cons_of_mem _ hx)
      obtain ⟨r1, r2, _⟩ := h a List.mem_cons_self
      simp only [sms, tds, Bool.and_eq_true]
      exact ⟨⟨r1, q1⟩, r2, q2⟩
  obtain ⟨q1, q2⟩ := hs h
  refine ⟨?_, by simp only [td]; exact q2, ?_⟩
  · simp only [sm, Bool.and_eq_true, decide_eq_true_eq]; exact ⟨hl, q1⟩
  · simp only [D.dep]
    have := deps_le fun d hd => (h d hd).2.2
    omega
theorem fit_up {n m : Nat} {w : D} (h : Fit n w) (hnm : n ≤ m) : Fit m w := ⟨h.1, h.2.1, Nat.le_trans h.2.2 hnm⟩
theorem fit_mem {ds : List D} (h : tis ds = true) {d : D} (hd : d ∈ ds) : Fit (D.deps ds) d := by
  obtain ⟨q1, q2⟩ := ti_sm (tis_mem h hd)
  exact ⟨q1, q2, dep_mem hd⟩
theorem idx_mem {S : Hs} {xs : List D} {i : Int} (h0 : 0 ≤ i) (h1 : i < xs.length) : ∃ d, idxD S (.lst xs) (.int i) = some d ∧ d ∈ xs := by
  obtain ⟨k, rfl⟩ := Int.eq_ofNat_of_zero_le h0
  have hk : k < xs.length := by omega
  refine ⟨xs[k], ?_, List.getElem_mem hk⟩
  show L2.atI xs (k : Int) = _
  rw [atI_nat hk, List.getElem?_eq_getElem hk]
def lastC : List D := [.non, .int 7, .bl true, .str "", .tup [], .tup [.int 0], .tup [.int 1], .tup [.tup [], .tup []], .tup [.tup [.tup [], .tup []], .tup [.tup [], .tup []]], .tup [.int 2, .int 1]]
theorem fit_last : ∀ d ∈ lastC, Fit 3 d := by
  intro d hd
  unfold lastC at hd
  simp only [List.mem_cons, List.not_mem_nil, or_false] at hd
  rcases hd with rfl | rfl | rfl | rfl | rfl | rfl | rfl | rfl | rfl | rfl <;> exact ⟨rfl, rfl, by decide⟩
def spL : CS := .ret (.idx (.lst [.con .non, .con (.int 7), .con (.bl true), .con (.str ""), .tup [], .tup [.con (.int 0)], .tup [.con (.int 1)], .tup [.tup [], .tup []], .tup [.tup [.tup [], .tup []], .tup [.tup [], .tup []]], .tup [.con (.int 2), .con (.int 1)]]) (.call "_law_take" [.var 0, .var 1, .con (.int 10)]))
theorem w_spL {row : List Int} (hr : row ≠ []) {n : Nat} {c : Cw} {F : Mp.Fin} (hc : c.G = wpC T (n + 2)) {S : Hs} {sp : Addr} {b : Int} {o2 o3 o4 : Option D} (hS : S sp = some (.lst [.int b])) (hb : 0 ≤ b)
    (hk : ∀ (b : Int) (w : D), 0 ≤ b → Fit 3 w → F.rt w (hput S sp (.lst [.int b]))) : wpS c spL F [some (.lst (row.map .int)), some (.ref sp), o2, o3, o4] S := by
  have hsz : ∀ n : Nat, n ≤ 1000 → n ≤ sizeLine := fun n h => Nat.le_trans h (by decide)
  unfold spL
  simp only [wpS, wpE, wpEs, CE.isStar, List.getElem?_cons_succ, List.getElem?_cons_zero]
  simp only [List.length_cons, List.length_nil]
  refine ⟨hsz _ (by decide), hsz _ (by decide), hsz _ (by decide), hsz _ (by decide), hsz _ (by decide), hsz _ (by decide), hsz _ (by decide), hsz _ (by decide), hsz _ (by decide), hsz _ (by decide), hsz _ (by decide), hsz _ (by decide), hsz _ (by decide), hsz _ (by decide), hsz _ (by decide), ?_⟩
  rw [hc]
  refine d_take hr (by omega) hS hb fun b w hb hw => ?_
  obtain ⟨i, rfl, hi0, hi1⟩ := hw
  obtain ⟨d, hd1, hd2⟩ := idx_mem (S := hput S sp (.lst [.int b])) (xs := lastC) hi0 (show i < 10 from hi1)
  rw [show idxD (hput S sp (.lst [.int b])) (.lst [.non, .int 7, .bl true, .str "", .tup [], .tup [.int 0], .tup [.int 1], .tup [.tup [], .tup []], .tup [.tup [.tup [], .tup []], .tup [.tup [], .tup []]], .tup [.int 2, .int 1]]) (.int i) = some d from hd1]
  exact hk b d hb (fit_last d hd2)
def spI : CS := .ifs (.and (.isi (.var 2) [.int]) (.cmp .Lt (.var 3) (.con (.int 4)))) [
    .ret (.idx (.lst [.op .Add (.var 2) (.con (.int 1)), .op .Sub (.var 2) (.con (.int 1)), .con (.int 0), .con (.int 1), .con (.int 2), .con (.int 7), .con (.int 8), .con .non, .con (.bl true)]) (.call "_law_take" [.var 0, .var 1, .con (.int 9)]))] []
def sp0 : CS := .ifs (.and (.isi (.var 2) [.tuple]) (.and (.cmp .Gt (.bi .len [.var 2]) (.con (.int 0))) (.cmp .Gt (.call "_law_take" [.var 0, .var 1, .con (.int 5)]) (.con (.int 0))))) [
    .asg (.nm 4) (.call "_law_take" [.var 0, .var 1, .bi .len [.var 2]]),
    .ret (.op .Add (.op .Add (.sl (.var 2) none (some (.var 4))) (.tup [.call "_law_spoilt_web" [.var 0, .var 1, .idx (.var 2) (.var 4)]])) (.sl (.var 2) (some (.op .Add (.var 4) (.con (.int 1)))) none))] []
def spA : CS := .ifs (.and (.isi (.var 2) [.tuple]) (.and (.cmp .Eq (.var 3) (.con (.int 0))) (.cmp .Gt (.bi .len [.var 2]) (.con (.int 0))))) [
    .ret (.op .Add (.var 2) (.sl (.var 2) none (some (.con (.int 1)))))] []
def spB : CS := .ifs (.and (.isi (.var 2) [.tuple]) (.and (.cmp .Eq (.var 3) (.con (.int 1))) (.cmp .Gt (.bi .len [.var 2]) (.con (.int 0))))) [
    .ret (.sl (.var 2) (some (.con (.int 1))) none)] []
def spC : CS := .ifs (.and (.isi (.var 2) [.tuple]) (.and (.cmp .Eq (.var 3) (.con (.int 2))) (.cmp .Gt (.bi .len [.var 2]) (.con (.int 1))))) [
    .ret (.op .Add (.sl (.var 2) (some (.con (.int 1))) none) (.sl (.var 2) none (some (.con (.int 1)))))] []
/-- behind the first test -/
theorem w_spT {row : List Int} (hr : row ≠ []) {n : Nat} {c : Cw} {F : Mp.Fin} (hc : c.G = wpC T (n + 2)) {S : Hs} {sp : Addr} {b : Int} {v : D} {o3 o4 : Option D} (hv : ti v = true) (hS : S sp = some (.lst [.int b])) (hb : 0 ≤ b)
    (hk : ∀ (b : Int) (w : D), 0 ≤ b → Fit (D.dep v + 3) w → F.rt w (hput S sp (.lst [.int b]))) : wpSs c [.asg (.nm 3) (.call "_law_take" [.var 0, .var 1, .con (.int 6)]), spA, spB, spC, spI, spL] F [some (.lst (row.map .int)), some (.ref sp), some v, o3, o4] S := by
  generalize hL : spL = sL
  have hlast : ∀ {F : Mp.Fin} {b : Int} {o2 o3 o4 : Option D} , 0 ≤ b → (∀ (b : Int) (w : D), 0 ≤ b → Fit 3 w → F.rt w (hput S sp (.lst [.int b]))) → wpS c sL F [some (.lst (row.map .int)), some (.ref sp), o2, o3, o4] (hput S sp (.lst [.int b])) := fun {F b o2 o3 o4} hb h => by
    subst hL
    exact w_spL hr hc (S := hput S sp (.lst [.int b])) hput_same hb fun b w hb hw => by rw [hput_hput]; exact h b w hb hw
  simp only [wpSs, wpS, wpE, wpEs, CE.isStar, List.getElem?_cons_succ, List.getElem?_cons_zero, hc]
  refine d_take hr (by omega) hS hb fun b w hb hw => ?_
  obtain ⟨i, rfl, hi0, hi1⟩ := hw
  simp only [g_nm, List.length_cons, List.length_nil]
  cases v with
  | tup ds =>
    have hv2 := hv
    simp only [ti, Bool.and_eq_true, decide_eq_true_eq] at hv2
    have hfm : ∀ d ∈ ds, Fit (D.deps ds) d := fun d hd => fit_mem hv2.2 hd
    have hisi : ∀ S, isiD S (.tup ds) [.tuple] = some true := fun _ => rfl
    have hisn : ∀ S, isiD S (.tup ds) [.int] = some false := fun _ => rfl
    have hlen : ∀ S, biD .len S [.tup ds] = some (.int (ds.length : Int)) := fun _ => rfl
    have hdep : D.dep (.tup ds) = D.deps ds + 1 := by simp only [D.dep]
    have c1 : ∀ S, 1 ≤ ds.length → slD S (.tup ds) none (some 1) = some (.tup (ds.take 1)) := fun S h => by
      show some (D.tup (cutD ds none (some ((1 : Nat) : Int)))) = _
      rw [cut_lo h]
    have c2 : ∀ S, 1 ≤ ds.length → slD S (.tup ds) (some 1) none = some (.tup ds.tail) := fun S h => by
      show some (D.tup (cutD ds (some ((1 : Nat) : Int)) none)) = _
      rw [cut_hi h, List.drop_one]
    have mt : ∀ d ∈ ds.take 1, Fit (D.deps ds) d := fun d hd => hfm d (List.mem_of_mem_take hd)
    have md : ∀ d ∈ ds.tail, Fit (D.deps ds) d := fun d hd => hfm d (List.mem_of_mem_tail hd)
    have lt1 : (ds.take 1).length ≤ 1 := List.length_take_le _ _
    have ld1 : ds.tail.length = ds.length - 1 := List.length_tail
    have fin : ∀ {b : Int} {w : D}, 0 ≤ b → Fit (D.deps ds + 1) w → F.rt w (hput S sp (.lst [.int b])) := fun hb hw => hk _ _ hb (fit_up hw (by omega))
    simp [spA, spB, spC, spI, wpS, wpSs, wpE, wpEs, wpO, CE.isStar, hisi, hisn, hlen, cmp_eq, cmp_gt]
    by_cases q0 : i = 0
    · by_cases hn : 0 < ds.length
      · subst q0
        simp [hn, c1 _ hn, vw]
        rw [op_addT (by omega)]
        refine fin hb (fit_tup (by rw [List.length_append]; omega) fun d hd => ?_)
        rcases List.mem_append.mp hd with hd | hd
        · exact hfm d hd
        · exact mt d hd
      · subst q0
        simp [hn]
        exact hlast hb fun b w hb hw => hk b w hb (fit_up hw (by omega))
    · by_cases q1 : i = 1
      · by_cases hn : 0 < ds.length
        · subst q1
          simp [hn, c2 _ hn]
          exact fin hb (fit_tup (by omega) md)
        · subst q1
          simp [hn]
          exact hlast hb fun b w hb hw => hk b w hb (fit_up hw (by omega))
      · by_cases q2 : i = 2
        · by_cases hn : 1 < ds.length
          · have hn0 : 0 < ds.length := by omega
            subst q2
            have hni : (1 : Int) < (ds.length : Int) := by omega
            simp [hni, hn0, c1 _ hn0, c2 _ hn0, vw]
            rw [op_addT (by omega)]
            refine fin hb (fit_tup (ds := ds.tail ++ ds.take 1) (by rw [List.length_append]; omega) fun d hd => ?_)
            rcases List.mem_append.mp hd with hd | hd
            · exact md d hd
            · exact mt d hd
          · subst q2
            have hni : ¬ (1 : Int) < (ds.length : Int) := by omega
            simp [hni]
            exact hlast hb fun b w hb hw => hk b w hb (fit_up hw (by omega))
        · simp [q0, q1, q2]
          exact hlast hb fun b w hb hw => hk b w hb (fit_up hw (by omega))
  | int z =>
    have hist : ∀ S, isiD S (.int z) [.tuple] = some false := fun _ => rfl
    have hisi : ∀ S, isiD S (.int z) [.int] = some true := fun _ => rfl
    simp [spA, spB, spC, wpS, wpSs, wpE, wpEs, wpO, CE.isStar, hist]
    unfold spI
    by_cases q : i < 4
    · simp only [wpS, wpSs, wpE, wpEs, CE.isStar, List.getElem?_cons_succ, List.getElem?_cons_zero, hisi]
      simp [cmp_lt, q, vw, op_add, op_sub]
      refine ⟨Nat.le_trans (show 9 ≤ 1000 by omega) (by decide), ?_⟩
      rw [hc]
      refine d_take hr (by omega) hput_same hb fun b w hb hw => ?_
      obtain ⟨u, rfl, hu0, hu1⟩ := hw
      rw [hput_hput]
      obtain ⟨d, hd1, hd2⟩ := idx_mem (S := hput S sp (.lst [.int b])) (xs := [.int (z + 1), .int (z - 1), .int 0, .int 1, .int 2, .int 7, .int 8, .non, .bl true]) hu0 (show u < 9 from hu1)
      simp only [hd1]
      refine hk b d hb (fit_up (n := 3) ?_ (by omega))
      simp only [List.mem_cons, List.not_mem_nil, or_false] at hd2
      rcases hd2 with rfl | rfl | rfl | rfl | rfl | rfl | rfl | rfl | rfl <;> exact ⟨rfl, rfl, by simp [D.dep]⟩
    · simp only [wpS, wpSs, wpE, wpEs, CE.isStar, List.getElem?_cons_succ, List.getElem?_cons_zero, hisi]
      simp [cmp_lt, q]
      exact hlast hb fun b w hb hw => hk b w hb (fit_up hw (by omega))
  | _ => simp [ti] at hv
theorem d_spoilt {row : List Int} (hr : row ≠ []) : ∀ (m : Nat) (v : D), ti v = true → D.dep v + 3 ≤ m → Dr m row "_law_spoilt_web" [v] (Fit (D.dep v + 3))
  | 0, v, _, h => by omega
  | m + 1, v, hv, h => by
    intro hS ha hk; rename_i S sp a k ke
    refine call_in (fn := f__law_spoilt_web) (by kernel_rfl) ⟨rfl, ?_⟩
    show wpSs _ (sp0 :: [.asg (.nm 3) (.call "_law_take" [.var 0, .var 1, .con (.int 6)]), spA, spB, spC, spI, spL]) _ [some (.lst (row.map .int)), some (.ref sp), some v, none, none] S
    generalize hT : [CS.asg (.nm 3) (.call "_law_take" [.var 0, .var 1, .con (.int 6)]), spA, spB, spC, spI, spL] = tl
    obtain ⟨m', rfl⟩ : ∃ m', m = m' + 2 := ⟨m - 2, by omega⟩
    have hsk : S = hput S sp (.lst [.int a]) := (hput_self hS).symm
    rw [wpSs]
    cases v with
    | tup ds =>
      have hv2 := hv
      simp only [ti, Bool.and_eq_true, decide_eq_true_eq] at hv2
      have hdep : D.dep (.tup ds) = D.deps ds + 1 := by simp only [D.dep]
      have hisi : ∀ S, isiD S (.tup ds) [.tuple] = some true := fun _ => rfl
      have hlen : ∀ S, biD .len S [.tup ds] = some (.int (ds.length : Int)) := fun _ => rfl
      unfold sp0
      simp only [wpSs, wpS, wpE, wpEs, wpO, CE.isStar, List.getElem?_cons_succ, List.getElem?_cons_zero, hisi, hlen, truth_bl, cmp_gt]
      by_cases hn : 0 < ds.length
      · have hni : (0 : Int) < (ds.length : Int) := by omega
        simp only [hni, decide_true]
        refine d_take hr (by omega) hS ha fun b w hb hw => ?_
        obtain ⟨i, rfl, hi0, hi1⟩ := hw
        by_cases hi : 0 < i
        · simp [hi, cmp_gt]
          refine d_take hr hni hput_same hb fun b w hb hw => ?_
          obtain ⟨at_, rfl, ha0, ha1⟩ := hw
          rw [hput_hput]
          obtain ⟨q, rfl⟩ := Int.eq_ofNat_of_zero_le ha0
          have hq : q < ds.length := by omega
          simp
          have hix : idxD (hput S sp (.lst [.int b])) (.tup ds) (.int (q : Int)) = some ds[q] := by
            show L2.atI ds (q : Int) = _
            rw [atI_nat hq, List.getElem?_eq_getElem hq]
          have sl0 : ∀ S, slD S (.tup ds) none (some (q : Int)) = some (.tup (ds.take q)) := fun S => by
            show some (D.tup (cutD ds none (some (q : Int)))) = _
            rw [cut_lo (by omega)]
          have sl1 : ∀ S, slD S (.tup ds) (some ((q : Int) + 1)) none = some (.tup (ds.drop (q + 1))) := fun S => by
            have : ((q : Int) + 1) = ((q + 1 : Nat) : Int) := by omega
            rw [this]
            show some (D.tup (cutD ds (some ((q + 1 : Nat) : Int)) none)) = _
            rw [cut_hi (by omega)]
          have hm := List.getElem_mem hq
          have hdq := dep_mem hm
          simp only [sl0, hix]
          refine d_spoilt hr _ _ (tis_mem hv2.2 hm) (by omega) hput_same hb fun b w hb hw => ?_
          rw [hput_hput]
          refine ⟨by decide, ?_⟩
          have hl1 : (ds.take q).length ≤ q := List.length_take_le _ _
          have hl2 : (ds.drop (q + 1)).length = ds.length - (q + 1) := List.length_drop
          simp only [vw]
          rw [op_addT (by simp; omega)]
          simp only [op_add, sl1]
          rw [op_addT (by rw [List.length_append]; simp; omega)]
          refine ⟨_, le_refl, hk b _ hb (fit_up (n := D.deps ds + 3 + 1) (fit_tup (by rw [List.length_append, List.length_append]; simp; omega) fun d hd => ?_) (by omega))⟩
          rcases List.mem_append.mp hd with hd | hd
          · rcases List.mem_append.mp hd with hd | hd
            · exact fit_up (fit_mem hv2.2 (List.mem_of_mem_take hd)) (by omega)
            · rw [List.mem_singleton.mp hd]
              exact fit_up hw (by omega)
          · exact fit_up (fit_mem hv2.2 (List.mem_of_mem_drop hd)) (by omega)
        · simp [hi, cmp_gt]
          subst hT
          refine w_spT hr rfl hv hput_same hb fun b w hb hw => ?_
          rw [hput_hput]
          exact ⟨_, le_refl, hk b w hb hw⟩
      · have hni : ¬ (0 : Int) < (ds.length : Int) := by omega
        simp only [hni, decide_false, truth_bl]
        subst hT
        refine w_spT (n := m') (c := ⟨wpC T (m' + 2), fun _ => ke, none, T.xf, T.xs⟩) hr rfl hv hS ha ?_
        intro b w hb hw
        exact ⟨_, le_refl, hk b w hb hw⟩
    | int z =>
      have hist : ∀ S, isiD S (.int z) [.tuple] = some false := fun _ => rfl
      unfold sp0
      simp [wpSs, wpS, wpE, wpEs, hist]
      subst hT
      refine w_spT (n := m') (c := ⟨wpC T (m' + 2), fun _ => ke, none, T.xf, T.xs⟩) hr rfl hv hS ha ?_
      intro b w hb hw
      exact ⟨_, le_refl, hk b w hb hw⟩
    | _ => simp [ti] at hv
end Lw

namespace Lw
open PySem Mp
theorem like_web {v h : D} (hl : likeD v h) : webD h = webD v := by rw [← web_tup, hl.2]
theorem like_hab {v h : D} (hl : likeD v h) : habD h = habD v := by rw [← hab_tup, hl.2]
def askW (i : Nat) : CE := .not (.call "_law_so" [.call "is_web" [.call "_law_handed" [.var 1, .var 2, .var i]], .call "_law_is_web" [.var i]])
def askH (i : Nat) : CE := .not (.call "_law_so" [.call "is_habits" [.call "_law_handed" [.var 1, .var 2, .var i]], .call "_law_is_habits" [.var i]])
theorem w_askW {row : List Int} (hr : row ≠ []) {n : Nat} {c : Cw} (hc : c.G = wpC T (n + 13)) {ρ : Ev} {i : Nat} {sp : Addr} {v : D} (e1 : ρ[1]? = some (some (.lst (row.map .int)))) (e2 : ρ[2]? = some (some (.ref sp))) (e3 : ρ[i]? = some (some v)) (hv : Fit 10 v) {S : Hs} {b : Int} (hS : S sp = some (.lst [.int b])) (hb : 0 ≤ b) {k : DK}
    (hk : ∀ b : Int, 0 ≤ b → k (.bl false) (hput S sp (.lst [.int b]))) : wpE c (askW i) ρ k S := by
  unfold askW
  simp only [wpE, wpEs, e1, e2, e3, CE.isStar, hc]
  refine d_handed (n := n + 10) hr hv.1 hv.2.1 (Nat.le_trans hv.2.2 (by omega)) hS hb fun b w hb hw => ?_
  refine pure_ok (v_is_web (n := n + 7) hw.1) ?_
  refine pure_ok (v_law_is_web (n := n + 11) hv.1 hv.2.1) ?_
  rw [like_web hw]
  refine pure_ok (v_so_bl (n := n + 12)) ?_
  rw [beq_self_eq_true]
  exact hk b hb
theorem w_askH {row : List Int} (hr : row ≠ []) {n : Nat} {c : Cw} (hc : c.G = wpC T (n + 13)) {ρ : Ev} {i : Nat} {sp : Addr} {v : D} (e1 : ρ[1]? = some (some (.lst (row.map .int)))) (e2 : ρ[2]? = some (some (.ref sp))) (e3 : ρ[i]? = some (some v)) (hv : Fit 10 v) {S : Hs} {b : Int} (hS : S sp = some (.lst [.int b])) (hb : 0 ≤ b) {k : DK}
    (hk : ∀ b : Int, 0 ≤ b → k (.bl false) (hput S sp (.lst [.int b]))) : wpE c (askH i) ρ k S := by
  unfold askH
  simp only [wpE, wpEs, e1, e2, e3, CE.isStar, hc]
  refine d_handed (n := n + 10) hr hv.1 hv.2.1 (Nat.le_trans hv.2.2 (by omega)) hS hb fun b w hb hw => ?_
  refine pure_ok (v_is_habits (n := n + 6) hw.1) ?_
  refine pure_ok (v_law_is_habits (n := n + 10) hv.1 hv.2.1) ?_
  rw [like_hab hw]
  refine pure_ok (v_so_bl (n := n + 12)) ?_
  rw [beq_self_eq_true]
  exact hk b hb
theorem fit_ti {v : D} {n : Nat} (h : ti v = true) (hd : D.dep v ≤ n) : Fit n v := ⟨(ti_sm h).1, (ti_sm h).2, hd⟩
def mB1 : List CS := [.asg (.nm 8) (.call "_law_spoilt_web" [.var 1, .var 2, .var 3]),
    .ifs (askW 8) [.ret (.con (.bl false))] [],
    .asg (.nm 8) (.call "_law_spoilt_web" [.var 1, .var 2, .var 4]),
    .ifs (askH 8) [.ret (.con (.bl false))] []]
theorem w_mB1 {row : List Int} (hr : row ≠ []) {n : Nat} {c : Cw} {F : Mp.Fin} (hc : c.G = wpC T (n + 13)) {web own : D} (hw : ti web = true) (hw2 : D.dep web ≤ 4) (ho : ti own = true) (ho2 : D.dep own ≤ 4) {o0 o5 o6 o7 o8 : Option D} {S : Hs} {sp : Addr} {b : Int} (hS : S sp = some (.lst [.int b])) (hb : 0 ≤ b)
    (hk : ∀ (b : Int) (x : D), 0 ≤ b → F.nx [o0, some (.lst (row.map .int)), some (.ref sp), some web, some own, o5, o6, o7, some x] (hput S sp (.lst [.int b]))) :
    wpSs c mB1 F [o0, some (.lst (row.map .int)), some (.ref sp), some web, some own, o5, o6, o7, o8] S := by
  unfold mB1
  generalize hW : askW 8 = aw
  generalize hH : askH 8 = ah
  simp only [wpSs, wpS, wpE, wpEs, CE.isStar, List.getElem?_cons_succ, List.getElem?_cons_zero, hc]
  refine d_spoilt hr _ web hw (by omega) hS hb fun b x hb hx => ?_
  simp only [g_nm, List.length_cons, List.length_nil]
  simp only [show (8 : Nat) < 0 + 1 + 1 + 1 + 1 + 1 + 1 + 1 + 1 + 1 by omega, if_true, List.set_cons_succ, List.set_cons_zero]
  subst hW
  refine w_askW hr hc rfl rfl rfl (fit_up hx (by omega)) hput_same hb fun b hb => ?_
  rw [hput_hput]
  simp only [truth_bl]
  refine d_spoilt hr _ own ho (by omega) hput_same hb fun b x hb hx => ?_
  rw [hput_hput]
  subst hH
  refine w_askH hr hc rfl rfl rfl (fit_up hx (by omega)) hput_same hb fun b hb => ?_
  rw [hput_hput]
  simp only [truth_bl]
  exact hk b _ hb
def handC : List D := [.tup [.tup [.int 1], .tup [.int 0]], .tup [.tup [.int 1], .tup [.int 2], .tup [.int 0]], .tup [.tup [], .tup [.int 0], .tup [.int 1]], .tup [.tup [.int 2], .tup [.int 0], .tup []], .tup (List.replicate 8 (.tup [])), .tup (List.replicate 9 (.tup [])), .tup [], .tup [.tup [.int 0]], .tup [.tup [.int 1], .tup []]]
theorem fit_hand : ∀ d ∈ handC, Fit 10 d := by
  intro d hd
  unfold handC at hd
  simp only [List.mem_cons, List.not_mem_nil, or_false] at hd
  rcases hd with rfl | rfl | rfl | rfl | rfl | rfl | rfl | rfl | rfl <;> exact ⟨rfl, rfl, by decide⟩
def handE : CE := .tup [.tup [.tup [.con (.int 1)], .tup [.con (.int 0)]], .tup [.tup [.con (.int 1)], .tup [.con (.int 2)], .tup [.con (.int 0)]], .tup [.tup [], .tup [.con (.int 0)], .tup [.con (.int 1)]], .tup [.tup [.con (.int 2)], .tup [.con (.int 0)], .tup []], .op .Mult (.tup [.tup []]) (.con (.int 8)), .op .Mult (.tup [.tup []]) (.con (.int 9)), .tup [], .tup [.tup [.con (.int 0)]], .tup [.tup [.con (.int 1)], .tup []]]
theorem v_handE {fe : Fe} {ρ : Ev} : evE fe handE ρ = some (.tup handC) := by
  unfold handE
  have s : ∀ n : Nat, n ≤ 1000 → n ≤ sizeLine := fun n h => Nat.le_trans h (by decide)
  have t0 : evE fe (.tup []) ρ = some (.tup []) := by simp
  have t1 : ∀ i : Int, evE fe (.tup [.con (.int i)]) ρ = some (.tup [.int i]) := fun i => by
    simp [CE.isStar]
    exact Nat.pos_iff_ne_zero.mp (s 1 (by omega))
  have m : ∀ k : Int, 2 ≤ k → k ≤ 1000 → evE fe (.op .Mult (.tup [.tup []]) (.con (.int k))) ρ = some (.tup (List.replicate k.toNat (.tup []))) := fun k h1 h2 => by
    have : evE fe (.tup [.tup []]) ρ = some (.tup [.tup []]) := by
      simp [CE.isStar]
      exact Nat.pos_iff_ne_zero.mp (s 1 (by omega))
    rw [x_op, this, x_con]
    simp only [Option.bind_some]
    simp only [opD]
    rw [if_pos (by simp [h1, h2])]
    congr 2
    induction k.toNat with
    | zero => rfl
    | succ n ih => rw [List.replicate_succ, List.replicate_succ, List.flatten_cons, ih]; rfl
  have l : ∀ {es : List CE} {ds : List D}, evEs fe es ρ = some ds → ds.length ≤ 1000 → evE fe (.tup es) ρ = some (.tup ds) := fun h hl => by
    rw [x_tup, h, Option.bind_some, if_pos (s _ hl)]
  have n : evEs fe [] ρ = some [] := x_nil
  have cc : ∀ {e : CE} {es : List CE} {d : D} {ds : List D}, evE fe e ρ = some d → e.isStar = false → evEs fe es ρ = some ds → evEs fe (e :: es) ρ = some (d :: ds) := fun h hs h2 => by
    rw [x_cons, hs, h, h2]; rfl
  have r8 : D.tup (List.replicate 8 (.tup [])) = .tup (List.replicate (8 : Int).toNat (.tup [])) := rfl
  have r9 : D.tup (List.replicate 9 (.tup [])) = .tup (List.replicate (9 : Int).toNat (.tup [])) := rfl
  unfold handC
  rw [r8, r9]
  refine l (cc (l (cc (t1 1) rfl (cc (t1 0) rfl n)) (by simp)) rfl (cc (l (cc (t1 1) rfl (cc (t1 2) rfl (cc (t1 0) rfl n))) (by simp)) rfl (cc (l (cc t0 rfl (cc (t1 0) rfl (cc (t1 1) rfl n))) (by simp)) rfl (cc (l (cc (t1 2) rfl (cc (t1 0) rfl (cc t0 rfl n))) (by simp)) rfl (cc (m 8 (by omega) (by omega)) rfl (cc (m 9 (by omega) (by omega)) rfl (cc t0 rfl (cc (l (cc (t1 0) rfl n) (by simp)) rfl (cc (l (cc (t1 1) rfl (cc t0 rfl n)) (by simp)) rfl n))))))))) (by simp)
theorem main_n {n : Nat} (ns : List Int) (h : ns.length ≤ 63) {S : Hs} {k : DK} {ke : EK} (hk : k (.bl true) S) : wpC T (n + 14) "law" [.scr ns] S k ke := by
  refine call_in (fn := f_law) (by kernel_rfl) ⟨rfl, ?_⟩
  show wpSs _ [.asg (.nm 1) (.call "_law_numbers" [.var 0]), .asg (.nm 2) (.nlst [.con (.int 0)]), .asg (.nm 3) (.call "_law_web" [.var 1, .var 2]),
    .asg (.nm 4) (.call "_law_changed_habits" [.var 1, .var 2, .call "_law_habits_of" [.var 3]]),
    .asg (.nm 5) (.call "_law_handed" [.var 1, .var 2, .var 3]),
    .ifs (.or (.not (.call "_law_so" [.callk "is_web" [] ["value"] [.var 5], .con (.bl true)])) (.not (.call "_law_so" [.call "_law_tupled" [.var 5], .var 3]))) [.ret (.con (.bl false))] [],
    .ifs (.not (.call "_law_so" [.callk "is_habits" [] ["value"] [.call "_law_handed" [.var 1, .var 2, .var 4]], .con (.bl true)])) [.ret (.con (.bl false))] [],
    .forr (.nm 6) (.rng [.con (.int 8)]) mB1,
    .forr (.nm 7) (.seq handE) [.ifs (askW 7) [.ret (.con (.bl false))] []],
    .ret (.con (.bl true))] _ [some (.scr ns), none, none, none, none, none, none, none, none] S
  generalize hm1 : mB1 = m1
  generalize hW : askW 7 = aw
  generalize hE : handE = he
  simp only [wpSs, wpS, wpE, wpEs, CE.isStar, List.getElem?_cons_succ, List.getElem?_cons_zero]
  refine w_numbers h fun row hr => ?_
  simp only [g_nm, List.length_cons, List.length_nil]
  try simp
  refine ⟨by decide, fun sp hsp => ?_⟩
  refine d_web hr hput_same (Int.le_refl 0) fun b w hb hw => ?_
  obtain ⟨M, R, rfl, hG, hR1, hR8⟩ := hw
  rw [hput_hput]
  have hti := ti_web hG hR8
  have hdw := dep_web (R := R)
  refine pure_ok (v_habits_of (n := n + 12) hR8) ?_
  refine d_changed hr (own_ok hG hR1 hR8) hput_same hb fun b w hb hw => ?_
  obtain ⟨H, rfl, hH⟩ := hw
  rw [hput_hput]
  try simp
  have hth := ti_habs hH
  have hdh := dep_habs (H := H)
  refine d_handed (n := n + 10) hr (ti_sm hti).1 (ti_sm hti).2 (by omega) hput_same hb fun b hd hb hhd => ?_
  rw [hput_hput]
  try simp
  have hdep : D.dep hd ≤ 2 := by rw [← dep_tup, hhd.2]; exact hdw
  refine pure_ok (v_is_web (n := n + 7) hhd.1) ?_
  rw [like_web hhd, web_good hG hR1 hR8]
  refine pure_ok (v_so_bl (n := n + 12)) ?_
  try simp
  refine pure_ok (v_tupled (n + 13) hd hhd.1 (by omega)) ?_
  rw [hhd.2]
  refine pure_ok (v_so_same (n + 13) (webT R) (ti_sm hti).1 (ti_sm hti).2 (by omega)) ?_
  try simp
  refine d_handed (n := n + 10) hr (ti_sm hth).1 (ti_sm hth).2 (by omega) hput_same hb fun b hg hb hhg => ?_
  rw [hput_hput]
  refine pure_ok (v_is_habits (n := n + 6) hhg.1) ?_
  rw [like_hab hhg, hab_ok hH]
  refine pure_ok (v_so_bl (n := n + 12)) ?_
  try simp
  refine wpI_rng1 (x := .int 8) (fun k' h => by simpa only [wpE] using h) rfl (range0i (m := 8) (by omega)) ?_
  refine forL_inv (fun t ρ S' => ∃ (b : Int) (o6 o7 o8 : Option D), ρ = [some (.scr ns), some (.lst (row.map .int)), some (.ref sp), some (webT R), some (habsT H), some hd, o6, o7, o8] ∧ S' = hput S sp (.lst [.int b]) ∧ 0 ≤ b) (fun _ => trivial) (t := 0) ?_ ⟨b, none, none, none, rfl, rfl, hb⟩ ?_
  · intro j d hd ρ S' kk hI hkk
    obtain ⟨b, o6, o7, o8, rfl, rfl, hb⟩ := hI
    simp only [g_nm, List.length_cons, List.length_nil]
    subst hm1
    refine w_mB1 (n := n) hr rfl hti (by omega) hth hdh hput_same hb fun b x hb => ?_
    rw [hput_hput]
    exact hkk _ _ ⟨b, _, _, _, rfl, rfl, hb⟩
  · rintro ρ' S' ⟨b, o6, o7, o8, rfl, rfl, hb⟩
    subst hE
    simp only [wpI]
    refine evE_ok (fe := E (n + 13)) handE (fun f ds r S k ke h hk => evC_ok X_ok _ f ds r S k ke h hk) v_handE ?_
    simp only [itemsOf]
    refine forL_inv (fun t ρ S' => ∃ (b : Int) (o6 o7 o8 : Option D), ρ = [some (.scr ns), some (.lst (row.map .int)), some (.ref sp), some (webT R), some (habsT H), some hd, o6, o7, o8] ∧ S' = hput S sp (.lst [.int b]) ∧ 0 ≤ b) (fun _ => trivial) (t := 0) ?_ ⟨b, _, _, _, rfl, rfl, hb⟩ ?_
    · intro j d hj ρ S' kk hI hkk
      obtain ⟨b, o6, o7, o8, rfl, rfl, hb⟩ := hI
      simp only [g_nm, List.length_cons, List.length_nil]
      subst hW
      refine w_askW (n := n) hr rfl rfl rfl rfl (fit_hand d (List.mem_of_getElem? hj)) hput_same hb fun b hb => ?_
      rw [hput_hput]
      exact hkk _ _ ⟨b, _, _, _, rfl, rfl, hb⟩
    · rintro ρ' S' ⟨b, o6, o7, o8, rfl, rfl, hb⟩
      exact ⟨S, le_put hsp, hk⟩
theorem main (ns : List Int) (h : ns.length ≤ 63) : Mp.wpC Lw.T 60 "law" [.scr ns] (fun _ => none) (fun d _ => d = .bl true) (fun _ _ => False) := main_n (n := 46) ns h rfl
end Lw

namespace Lw
open PySem PySem.Spec PyProof.Rows L2 Mp
def fnl : List He.DefD := rows.map (·.1)
def fal : List He.Fa := faOf rows cons free
def loose : List Str := ["is_integer", "is_within", "is_sequence", "is_row", "are_below", "MOST_NODES", "are_others", "is_web_shaped", "order_of", "is_part", "are_apart", "is_condition", "are_habits", "is_web", "is_habits", "_law_so", "_law_numbers", "_law_draw", "_law_take", "_law_whole", "_law_listed", "_law_tupled", "_law_either", "_law_handed", "_law_shuffled", "_law_web", "_law_is_web", "_law_habits_of", "_law_is_condition", "_law_is_habits", "_law_changed_habits", "_law_spoilt_web"]
abbrev R : PySem.W.OpenRow := PySem.W.OpenLaw.row PySem.Challenge.rw_pullsafe_k15_webs_and_habits_told_apart
abbrev hk : PySem.W.Hook := He.hookD 6 fal fnl
def ob (s : PySem.W.SharedT) : He.AlD := He.obsDG 6 fal fnl (HandSHeadRun.getT s)
theorem ob_eq (s : PySem.W.SharedT) : ob s = hk.obs s.abs := He.obsDG_eq (HandSHeadRun.getT_eq s)
theorem run (w : World) : HandSHeadRun.RunEq R (PySem.W.view R.prog [36]) hk ob 4000 loose w := by
  intro os
  kernel_rfl
theorem law_fn : T.fn "law" = some f_law := by kernel_rfl
theorem facts {P : Program} {w : World} {K : PySem.W.Frag} {h : Heap} {mg : Str → Option Value} {f : Addr} (X : K.In h) (G : h.Ns mainGlobals mg) (hfa : mg ("law" : Str) = some (.ref f)) (c : He.SaysD fal fnl K) :
    ∃ fd : FuncData, (∀ (s : Shared) (v : Value), BindsTo s fd ⟨[v], []⟩ [("script", v)]) ∧ ∀ base : Heap, K.In base → base.Ns mainGlobals mg → FnOk P w K mg base CX0 60 f fd ["script"] (fun vs H Q _ => spF K mg (wpC T 60) "law" 1 vs H Q (fun _ _ _ => False)) :=
  law_facts (T := T) (fn := f_law) rfl c binds checks law_fn rfl X G hfa
end Lw
open PySem PySem.W PySem.Calls PyProof.Rows
theorem PySem.Challenge.cw_pullsafe_k15_webs_and_habits_told_apart_holds : PySem.Challenge.rw_pullsafe_k15_webs_and_habits_told_apart.Holds := by
  w_on; o_law
  refine HandSHeadRun.head_any (r := OpenLaw.row PySem.Challenge.rw_pullsafe_k15_webs_and_habits_told_apart) (q := view (OpenLaw.row PySem.Challenge.rw_pullsafe_k15_webs_and_habits_told_apart).prog [36]) (H := Lw.hk) (ob := Lw.ob) (M := 4000) (loose := Lw.loose) (d := HandSHeadRun.topDef (OpenLaw.row PySem.Challenge.rw_pullsafe_k15_webs_and_habits_told_apart).prog 36) (kwd := []) Lw.ob_eq
    (by kernel_rfl) (fun s => by kernel_rfl) Lw.run (by kernel_rfl) (by kernel_rfl) (by kernel_rfl) (by rfl) (by first | assumption | decide +kernel) (by decide +kernel) ⟨rfl, rfl, rfl, rfl, rfl, by decide +kernel⟩ ?hw ?hc
  case hw => w_witness2
  case hc =>
    refine L2.walk_ofE (l := PySem.Challenge.rw_pullsafe_k15_webs_and_habits_told_apart) (n := 63) (k := 60) (x := "script") (CX := L2.CX0) rfl (by decide) (by kernel_rfl) ⟨rfl, by decide, by decide⟩ ?F (fun _ _ _ _ z => z)
    intro w mg fa h Y G hmg0
    obtain ⟨K, KX, c⟩ := Y
    have hmg : mg ("law" : PySem.Str) = some (.ref fa) := by
      have e : (HandSHeadRun.topDef (OpenLaw.row PySem.Challenge.rw_pullsafe_k15_webs_and_habits_told_apart).prog 36).name = ("law" : PySem.Str) := by kernel_rfl
      rw [← e]
      exact hmg0
    obtain ⟨fd, hb, hF⟩ := Lw.facts (P := (PySem.Challenge.rw_pullsafe_k15_webs_and_habits_told_apart).prog) (w := w) KX G hmg c
    exact ⟨K, fd, (fun vs H Q _ => Mp.spF K mg (Mp.wpC Lw.T 60) "law" 1 vs H Q (fun _ _ _ => False)), KX, hb, fun H a ns hl hO hS => Mp.law_sp hO hS (Lw.main ns hl), hF⟩

