import PyProof.Rows.All
import Wide.All
import OpenK.AllK
import Wide.FinOn
import HandS.ForMost
import HandS.Star
import HandS.Exc
import HandS.Flow
import HandS.TupAny
import HandS.TupMul
import HandS.TupLe
import PyProof.StrOps2
import HandS.FStr
import HandS.IsInst
import HandS.SortInts
import HandS.Text
import HandS.Deep
import HandS.ForExc
import HandS.Comp
import HandS.ExcOwn
import HandS.Defaults
import HandS.More
import HandS.Zip
import HandS.ExcInit
import HandS.ExcField
import KE.KExcSuper
import HandS.TryMany
import HandS.Strs
import HandS.ReplaceLit
import PyProof.Draws
import PyProof.EnumMake
import HandS.Words
import HandS.HeadHook2
import HandS.Head2
import HandS.HeadEnd
import HandS.EndBits
import KE.KStateDown
import HandS.Replace
import PyProof.P3Eq
import PySem.Challenge.RW_signsandrests_k75_texts_of_signed_webs
set_option Elab.async false
set_option linter.all false
set_option maxRecDepth 100000
/-! DLa: data, how data lies in the abstract heap, the frame's own things. -/
namespace DL
open PySem PySem.Spec PyProof.Rows L2

/-- plain data: lists by value; ref n: the n-th thing of the frame's own that may change -/
inductive D where
  | non | bl (b : Bool) | int (i : Int) | str (s : Str)
  | tup (xs : List D) | lst (xs : List D)
  | ref (n : Nat)
  | scr (ns : List Int)
  | dct (kvs : List (Key × D))
  | obj (c : Str) (fs : List (Str × D))

abbrev Frag := PySem.W.Frag
abbrev St := L2.St

mutual
inductive Rep (K : Frag) (F : Hp) (φ : List Addr) : V → D → Prop
  | non : Rep K F φ .non .non
  | bl (b : Bool) : Rep K F φ (.bl b) (.bl b)
  | int (i : Int) : Rep K F φ (.int i) (.int i)
  | str (s : Str) : Rep K F φ (.str s) (.str s)
  | tup {a : Addr} {vs : List V} {ds : List D} : SqT K F a vs → Reps K F φ vs ds → Rep K F φ (.ref a) (.tup ds)
  | lst {a : Addr} {vs : List V} {ds : List D} : F a = some (.lst vs) → Reps K F φ vs ds → Rep K F φ (.ref a) (.lst ds)
  | ref {a : Addr} {n : Nat} : φ[n]? = some a → Rep K F φ (.ref a) (.ref n)
  | scr {a : Addr} {ns : List Int} : SqL K F a (ns.map V.int) → Rep K F φ (.ref a) (.scr ns)
inductive Reps (K : Frag) (F : Hp) (φ : List Addr) : List V → List D → Prop
  | nil : Reps K F φ [] []
  | cons {v : V} {vs : List V} {d : D} {ds : List D} : Rep K F φ v d → Reps K F φ vs ds → Reps K F φ (v :: vs) (d :: ds)
end

section
variable {K : Frag} {F F' H H' : Hp} {φ φ' : List Addr}

theorem Reps.length : ∀ {vs : List V} {ds : List D}, Reps K F φ vs ds → vs.length = ds.length
  | _, _, .nil => rfl
  | _, _, .cons _ t => by rw [List.length_cons, List.length_cons, t.length]
theorem Reps.get : ∀ {vs : List V} {ds : List D} {i : Nat} {d : D}, Reps K F φ vs ds → ds[i]? = some d → ∃ v, vs[i]? = some v ∧ Rep K F φ v d
  | _, _, _, _, .nil, e => by simp at e
  | _, _, 0, _, .cons r _, e => by simp at e; subst e; exact ⟨_, rfl, r⟩
  | _, _, i + 1, _, .cons _ t, e => by
    obtain ⟨v, h1, h2⟩ := t.get (i := i) (by simpa using e)
    exact ⟨v, by simpa using h1, h2⟩
theorem Reps.getV : ∀ {vs : List V} {ds : List D} {i : Nat} {v : V}, Reps K F φ vs ds → vs[i]? = some v → ∃ d, ds[i]? = some d ∧ Rep K F φ v d
  | _, _, _, _, .nil, e => by simp at e
  | _, _, 0, _, .cons r _, e => by simp at e; subst e; exact ⟨_, rfl, r⟩
  | _, _, i + 1, _, .cons _ t, e => by
    obtain ⟨v, h1, h2⟩ := t.getV (i := i) (by simpa using e)
    exact ⟨v, by simpa using h1, h2⟩
theorem Reps.append : ∀ {vs ws : List V} {ds es : List D}, Reps K F φ vs ds → Reps K F φ ws es → Reps K F φ (vs ++ ws) (ds ++ es)
  | _, _, _, _, .nil, s => s
  | _, _, _, _, .cons r t, s => .cons r (t.append s)
theorem Reps.take : ∀ {vs : List V} {ds : List D} (n : Nat), Reps K F φ vs ds → Reps K F φ (vs.take n) (ds.take n)
  | _, _, 0, _ => .nil
  | _, _, _ + 1, .nil => .nil
  | _, _, n + 1, .cons r t => .cons r (t.take n)
theorem Reps.drop : ∀ {vs : List V} {ds : List D} (n : Nat), Reps K F φ vs ds → Reps K F φ (vs.drop n) (ds.drop n)
  | _, _, 0, t => t
  | _, _, _ + 1, .nil => .nil
  | _, _, n + 1, .cons _ t => t.drop n
theorem Reps.set {v : V} {d : D} (r : Rep K F φ v d) : ∀ {vs : List V} {ds : List D} (n : Nat), Reps K F φ vs ds → Reps K F φ (vs.set n v) (ds.set n d)
  | _, _, _, .nil => .nil
  | _, _, 0, .cons _ t => .cons r t
  | _, _, n + 1, .cons q t => .cons q (Reps.set r n t)
theorem Reps.eraseIdx : ∀ {vs : List V} {ds : List D} (n : Nat), Reps K F φ vs ds → Reps K F φ (vs.eraseIdx n) (ds.eraseIdx n)
  | _, _, _, .nil => .nil
  | _, _, 0, .cons _ t => t
  | _, _, n + 1, .cons q t => .cons q (t.eraseIdx n)
theorem Reps.reverse {vs : List V} {ds : List D} (r : Reps K F φ vs ds) : Reps K F φ vs.reverse ds.reverse := by
  induction vs generalizing ds with
  | nil => cases r; exact .nil
  | cons v vs ih =>
    cases r with
    | cons r t => rw [List.reverse_cons, List.reverse_cons]; exact (ih t).append (.cons r .nil)
theorem Reps.dropLast {vs : List V} {ds : List D} (r : Reps K F φ vs ds) : Reps K F φ vs.dropLast ds.dropLast := by
  rw [List.dropLast_eq_take, List.dropLast_eq_take, r.length]; exact r.take _
theorem Reps.isEmpty {vs : List V} {ds : List D} (r : Reps K F φ vs ds) : vs.isEmpty = ds.isEmpty := by cases r <;> rfl

theorem Rd.mono {a : Addr} {u : HO} (k : ∀ a o, F a = some o → F' a = some o) (r : Rd F a u) : Rd F' a u := by
  rcases r with r | ⟨o, r⟩
  · exact .inl (k _ _ r)
  · exact .inr ⟨o, k _ _ r⟩
theorem SqL.mono {a : Addr} {vs : List V} (k : ∀ a o, F a = some o → F' a = some o) (r : SqL K F a vs) : SqL K F' a vs := by
  rcases r with r | r
  · exact .inl (Rd.mono k r)
  · exact .inr r
theorem SqT.mono {a : Addr} {vs : List V} (k : ∀ a o, F a = some o → F' a = some o) (r : SqT K F a vs) : SqT K F' a vs := by
  rcases r with r | r
  · exact .inl (Rd.mono k r)
  · exact .inr r
mutual
theorem Rep.mono (k : ∀ a o, F a = some o → F' a = some o) (kp : ∀ (n : Nat) a, φ[n]? = some a → φ'[n]? = some a) : ∀ {v : V} {d : D}, Rep K F φ v d → Rep K F' φ' v d
  | _, _, .non => .non
  | _, _, .bl b => .bl b
  | _, _, .int i => .int i
  | _, _, .str s => .str s
  | _, _, .tup h t => .tup (SqT.mono k h) (Reps.mono k kp t)
  | _, _, .lst h t => .lst (k _ _ h) (Reps.mono k kp t)
  | _, _, .ref h => .ref (kp _ _ h)
  | _, _, .scr h => .scr (SqL.mono k h)
theorem Reps.mono (k : ∀ a o, F a = some o → F' a = some o) (kp : ∀ (n : Nat) a, φ[n]? = some a → φ'[n]? = some a) : ∀ {vs : List V} {ds : List D}, Reps K F φ vs ds → Reps K F' φ' vs ds
  | _, _, .nil => .nil
  | _, _, .cons r t => .cons (Rep.mono k kp r) (Reps.mono k kp t)
end
theorem Rep.up (k : ∀ a o, F a = some o → F' a = some o) {v : V} {d : D} (r : Rep K F φ v d) : Rep K F' φ v d := r.mono k fun _ _ e => e
theorem Reps.up (k : ∀ a o, F a = some o → F' a = some o) {vs : List V} {ds : List D} (r : Reps K F φ vs ds) : Reps K F' φ vs ds := r.mono k fun _ _ e => e
end

/-- a thing of the frame's own -/
inductive Cell where
  | lst (xs : List D)

/-- the frame's things: φ where they stand, h what they hold; F: what is tracked and never changes again, H: all that is tracked -/
structure Wd (K : Frag) (φ : List Addr) (h : List Cell) (F H : Hp) : Prop where
  sub : ∀ a o, F a = some o → H a = some o
  own : ∀ a, a ∈ φ → F a = none
  nd : φ.Nodup
  len : φ.length = h.length
  cell : ∀ (n : Nat) (xs : List D), h[n]? = some (.lst xs) → ∃ a vs, φ[n]? = some a ∧ H a = some (.lst vs) ∧ Reps K F φ vs xs
  full : ∀ a o, H a = some o → F a = some o ∨ Mut (some o)

/-- an expression's way: nothing that is tracked changes; what is new may be frozen, nothing older is -/
structure Ext (F H F' H' : Hp) : Prop where
  keep : ∀ a o, H a = some o → H' a = some o
  up : ∀ a o, F a = some o → F' a = some o
  no : ∀ a o, H a = some o → F a = none → F' a = none
  sub : ∀ a o, F' a = some o → H' a = some o
  full : ∀ a o, H' a = some o → H a = some o ∨ F' a = some o ∨ Mut (some o)
theorem Ext.refl {F H : Hp} (s : ∀ a o, F a = some o → H a = some o) : Ext F H F H := ⟨fun _ _ e => e, fun _ _ e => e, fun _ _ _ e => e, s, fun _ _ e => .inl e⟩
theorem Ext.trans {F H F1 H1 F2 H2 : Hp} (a : Ext F H F1 H1) (b : Ext F1 H1 F2 H2) : Ext F H F2 H2 :=
  ⟨fun x o e => b.keep x o (a.keep x o e), fun x o e => b.up x o (a.up x o e), fun x o e n => b.no x o (a.keep x o e) (a.no x o e n), b.sub, fun x o e => by
    rcases b.full x o e with q | q | q
    · rcases a.full x o q with q | q | q
      · exact .inl q
      · exact .inr (.inl (b.up x o q))
      · exact .inr (.inr q)
    · exact .inr (.inl q)
    · exact .inr (.inr q)⟩

section
variable {K : Frag} {F F' H H' : Hp} {φ φ' : List Addr} {h : List Cell}
theorem Wd.there (w : Wd K φ h F H) {a : Addr} (ha : a ∈ φ) : ∃ xs, H a = some (.lst xs) := by
  obtain ⟨n, hn⟩ := List.getElem?_of_mem ha
  have hl : n < h.length := by rw [← w.len]; exact (List.getElem?_eq_some_iff.mp hn).1
  cases hc : h[n]? with
  | none => rw [List.getElem?_eq_none_iff] at hc; omega
  | some c =>
    cases c with
    | lst xs =>
      obtain ⟨b, vs, h1, h2, _⟩ := w.cell n xs hc
      rw [hn] at h1; cases h1
      exact ⟨vs, h2⟩
theorem Wd.ext (w : Wd K φ h F H) (e : Ext F H F' H') : Wd K φ h F' H' where
  sub := e.sub
  own := fun a ha => by
    obtain ⟨xs, hx⟩ := w.there ha
    exact e.no a _ hx (w.own a ha)
  nd := w.nd
  len := w.len
  cell := fun n xs hc => by
    obtain ⟨a, vs, h1, h2, h3⟩ := w.cell n xs hc
    exact ⟨a, vs, h1, e.keep _ _ h2, h3.up e.up⟩
  full := fun a o q => by
    rcases e.full a o q with q | q | q
    · rcases w.full a o q with q | q
      · exact .inl (e.up a o q)
      · exact .inr q
    · exact .inl q
    · exact .inr q

/-- the frame's names: ρ what is known of the slots σ -/
structure Env1 (K : Frag) (F : Hp) (φ : List Addr) (σ : St) (ρ : List (Option D)) : Prop where
  len : ρ.length = σ.length
  at_ : ∀ (i : Nat) (d : D), ρ[i]? = some (some d) → ∃ v, σ[i]? = some (some v) ∧ Rep K F φ v d
theorem Env1.mono {σ : St} {ρ : List (Option D)} (e : Env1 K F φ σ ρ) (k : ∀ a o, F a = some o → F' a = some o) (kp : ∀ (n : Nat) a, φ[n]? = some a → φ'[n]? = some a) : Env1 K F' φ' σ ρ :=
  ⟨e.len, fun i d q => let ⟨v, h1, h2⟩ := e.at_ i d q; ⟨v, h1, h2.mono k kp⟩⟩
theorem Env1.up {σ : St} {ρ : List (Option D)} (e : Env1 K F φ σ ρ) (k : ∀ a o, F a = some o → F' a = some o) : Env1 K F' φ σ ρ := e.mono k fun _ _ q => q
theorem Env1.set {σ : St} {ρ : List (Option D)} (e : Env1 K F φ σ ρ) (i : Nat) {v : V} {d : D} (r : Rep K F φ v d) : Env1 K F φ (σ.set i (some v)) (ρ.set i (some d)) := by
  refine ⟨by rw [List.length_set, List.length_set, e.len], fun j q hj => ?_⟩
  by_cases hij : i = j
  · subst hij
    have hl : i < ρ.length := by
      have := (List.getElem?_eq_some_iff.mp hj).1
      rwa [List.length_set] at this
    rw [List.getElem?_set_self hl] at hj
    have : d = q := by injection hj with h1; injection h1
    subst this
    exact ⟨v, List.getElem?_set_self (by rw [← e.len]; exact hl), r⟩
  · rw [List.getElem?_set_ne hij] at hj
    obtain ⟨u, h1, h2⟩ := e.at_ j q hj
    exact ⟨u, by rw [List.getElem?_set_ne hij]; exact h1, h2⟩
theorem Env1.unset {σ : St} {ρ : List (Option D)} (e : Env1 K F φ σ ρ) (i : Nat) : Env1 K F φ (σ.set i none) (ρ.set i none) := by
  refine ⟨by rw [List.length_set, List.length_set, e.len], fun j q hj => ?_⟩
  by_cases hij : i = j
  · subst hij
    by_cases hl : i < ρ.length
    · rw [List.getElem?_set_self hl] at hj; cases hj
    · rw [List.getElem?_eq_none (by rw [List.length_set]; omega)] at hj; cases hj
  · rw [List.getElem?_set_ne hij] at hj
    obtain ⟨u, h1, h2⟩ := e.at_ j q hj
    exact ⟨u, by rw [List.getElem?_set_ne hij]; exact h1, h2⟩
/-- the slots of a block's own names forgotten -/
def wipeR (ρ : List (Option D)) : List Nat → List (Option D)
  | [] => ρ
  | v :: vs => (wipeR ρ vs).set v none
theorem Env1.wipe {σ : St} {ρ : List (Option D)} (e : Env1 K F φ σ ρ) : ∀ vs : List Nat, Env1 K F φ (L2.wipe σ vs) (wipeR ρ vs)
  | [] => e
  | v :: vs => (e.wipe vs).unset v
end
end DL

set_option Elab.async false
set_option linter.all false
set_option maxRecDepth 100000
/-! DLs: side conditions of the rules, for any expression. -/
namespace DL
open PySem PySem.Spec PyProof.Rows L2

def noStar : Expr → Bool
  | .Starred .. => false
  | _ => true
theorem starEach_cons {e : Expr} {es : List Expr} {env : Env} (h : noStar e = true) : starEach (e :: es) env = (false, eval e env) :: starEach es env := by
  cases e <;> first | rfl | cases h
theorem starEach_all {env : Env} {pos : Pos} : ∀ {es : List Expr}, es.all noStar = true → (backTo pos (starEach es env)).any (·.1) = false
  | [], _ => rfl
  | e :: es, h => by
    rw [List.all_cons, Bool.and_eq_true_iff] at h
    rw [starEach_cons h.1]
    show (false || (backTo pos (starEach es env)).any (·.1)) = false
    rw [starEach_all h.2]; rfl
theorem starEach_allNot {env : Env} {pos : Pos} : ∀ {es : List Expr}, es.all noStar = true → (backTo pos (starEach es env)).all (fun x => !x.1) = true
  | [], _ => rfl
  | e :: es, h => by
    rw [List.all_cons, Bool.and_eq_true_iff] at h
    rw [starEach_cons h.1]
    show (true && (backTo pos (starEach es env)).all (fun x => !x.1)) = true
    rw [starEach_allNot h.2]; rfl
theorem starEach_length {env : Env} : ∀ {es : List Expr}, (starEach es env).length = es.length
  | [] => rfl
  | e :: es => by
    cases e <;> (show (starEach es env).length + 1 = es.length + 1; rw [starEach_length])

def noSuper : Expr → Bool
  | .Call (.Name _ _) [] [] _ => false
  | _ => true
theorem base_of {o : Expr} {m : Str} {env : Env} {whole : Sem Value} (h : noSuper o = true) : attributeBase o m env whole = whole := by
  unfold attributeBase
  split
  · cases h
  · rfl

def plainTest : Expr → Bool
  | .UnaryOp .Not _ _ => false
  | .BoolOp .. => false
  | .IfExp .. => false
  | .Compare .. => false
  | _ => true
theorem isTrue_of {e : Expr} {env : Env} (h : plainTest e = true) (whole : Sem Value) : isTrue e env whole = (do let v ← whole; standAt e.pos; holding [v] (truthy v)) := by
  cases e with
  | UnaryOp op a p => cases op <;> first | rfl | cases h
  | BoolOp a b c => cases h
  | IfExp a b c d => cases h
  | Compare a b c d => cases h
  | _ => rfl

def noSetE : Expr → Bool
  | .Set .. => false
  | _ => true
theorem foldedSet_of {e : Expr} {env : Env} (h : noSetE e = true) (x : Value) : foldedSetIterable e env x = pure x := by
  cases e <;> first | rfl | cases h
theorem behind_of {e : Expr} {op : CmpOp} (h : noSetE e = true) : behindInMarks op e = false := by
  cases e <;> first | rfl | cases h

def noComp : Expr → Bool
  | .ListComp .. => false
  | .SetComp .. => false
  | .DictComp .. => false
  | _ => true
theorem swaps_of {e : Expr} {t : Option Expr} {l : Nat} {env : Env} (h : noComp e = true) : swapsWith e t l env = pure false := by
  cases e <;> first | rfl | cases h
theorem swapsSole_of {e t : Expr} {l : Nat} {env : Env} (h : noComp e = true) : swapsWithSole [t] e l env = pure false := swaps_of h
def noTupT : Expr → Bool
  | .Tuple .. => false
  | .List .. => false
  | _ => true
theorem swapped_of {t e : Expr} {env : Env} (h : noTupT t = true) : swappedStores [t] e env = pure none := by
  cases t <;> first | rfl | cases h
theorem swapped_ofV {t e : Expr} {env : Env} (h : noTupT e = true) : swappedStores [t] e env = pure none := by
  cases e with
  | Tuple a b c => cases h
  | List a b => cases h
  | _ => cases t <;> rfl
theorem assignEach_cons {e : Expr} {es : List Expr} {env : Env} (h : noStar e = true) : assignEach (e :: es) env = (false, assign e env) :: assignEach es env := by
  cases e <;> first | rfl | cases h
theorem assignEach_length {env : Env} : ∀ {es : List Expr}, (assignEach es env).length = es.length
  | [] => rfl
  | e :: es => by
    cases e <;> (show (assignEach es env).length + 1 = es.length + 1; rw [assignEach_length])
theorem assignEach_noStar {env : Env} : ∀ {es : List Expr}, es.all noStar = true → (assignEach es env).findIdx? (·.1) = none
  | [], _ => rfl
  | e :: es, h => by
    rw [List.all_cons, Bool.and_eq_true_iff] at h
    rw [assignEach_cons h.1, List.findIdx?_cons]
    simp only [Bool.false_eq_true, if_false]
    rw [assignEach_noStar h.2]; rfl
def noSlice : Expr → Bool
  | .Slice .. => false
  | _ => true
theorem plainIx_of {e : Expr} (h : noSlice e = true) : PlainIx e := by
  intro o i
  cases e <;> first | rfl | cases h
end DL

set_option Elab.async false
set_option linter.all false
set_option maxRecDepth 100000
/-! DLb: an expression's reading over data; operators. -/
namespace DL
open PySem PySem.Spec PyProof.Rows L2

/-- what an expression or a call comes to: data, or an exception of the module's own class c with its fields -/
inductive Res where
  | ok (d : D)
  | exc (c : Str) (fs : List (Str × D))
abbrev Rho := List (Option D)
abbrev Sx := Rho → List Cell → Option Res
def bnd (x : Option Res) (k : D → Option Res) : Option Res := match x with
  | some (.ok d) => k d
  | some (.exc c fs) => some (.exc c fs)
  | none => none
@[simp] theorem bnd_ok {d : D} {k : D → Option Res} : bnd (some (.ok d)) k = k d := rfl
@[simp] theorem bnd_exc {c : Str} {fs : List (Str × D)} {k : D → Option Res} : bnd (some (.exc c fs)) k = some (.exc c fs) := rfl
@[simp] theorem bnd_none {k : D → Option Res} : bnd none k = none := rfl
/-- a pure value's result -/
def vok (x : Option D) : Option Res := match x with
  | some d => some (.ok d)
  | none => none
@[simp] theorem vok_some {d : D} : vok (some d) = some (.ok d) := rfl
@[simp] theorem vok_none : vok none = none := rfl

/-- how an exception of the module's own class lies -/
def ExcAt (K : Frag) (mg : Str → Option Value) (F : Hp) (φ : List Addr) (cls : Value) (dx : Option Addr) (c : Str) (fs : List (Str × D)) : Prop :=
  mg c = some cls ∧ ((fs = [] ∧ dx = none) ∨ ∃ a fvs, dx = some a ∧ F a = some (.xd fvs) ∧ fvs.map (·.1) = fs.map (·.1) ∧ Reps K F φ (fvs.map (·.2)) (fs.map (·.2)))

/-- what is wanted of a result -/
def Want (K : Frag) (mg : Str → Option Value) (W : WX) (φ : List Addr) (F H : Hp) (σ : St) (Q : VK) : Res → Prop
  | .ok d => ∀ v F' H', Ext F H F' H' → Rep K F' φ v d → Q v H'
  | .exc c fs => ∀ cls dx F' H', Ext F H F' H' → ExcAt K mg F' φ cls dx c fs → W cls dx σ H'
theorem Want.ext {K : Frag} {mg : Str → Option Value} {W : WX} {φ : List Addr} {F H F' H' : Hp} {σ : St} {Q : VK} (e : Ext F H F' H') : ∀ {r : Res}, Want K mg W φ F H σ Q r → Want K mg W φ F' H' σ Q r
  | .ok _, w => fun v F2 H2 e2 r => w v F2 H2 (e.trans e2) r
  | .exc _ _, w => fun c d F2 H2 e2 r => w c d F2 H2 (e.trans e2) r

/-- the reading of an expression -/
def tD (K : Frag) (mg : Str → Option Value) (W : WX) (f : Sx) : TE := fun σ H Q => ∃ φ h F ρ r, Wd K φ h F H ∧ Env1 K F φ σ ρ ∧ f ρ h = some r ∧ Want K mg W φ F H σ Q r
/-- of a test -/
def tT (K : Frag) (mg : Str → Option Value) (W : WX) (f : Sx) : TT := fun σ H Q => ∃ φ h F ρ r, Wd K φ h F H ∧ Env1 K F φ σ ρ ∧ f ρ h = some r ∧
  match r with
  | .ok (.bl b) => ∀ F' H', Ext F H F' H' → Q b H'
  | .ok _ => False
  | .exc c fs => Want K mg W φ F H σ (fun _ _ => False) (.exc c fs)

theorem _root_.L2.PE.weak {X : Cx} {e : Expr} {t t' : TE} (p : PE X e t) (k : ∀ σ H Q, t' σ H Q → t σ H Q) : PE X e t' := ⟨fun pins s σ H Q I q => p.run pins s σ H Q I (k σ H Q q)⟩
theorem _root_.L2.PT.weak {X : Cx} {e : Expr} {t t' : TT} (p : PT X e t) (k : ∀ σ H Q, t' σ H Q → t σ H Q) : PT X e t' := ⟨fun pins s σ H Q I q => p.run pins s σ H Q I (k σ H Q q)⟩
theorem _root_.L2.PW.weak {X : Cx} {e : Expr} {t t' : TT} (p : PW X e t) (k : ∀ σ H Q, t' σ H Q → t σ H Q) : PW X e t' := ⟨fun wh pins s σ H Q I q => p.run wh pins s σ H Q I (k σ H Q q)⟩

/-! ### a new object, frozen at once -/
section
variable {K : Frag} {mg : Str → Option Value} {W : WX} {φ : List Addr} {h : List Cell} {F H F' H' : Hp} {σ : St} {ρ : Rho}
theorem Ext.new {p : Addr} {o : HO} (s : ∀ a o, F a = some o → H a = some o) (hp : H p = none) : Ext F H (upd F p o) (upd H p o) := by
  have fp : F p = none := by
    cases q : F p with
    | none => rfl
    | some u => rw [s p u q] at hp; cases hp
  refine ⟨fun a u q => ?_, fun a u q => ?_, fun a u q n => ?_, fun a u q => ?_, fun a u q => ?_⟩
  · rw [upd_ne (ne_of_none q hp)]; exact q
  · rw [upd_ne (ne_of_none q fp)]; exact q
  · rw [upd_ne (ne_of_none q hp)]; exact n
  · by_cases e : a = p
    · subst e; rw [upd_same] at q ⊢; exact q
    · rw [upd_ne e] at q ⊢; exact s a u q
  · by_cases e : a = p
    · subst e; rw [upd_same] at q ⊢; exact .inr (.inl q)
    · rw [upd_ne e] at q; exact .inl q
/-- .. and not frozen -/
theorem Ext.newOwn {p : Addr} {o : HO} (s : ∀ a o, F a = some o → H a = some o) (hp : H p = none) (m : Mut (some o)) : Ext F H F (upd H p o) := by
  refine ⟨fun a u q => ?_, fun a u q => q, fun a u q n => n, fun a u q => ?_, fun a u q => ?_⟩
  · rw [upd_ne (ne_of_none q hp)]; exact q
  · rw [upd_ne (ne_of_none (s a u q) hp)]; exact s a u q
  · by_cases e : a = p
    · subst e; rw [upd_same] at q; cases q; exact .inr (.inr m)
    · rw [upd_ne e] at q; exact .inl q
theorem new_lst {p : Addr} {vs : List V} {ds : List D} (w : Wd K φ h F H) (hp : H p = none) (r : Reps K F φ vs ds) : Ext F H (upd F p (.lst vs)) (upd H p (.lst vs)) ∧ Rep K (upd F p (.lst vs)) φ (.ref p) (.lst ds) := by
  have e := Ext.new (o := .lst vs) w.sub hp
  exact ⟨e, .lst upd_same (r.up e.up)⟩
theorem new_tup {p : Addr} {vs : List V} {ds : List D} (w : Wd K φ h F H) (hp : H p = none) (r : Reps K F φ vs ds) : Ext F H (upd F p (.tup vs)) (upd H p (.tup vs)) ∧ Rep K (upd F p (.tup vs)) φ (.ref p) (.tup ds) := by
  have e := Ext.new (o := .tup vs) w.sub hp
  exact ⟨e, .tup (SqT.of upd_same) (r.up e.up)⟩
end

/-! ### reading lists, sequences -/
def listD (h : List Cell) : D → Option (List D)
  | .lst xs => some xs
  | .ref n => (match h[n]? with
    | some (.lst xs) => some xs
    | _ => none)
  | _ => none
def tupD : D → Option (List D)
  | .tup xs => some xs
  | _ => none
section
variable {K : Frag} {φ : List Addr} {h : List Cell} {F H : Hp} {v : V} {d : D} {xs : List D}
theorem listD_ok (w : Wd K φ h F H) (r : Rep K F φ v d) (e : listD h d = some xs) : ∃ a vs, v = .ref a ∧ H a = some (.lst vs) ∧ Reps K F φ vs xs := by
  cases r with
  | @lst a vs ds q t =>
    have : ds = xs := Option.some.inj e
    subst this
    exact ⟨a, vs, rfl, w.sub _ _ q, t⟩
  | @ref a n q =>
    have e' : (match h[n]? with | some (.lst xs) => some xs | _ => none) = some xs := e
    cases hc : h[n]? with
    | none => rw [hc] at e'; cases e'
    | some c =>
      cases c with
      | lst ys =>
        rw [hc] at e'
        have : ys = xs := Option.some.inj e'
        subst this
        obtain ⟨b, vs, h1, h2, h3⟩ := w.cell n ys hc
        rw [q] at h1; cases h1
        exact ⟨a, vs, rfl, h2, h3⟩
  | _ => cases e
theorem tupD_ok (w : Wd K φ h F H) (r : Rep K F φ v d) (e : tupD d = some xs) : ∃ a vs, v = .ref a ∧ SqT K H a vs ∧ Reps K F φ vs xs := by
  cases r with
  | @tup a vs ds q t =>
    have : ds = xs := Option.some.inj e
    subst this
    exact ⟨a, vs, rfl, SqT.mono w.sub q, t⟩
  | _ => cases e
/-- a list or a tuple -/
def seqD (h : List Cell) (d : D) : Option (List D) := match d with
  | .tup xs => some xs
  | d => listD h d
theorem seqD_ok (w : Wd K φ h F H) (r : Rep K F φ v d) (e : seqD h d = some xs) : ∃ a vs, v = .ref a ∧ (SqL K H a vs ∨ SqT K H a vs) ∧ Reps K F φ vs xs := by
  cases r with
  | @tup a vs ds q t =>
    have : ds = xs := Option.some.inj e
    subst this
    exact ⟨a, vs, rfl, .inr (SqT.mono w.sub q), t⟩
  | lst q t =>
    obtain ⟨a, vs, e1, e2, e3⟩ := listD_ok w (.lst q t) (show listD h _ = some xs from e)
    exact ⟨a, vs, e1, .inl (SqL.of e2), e3⟩
  | ref q =>
    obtain ⟨a, vs, e1, e2, e3⟩ := listD_ok w (.ref q) (show listD h _ = some xs from e)
    exact ⟨a, vs, e1, .inl (SqL.of e2), e3⟩
  | _ => cases e
end

/-! ### two-place operations -/
structure OpS (K : Frag) (r : R2) (g : List Cell → D → D → Option D) : Prop where
  go : ∀ {φ : List Addr} {h : List Cell} {F H : Hp} {x y : V} {dx dy d : D} {Q : VK}, Wd K φ h F H → Rep K F φ x dx → Rep K F φ y dy → g h dx dy = some d → (∀ v F' H', Ext F H F' H' → Rep K F' φ v d → Q v H') → r x y H Q
theorem OpS.or {K : Frag} {r r' : R2} {g g' : List Cell → D → D → Option D} (a : OpS K r g) (b : OpS K r' g') : OpS K (fun x y H Q => r x y H Q ∨ r' x y H Q) (fun h x y => match g h x y with | some d => some d | none => g' h x y) :=
  ⟨fun {φ h F H x y dx dy d Q} w rx ry e k => by
    cases q : g h dx dy with
    | some d' =>
      rw [q] at e
      have e' : d' = d := Option.some.inj e
      subst e'
      exact .inl (a.go w rx ry q k)
    | none =>
      rw [q] at e
      exact .inr (b.go w rx ry e k)⟩

theorem Rep.int_inv {K : Frag} {F : Hp} {φ : List Addr} {v : V} {i : Int} (r : Rep K F φ v (.int i)) : v = .int i := by cases r; rfl
theorem Rep.bl_inv {K : Frag} {F : Hp} {φ : List Addr} {v : V} {i : Bool} (r : Rep K F φ v (.bl i)) : v = .bl i := by cases r; rfl
theorem Rep.str_inv {K : Frag} {F : Hp} {φ : List Addr} {v : V} {i : Str} (r : Rep K F φ v (.str i)) : v = .str i := by cases r; rfl
theorem Rep.non_inv {K : Frag} {F : Hp} {φ : List Addr} {v : V} (r : Rep K F φ v .non) : v = .non := by cases r; rfl

/-- on two ints -/
def gI (C : Int → Int → Bool) (f : Int → Int → D) : List Cell → D → D → Option D := fun _ x y => match x, y with
  | .int i, .int j => if C i j = true then some (f i j) else none
  | _, _ => none
theorem gI_inv {C : Int → Int → Bool} {f : Int → Int → D} {h : List Cell} {x y d : D} (e : gI C f h x y = some d) : ∃ i j, x = .int i ∧ y = .int j ∧ C i j = true ∧ d = f i j := by
  unfold gI at e
  split at e
  · rename_i i j
    split at e
    · rename_i hc
      exact ⟨i, j, rfl, rfl, hc, (Option.some.inj e).symm⟩
    · cases e
  · cases e
theorem opS_I {K : Frag} {C : Int → Int → Prop} {Cb : Int → Int → Bool} {f : Int → Int → Int} (hC : ∀ i j, Cb i j = true → C i j) : OpS K (rI C fun i j => .int (f i j)) (gI Cb fun i j => .int (f i j)) :=
  ⟨fun {φ h F H x y dx dy d Q} w rx ry e k => by
    obtain ⟨i, j, rfl, rfl, hc, rfl⟩ := gI_inv e
    rw [rx.int_inv, ry.int_inv]
    exact ⟨i, j, rfl, rfl, hC i j hc, k _ _ _ (Ext.refl w.sub) (.int _)⟩⟩
theorem opS_I0 {K : Frag} {f : Int → Int → Int} : OpS K (rI0 fun i j => .int (f i j)) (gI (fun _ _ => true) fun i j => .int (f i j)) :=
  ⟨fun {φ h F H x y dx dy d Q} w rx ry e k => by
    obtain ⟨i, j, rfl, rfl, hc, rfl⟩ := gI_inv e
    rw [rx.int_inv, ry.int_inv]
    exact ⟨i, j, rfl, rfl, k _ _ _ (Ext.refl w.sub) (.int _)⟩⟩
theorem opS_B0 {K : Frag} {f : Int → Int → Bool} : OpS K (rI0 fun i j => .bl (f i j)) (gI (fun _ _ => true) fun i j => .bl (f i j)) :=
  ⟨fun {φ h F H x y dx dy d Q} w rx ry e k => by
    obtain ⟨i, j, rfl, rfl, hc, rfl⟩ := gI_inv e
    rw [rx.int_inv, ry.int_inv]
    exact ⟨i, j, rfl, rfl, k _ _ _ (Ext.refl w.sub) (.bl _)⟩⟩

def gAddS : List Cell → D → D → Option D := fun _ x y => match x, y with
  | .str i, .str j => if i.length + j.length ≤ sizeLine then some (.str (i ++ j)) else none
  | _, _ => none
theorem opS_addS {K : Frag} : OpS K (fun x y H Q => ∃ i j, x = .str i ∧ y = .str j ∧ i.length + j.length ≤ sizeLine ∧ Q (.str (i ++ j)) H) gAddS :=
  ⟨fun {φ h F H x y dx dy d Q} w rx ry e k => by
    unfold gAddS at e
    split at e
    · split at e
      · rename_i i j hz
        have := Option.some.inj e
        subst this
        rw [rx.str_inv, ry.str_inv]
        exact ⟨i, j, rfl, rfl, hz, k _ _ _ (Ext.refl w.sub) (.str _)⟩
      · cases e
    · cases e⟩
def gCat : List Cell → D → D → Option D := fun h x y => match listD h x, listD h y with
  | some xs, some ys => if xs.length + ys.length ≤ sizeLine then some (.lst (xs ++ ys)) else none
  | _, _ => none
theorem opS_cat {K : Frag} : OpS K rCat gCat :=
  ⟨fun {φ h F H x y dx dy d Q} w rx ry e k => by
    unfold gCat at e
    split at e
    · rename_i xs ys h1 h2
      split at e
      · rename_i hz
        have := Option.some.inj e
        subst this
        obtain ⟨a, vs, rfl, ha, ra⟩ := listD_ok w rx h1
        obtain ⟨b, us, rfl, hb, rb⟩ := listD_ok w ry h2
        refine ⟨a, b, vs, us, rfl, rfl, ha, hb, by rw [ra.length, rb.length]; exact hz, fun p hp => ?_⟩
        obtain ⟨e1, r1⟩ := new_lst w hp (ra.append rb)
        exact k _ _ _ e1 r1
      · cases e
    · cases e⟩
def gCatT : List Cell → D → D → Option D := fun _ x y => match x, y with
  | .tup xs, .tup ys => if xs.length + ys.length ≤ sizeLine then some (.tup (xs ++ ys)) else none
  | _, _ => none
theorem opS_catT {K : Frag} : OpS K (rCatA K) gCatT :=
  ⟨fun {φ h F H x y dx dy d Q} w rx ry e k => by
    unfold gCatT at e
    split at e
    · rename_i xs ys
      split at e
      · rename_i hz
        have := Option.some.inj e
        subst this
        obtain ⟨a, vs, rfl, ha, ra⟩ := tupD_ok w rx (rfl : tupD (.tup xs) = some xs)
        obtain ⟨b, us, rfl, hb, rb⟩ := tupD_ok w ry (rfl : tupD (.tup ys) = some ys)
        refine ⟨a, b, vs, us, rfl, rfl, ha, hb, by rw [ra.length, rb.length]; exact hz, fun z => ?_, fun z z2 => ?_, fun _ _ p hp => ?_⟩
        · subst z
          cases ra
          exact k _ _ _ (Ext.refl w.sub) (by simpa using ry)
        · subst z2
          cases rb
          exact k _ _ _ (Ext.refl w.sub) (by simpa using rx)
        · obtain ⟨e1, r1⟩ := new_tup w hp (ra.append rb)
          exact k _ _ _ e1 r1
      · cases e
    · cases e⟩
theorem Reps.rep {K : Frag} {F : Hp} {φ : List Addr} {vs : List V} {ds : List D} (r : Reps K F φ vs ds) : ∀ n : Nat, Reps K F φ (List.replicate n vs).flatten (List.replicate n ds).flatten
  | 0 => .nil
  | n + 1 => by
    rw [List.replicate_succ, List.replicate_succ, List.flatten_cons, List.flatten_cons]
    exact r.append (r.rep n)
def gRep : List Cell → D → D → Option D := fun h x y => match listD h x, y with
  | some xs, .int k => if -(2 ^ 63) ≤ k ∧ k < 2 ^ 63 ∧ xs.length * k.toNat ≤ sizeLine then some (.lst (List.replicate k.toNat xs).flatten) else none
  | _, _ => none
theorem opS_rep {K : Frag} : OpS K rRep gRep :=
  ⟨fun {φ h F H x y dx dy d Q} w rx ry e k => by
    unfold gRep at e
    split at e
    · rename_i xs n h1
      split at e
      · rename_i hz
        have := Option.some.inj e
        subst this
        obtain ⟨a, vs, rfl, ha, ra⟩ := listD_ok w rx h1
        rw [ry.int_inv]
        refine ⟨a, n, vs, rfl, rfl, ha, hz.1, hz.2.1, by rw [ra.length]; exact hz.2.2, fun p hp => ?_⟩
        obtain ⟨e1, r1⟩ := new_lst w hp (ra.rep n.toNat)
        exact k _ _ _ e1 r1
      · cases e
    · cases e⟩

/-! text * int -/
def strRep (x : Str) (n : Nat) : Str := ⟨(List.replicate n x.cps).foldl (· ++ ·) #[]⟩
theorem strRep_length (x : Str) (n : Nat) : (strRep x n).length = x.length * n := by
  have go : ∀ (n : Nat) (acc : Array Nat), ((List.replicate n x.cps).foldl (· ++ ·) acc).size = acc.size + x.cps.size * n := by
    intro n
    induction n with
    | zero => intro acc; simp
    | succ n ih =>
      intro acc
      rw [List.replicate_succ, List.foldl_cons, ih, Array.size_append, Nat.mul_succ]
      omega
  have := go n #[]
  simpa [strRep, Str.length] using this
def rRepS : R2 := fun x y H Q => ∃ z k, x = .str z ∧ y = .int k ∧ -(2 ^ 63) ≤ k ∧ k < 2 ^ 63 ∧ z.length * k.toNat ≤ sizeLine ∧ Q (.str (strRep z k.toNat)) H
theorem op_repS {X : Cx} : OpR X (binaryOp .Mult) rRepS := by
  intro pins s σ H x y v u Q I rx ry h
  obtain ⟨z, k, rfl, rfl, h1, h2, hz, q⟩ := h
  obtain ⟨t, rfl⟩ := rx
  obtain ⟨t', rfl⟩ := ry
  have hl : sizeLine = 16777216 := sizeLine_eq
  have hL : (z.length : Int) * k ≤ sizeLine ∨ k < 1 := by
    by_cases hk : k < 1
    · exact .inr hk
    · have hk2 : k = (k.toNat : Int) := by omega
      left
      rw [hk2]; exact_mod_cast hz
  refine PySem.P.mul_str (by rw [decide_eq_false (by omega), decide_eq_false (by omega)]; rfl) (fun hk h3 => ?_) (fun hk h3 => ?_) ?_
  · have hk1 : 0 < k := by omega
    have := Int.le_ediv_of_mul_le (a := (z.length : Int)) (b := 2 ^ 63 - 1) hk1 (by omega)
    omega
  · show decide (z.length * k.toNat > sizeLine) = false
    exact decide_eq_false (by omega)
  · have fold_nil : ∀ (n : Nat) (acc : Array Nat), (List.replicate n (#[] : Array Nat)).foldl (· ++ ·) acc = acc := by
      intro n
      induction n with
      | zero => intro acc; rfl
      | succ n ih => intro acc; rw [List.replicate_succ, List.foldl_cons, Array.append_empty]; exact ih acc
    by_cases hk : k < 1
    · rw [if_pos hk]
      have e0 : k.toNat = 0 := by omega
      refine ⟨by decide, .str (strRep z k.toNat), H, I.tok _, ⟨s.toks, ?_⟩, q⟩
      rw [e0]; rfl
    · rw [if_neg hk]
      by_cases h3 : (k == 1 || z.length == 0) = true
      · rw [if_pos h3]
        have e1 : strRep z k.toNat = z := by
          rcases Bool.or_eq_true_iff.mp h3 with h4 | h4
          · have e : k = 1 := by simpa using h4
            subst e
            show (⟨(List.replicate 1 z.cps).foldl (· ++ ·) #[]⟩ : Str) = z
            simp
          · have e : z.cps = #[] := by
              have : z.cps.size = 0 := by simpa [Str.length] using h4
              exact Array.eq_empty_of_size_eq_zero this
            unfold strRep
            rw [e, fold_nil]
            cases z; simp at e; subst e; rfl
        rw [e1] at q
        exact ⟨.str z, H, I, ⟨_, rfl⟩, q⟩
      · rw [if_neg h3]
        exact ⟨by have := strRep_length z k.toNat; unfold strRep at this; rw [this]; exact hz, .str (strRep z k.toNat), H, I.tok _, ⟨_, rfl⟩, q⟩
def gRepS : List Cell → D → D → Option D := fun _ x y => match x, y with
  | .str z, .int k => if -(2 ^ 63) ≤ k ∧ k < 2 ^ 63 ∧ z.length * k.toNat ≤ sizeLine then some (.str (strRep z k.toNat)) else none
  | _, _ => none
theorem opS_repS {K : Frag} : OpS K rRepS gRepS :=
  ⟨fun {φ h F H x y dx dy d Q} w rx ry e k => by
    unfold gRepS at e
    split at e
    · split at e
      · rename_i z n hz
        have := Option.some.inj e
        subst this
        rw [rx.str_inv, ry.int_inv]
        exact ⟨z, n, rfl, rfl, hz.1, hz.2.1, hz.2.2, k _ _ _ (Ext.refl w.sub) (.str _)⟩
      · cases e
    · cases e⟩

/-! ### comparisons -/
/-- the scalar of a datum -/
def scV : D → Option V
  | .non => some .non
  | .bl b => some (.bl b)
  | .int i => some (.int i)
  | .str x => some (.str x)
  | _ => none
theorem scV_ok {K : Frag} {F : Hp} {φ : List Addr} {v u : V} {d : D} (r : Rep K F φ v d) (e : scV d = some u) : v = u := by
  cases r <;> first | exact Option.some.inj e | cases e
/-- data as the library's plain data: no ref within -/
def pyD : D → Option PyData
  | .non => some .none
  | .bl b => some (.bool b)
  | .int i => some (.int i)
  | .str x => some (.str x)
  | .tup xs => (pyDs xs).map .tuple
  | .lst xs => (pyDs xs).map .list
  | _ => none
where pyDs : List D → Option (List PyData)
  | [] => some []
  | x :: xs => match pyD x, pyDs xs with
    | some a, some as => some (a :: as)
    | _, _ => none
mutual
theorem pyD_ok {K : Frag} {F H : Hp} {φ : List Addr} (k : ∀ a o, F a = some o → H a = some o) : ∀ {v : V} {d : D} {p : PyData}, Rep K F φ v d → pyD d = some p → Dp K H v p
  | _, _, _, .non, e => by cases Option.some.inj e; exact .non
  | _, _, _, .bl b, e => by cases Option.some.inj e; exact .bl b
  | _, _, _, .int b, e => by cases Option.some.inj e; exact .int b
  | _, _, _, .str b, e => by cases Option.some.inj e; exact .str b
  | _, _, p, .tup h t, e => by
    obtain ⟨ps, h1, h2⟩ := Option.map_eq_some_iff.mp (show (pyD.pyDs _).map PyData.tuple = some p from e)
    subst h2
    exact .tup (SqT.mono k h) (pyDs_ok k t h1)
  | _, _, p, .lst h t, e => by
    obtain ⟨ps, h1, h2⟩ := Option.map_eq_some_iff.mp (show (pyD.pyDs _).map PyData.list = some p from e)
    subst h2
    exact .lst (SqL.of (k _ _ h)) (pyDs_ok k t h1)
  | _, _, _, .ref _, e => by cases e
  | _, _, _, .scr _, e => by cases e
theorem pyDs_ok {K : Frag} {F H : Hp} {φ : List Addr} (k : ∀ a o, F a = some o → H a = some o) : ∀ {vs : List V} {ds : List D} {ps : List PyData}, Reps K F φ vs ds → pyD.pyDs ds = some ps → DpAll K H vs ps
  | _, _, _, .nil, e => by cases Option.some.inj e; exact .nil
  | _, _, ps, .cons (d := d) (ds := ds) r t, e => by
    have e' : (match pyD d, pyD.pyDs ds with | some a, some as => some (a :: as) | _, _ => none) = some ps := e
    cases h1 : pyD d with
    | none => rw [h1] at e'; cases e'
    | some a =>
      cases h2 : pyD.pyDs ds with
      | none => rw [h1, h2] at e'; cases e'
      | some as =>
        rw [h1, h2] at e'
        cases Option.some.inj e'
        exact .cons (pyD_ok k r h1) (pyDs_ok k t h2)
end
/-- a list of the frame's own, read by value -/
def shal (h : List Cell) : D → D
  | .ref n => (match h[n]? with
    | some (.lst xs) => .lst xs
    | _ => .ref n)
  | d => d
theorem shal_ok {K : Frag} {F H : Hp} {φ : List Addr} {h : List Cell} (w : Wd K φ h F H) {v : V} {d : D} {p : PyData} (r : Rep K F φ v d) (e : pyD (shal h d) = some p) : Dp K H v p := by
  cases r with
  | @ref a n q =>
    have e' : pyD (match h[n]? with | some (.lst xs) => .lst xs | _ => .ref n) = some p := e
    cases hc : h[n]? with
    | none => rw [hc] at e'; cases e'
    | some c =>
      cases c with
      | lst ys =>
        rw [hc] at e'
        obtain ⟨b, vs, h1, h2, h3⟩ := w.cell n ys hc
        rw [q] at h1; cases h1
        obtain ⟨ps, h4, h5⟩ := Option.map_eq_some_iff.mp (show (pyD.pyDs ys).map PyData.list = some p from e')
        subst h5
        exact .lst (SqL.of h2) (pyDs_ok w.sub h3 h4)
  | non => exact pyD_ok w.sub (φ := φ) .non e
  | bl b => exact pyD_ok w.sub (φ := φ) (.bl b) e
  | int b => exact pyD_ok w.sub (φ := φ) (.int b) e
  | str b => exact pyD_ok w.sub (φ := φ) (.str b) e
  | tup a b => exact pyD_ok w.sub (.tup a b) e
  | lst a b => exact pyD_ok w.sub (.lst a b) e
  | scr a => exact pyD_ok w.sub (φ := φ) (.scr a) e

/-- == -/
def eqD (h : List Cell) (x y : D) : Option Bool := match scV x, scV y with
  | some a, some b => if scal a b = true then some (decide (a = b)) else
      (match pyD (shal h x), pyD (shal h y) with
        | some p, some q => if SeqAt.shaped p = true ∧ SeqAt.shaped q = true then some (PyData.eqv p q) else none
        | _, _ => none)
  | _, _ => (match pyD (shal h x), pyD (shal h y) with
    | some p, some q => if SeqAt.shaped p = true ∧ SeqAt.shaped q = true then some (PyData.eqv p q) else none
    | _, _ => none)
def eqP (h : List Cell) (x y : D) : Option Bool := match pyD (shal h x), pyD (shal h y) with
  | some p, some q => if SeqAt.shaped p = true ∧ SeqAt.shaped q = true then some (PyData.eqv p q) else none
  | _, _ => none
theorem eqP_inv {h : List Cell} {x y : D} {b : Bool} (e : eqP h x y = some b) : ∃ p q, pyD (shal h x) = some p ∧ pyD (shal h y) = some q ∧ SeqAt.shaped p = true ∧ SeqAt.shaped q = true ∧ b = PyData.eqv p q := by
  unfold eqP at e
  split at e
  · rename_i p q h1 h2
    split at e
    · rename_i hs
      exact ⟨p, q, h1, h2, hs.1, hs.2, (Option.some.inj e).symm⟩
    · cases e
  · cases e
def gEq (neg : Bool) : List Cell → D → D → Option D := fun h x y => (eqD h x y).map fun b => .bl (if neg then !b else b)
theorem eqD_cases {h : List Cell} {x y : D} {b : Bool} (e : eqD h x y = some b) : (∃ u v, scV x = some u ∧ scV y = some v ∧ scal u v = true ∧ b = decide (u = v)) ∨ eqP h x y = some b := by
  unfold eqD at e
  split at e
  · rename_i u v h1 h2
    split at e
    · rename_i hs
      exact .inl ⟨u, v, h1, h2, hs, (Option.some.inj e).symm⟩
    · exact .inr e
  · exact .inr e
theorem opS_eq {K : Frag} : OpS K (fun x y H Q => rEq x y H Q ∨ rEqD K x y H Q) (gEq false) :=
  ⟨fun {φ h F H x y dx dy d Q} w rx ry e k => by
    obtain ⟨b, hb, rfl⟩ := Option.map_eq_some_iff.mp e
    have kk := k (.bl b) F H (Ext.refl w.sub) (.bl b)
    rcases eqD_cases hb with ⟨u, v, h1, h2, hs, rfl⟩ | hp
    · rw [scV_ok rx h1, scV_ok ry h2]
      exact .inl ⟨hs, kk⟩
    · obtain ⟨p, q, h1, h2, s1, s2, rfl⟩ := eqP_inv hp
      exact .inr ⟨p, q, shal_ok w rx h1, shal_ok w ry h2, s1, s2, kk⟩⟩
theorem opS_ne {K : Frag} : OpS K (fun x y H Q => rNe x y H Q ∨ rNeD K x y H Q) (gEq true) :=
  ⟨fun {φ h F H x y dx dy d Q} w rx ry e k => by
    obtain ⟨b, hb, rfl⟩ := Option.map_eq_some_iff.mp e
    have kk := k (.bl (!b)) F H (Ext.refl w.sub) (.bl (!b))
    rcases eqD_cases hb with ⟨u, v, h1, h2, hs, rfl⟩ | hp
    · rw [scV_ok rx h1, scV_ok ry h2]
      exact .inl ⟨hs, kk⟩
    · obtain ⟨p, q, h1, h2, s1, s2, rfl⟩ := eqP_inv hp
      exact .inr ⟨p, q, shal_ok w rx h1, shal_ok w ry h2, s1, s2, kk⟩⟩

/-! in -/
def scVs : List D → Option (List V)
  | [] => some []
  | x :: xs => match scV x, scVs xs with
    | some a, some as => some (a :: as)
    | _, _ => none
theorem scVs_ok {K : Frag} {F : Hp} {φ : List Addr} : ∀ {vs us : List V} {ds : List D}, Reps K F φ vs ds → scVs ds = some us → vs = us
  | _, _, _, .nil, e => by cases Option.some.inj e; rfl
  | _, us, _, .cons (d := d) (ds := ds) r t, e => by
    have e' : (match scV d, scVs ds with | some a, some as => some (a :: as) | _, _ => none) = some us := e
    cases h1 : scV d with
    | none => rw [h1] at e'; cases e'
    | some a =>
      cases h2 : scVs ds with
      | none => rw [h1, h2] at e'; cases e'
      | some as =>
        rw [h1, h2] at e'
        cases Option.some.inj e'
        rw [scV_ok r h1, scVs_ok t h2]
def inSeq (h : List Cell) (x y : D) : Option Bool := match scV x, seqD h y with
  | some a, some ys => (match scVs ys with
    | some us => if flatV a = true ∧ us.all flatV = true then some (inV a us) else none
    | none => none)
  | _, _ => none
theorem inSeq_inv {h : List Cell} {x y : D} {b : Bool} (e : inSeq h x y = some b) : ∃ a ys us, scV x = some a ∧ seqD h y = some ys ∧ scVs ys = some us ∧ flatV a = true ∧ us.all flatV = true ∧ b = inV a us := by
  unfold inSeq at e
  split at e
  · rename_i a ys h1 h2
    split at e
    · rename_i us h3
      split at e
      · rename_i hf
        exact ⟨a, ys, us, h1, h2, h3, hf.1, hf.2, (Option.some.inj e).symm⟩
      · cases e
    · cases e
  · cases e
def gInSeq (neg : Bool) : List Cell → D → D → Option D := fun h x y => (inSeq h x y).map fun b => .bl (if neg then !b else b)
theorem opS_inSeq {K : Frag} (neg : Bool) : OpS K (rIn K neg) (gInSeq neg) :=
  ⟨fun {φ h F H x y dx dy d Q} w rx ry e k => by
    obtain ⟨b, hb, rfl⟩ := Option.map_eq_some_iff.mp e
    obtain ⟨a, ys, us, h1, h2, h3, f1, f2, rfl⟩ := inSeq_inv hb
    obtain ⟨p, vs, rfl, hq, rr⟩ := seqD_ok w ry h2
    rw [scVs_ok rr h3] at hq
    rw [scV_ok rx h1]
    exact ⟨p, us, rfl, hq, f1, f2, k _ _ _ (Ext.refl w.sub) (by cases neg <;> exact .bl _)⟩⟩
def gInStr (neg : Bool) : List Cell → D → D → Option D := fun _ x y => match x, y with
  | .str i, .str j => some (.bl (if neg then !(!(Builtin.Str.occurrences j i 0 j.length 1).isEmpty) else !(Builtin.Str.occurrences j i 0 j.length 1).isEmpty))
  | _, _ => none
theorem gInStr_inv {neg : Bool} {h : List Cell} {x y d : D} (e : gInStr neg h x y = some d) : ∃ i j, x = .str i ∧ y = .str j ∧ d = .bl (if neg then !(!(Builtin.Str.occurrences j i 0 j.length 1).isEmpty) else !(Builtin.Str.occurrences j i 0 j.length 1).isEmpty) := by
  unfold gInStr at e
  split at e
  · exact ⟨_, _, rfl, rfl, (Option.some.inj e).symm⟩
  · cases e
theorem opS_inStr {K : Frag} : OpS K (fun x y H Q => ∃ i j, x = .str i ∧ y = .str j ∧ Q (.bl (!(Builtin.Str.occurrences j i 0 j.length 1).isEmpty)) H) (gInStr false) :=
  ⟨fun {φ h F H x y dx dy d Q} w rx ry e k => by
    obtain ⟨i, j, rfl, rfl, rfl⟩ := gInStr_inv e
    rw [rx.str_inv, ry.str_inv]
    exact ⟨i, j, rfl, rfl, k _ _ _ (Ext.refl w.sub) (.bl _)⟩⟩
theorem opS_notInStr {K : Frag} : OpS K (fun x y H Q => ∃ i j, x = .str i ∧ y = .str j ∧ Q (.bl (!(!(Builtin.Str.occurrences j i 0 j.length 1).isEmpty))) H) (gInStr true) :=
  ⟨fun {φ h F H x y dx dy d Q} w rx ry e k => by
    obtain ⟨i, j, rfl, rfl, rfl⟩ := gInStr_inv e
    rw [rx.str_inv, ry.str_inv]
    exact ⟨i, j, rfl, rfl, k _ _ _ (Ext.refl w.sub) (.bl _)⟩⟩
/-! is None -/
def isNon : D → Bool
  | .non => true
  | _ => false
theorem isNon_ok {K : Frag} {F : Hp} {φ : List Addr} {v : V} {d : D} (r : Rep K F φ v d) : decide (v = .non) = isNon d := by
  cases r <;> first | rfl | exact decide_eq_false (fun z => by cases z)
def gIs (neg : Bool) : List Cell → D → D → Option D := fun _ x y => match y with
  | .non => some (.bl (if neg then !isNon x else isNon x))
  | _ => none
theorem gIs_inv {neg : Bool} {h : List Cell} {x y d : D} (e : gIs neg h x y = some d) : y = .non ∧ d = .bl (if neg then !isNon x else isNon x) := by
  unfold gIs at e
  split at e
  · exact ⟨rfl, (Option.some.inj e).symm⟩
  · cases e
theorem opS_is {K : Frag} : OpS K (fun x y H Q => y = .non ∧ Q (.bl (decide (x = .non))) H) (gIs false) :=
  ⟨fun {φ h F H x y dx dy d Q} w rx ry e k => by
    obtain ⟨rfl, rfl⟩ := gIs_inv e
    rw [isNon_ok rx]
    exact ⟨ry.non_inv, k _ _ _ (Ext.refl w.sub) (.bl _)⟩⟩
theorem opS_isNot {K : Frag} : OpS K (fun x y H Q => y = .non ∧ Q (.bl (!decide (x = .non))) H) (gIs true) :=
  ⟨fun {φ h F H x y dx dy d Q} w rx ry e k => by
    obtain ⟨rfl, rfl⟩ := gIs_inv e
    rw [isNon_ok rx]
    exact ⟨ry.non_inv, k _ _ _ (Ext.refl w.sub) (.bl _)⟩⟩

/-! ### the operators of the text -/
def orG (g g' : List Cell → D → D → Option D) : List Cell → D → D → Option D := fun h x y => match g h x y with | some d => some d | none => g' h x y
def cMul (i j : Int) : Bool := (decide (-(2 ^ 64) < i) && decide (i < 2 ^ 64)) || (decide (-(2 ^ 64) < j) && decide (j < 2 ^ 64))
theorem cMul_ok {i j : Int} (h : cMul i j = true) : CMul i j := by
  unfold cMul at h
  rcases Bool.or_eq_true_iff.mp h with h | h
  · exact .inl ⟨of_decide_eq_true (Bool.and_eq_true_iff.mp h).1, of_decide_eq_true (Bool.and_eq_true_iff.mp h).2⟩
  · exact .inr ⟨of_decide_eq_true (Bool.and_eq_true_iff.mp h).1, of_decide_eq_true (Bool.and_eq_true_iff.mp h).2⟩
def cDiv (_ j : Int) : Bool := decide (0 < j) && decide (j < 1073741824)
theorem cDiv_ok {i j : Int} (h : cDiv i j = true) : CDiv i j := ⟨of_decide_eq_true (Bool.and_eq_true_iff.mp h).1, of_decide_eq_true (Bool.and_eq_true_iff.mp h).2⟩
def cPos (_ j : Int) : Bool := decide (0 < j)
def cPow (i j : Int) : Bool := decide (0 ≤ j) && (decide (j ≤ 1000000) && decide (i.natAbs < 2 ^ 64))
theorem cPow_ok {i j : Int} (h : cPow i j = true) : CPow i j := ⟨of_decide_eq_true (Bool.and_eq_true_iff.mp h).1, of_decide_eq_true (Bool.and_eq_true_iff.mp (Bool.and_eq_true_iff.mp h).2).1, of_decide_eq_true (Bool.and_eq_true_iff.mp (Bool.and_eq_true_iff.mp h).2).2⟩
def cNn (_ j : Int) : Bool := decide (0 ≤ j)
/-- what a two-place operator does -/
def binD : Operator → List Cell → D → D → Option D
  | .Add => orG (gI (fun _ _ => true) fun i j => .int (i + j)) (orG gAddS (orG gCat gCatT))
  | .Sub => gI (fun _ _ => true) fun i j => .int (i - j)
  | .Mult => orG (gI cMul fun i j => .int (i * j)) (orG gRep gRepS)
  | .FloorDiv => gI cDiv fun i j => .int (i / j)
  | .Mod => gI cPos fun i j => .int (i % j)
  | .Pow => gI cPow fun i j => .int (i ^ j.toNat)
  | .LShift => gI cPow fun i j => .int (i * 2 ^ j.toNat)
  | .RShift => gI cNn fun i j => .int (i / 2 ^ j.toNat)
  | .BitAnd => gI (fun _ _ => true) fun i j => .int (Builtin.bitAnd i j)
  | .BitOr => gI (fun _ _ => true) fun i j => .int (Builtin.bitOr i j)
  | .BitXor => gI (fun _ _ => true) fun i j => .int (Builtin.bitXor i j)
  | _ => fun _ _ _ => none
theorem binD_ok (X : Cx) : ∀ op : Operator, ∃ r, OpR X (binaryOp op) r ∧ OpS X.K r (binD op)
  | .Add => ⟨_, op_add.or (op_add_str.or (op_cat.or op_catA)), opS_I0.or (opS_addS.or (opS_cat.or opS_catT))⟩
  | .Sub => ⟨_, op_sub, opS_I0⟩
  | .Mult => ⟨_, op_mul.or (op_rep.or op_repS), (opS_I fun _ _ => cMul_ok).or (opS_rep.or opS_repS)⟩
  | .FloorDiv => ⟨_, op_fdiv, opS_I fun _ _ => cDiv_ok⟩
  | .Mod => ⟨_, op_mod, opS_I fun _ _ h => of_decide_eq_true h⟩
  | .Pow => ⟨_, op_pow, opS_I fun _ _ => cPow_ok⟩
  | .LShift => ⟨_, op_shl, opS_I fun _ _ => cPow_ok⟩
  | .RShift => ⟨_, op_shr, opS_I fun _ _ h => of_decide_eq_true h⟩
  | .BitAnd => ⟨_, op_and, opS_I0⟩
  | .BitOr => ⟨_, op_or, opS_I0⟩
  | .BitXor => ⟨_, op_xor, opS_I0⟩
  | .MatMult => ⟨fun _ _ _ _ => False, fun _ _ _ _ _ _ _ _ _ _ _ _ h => h.elim, ⟨fun _ _ _ e => by cases e⟩⟩
  | .Div => ⟨fun _ _ _ _ => False, fun _ _ _ _ _ _ _ _ _ _ _ _ h => h.elim, ⟨fun _ _ _ e => by cases e⟩⟩
/-- what a comparison does -/
def cmpD : CmpOp → List Cell → D → D → Option D
  | .Eq => gEq false
  | .NotEq => gEq true
  | .Lt => gI (fun _ _ => true) fun i j => .bl (decide (i < j))
  | .LtE => gI (fun _ _ => true) fun i j => .bl (decide (i ≤ j))
  | .Gt => gI (fun _ _ => true) fun i j => .bl (decide (j < i))
  | .GtE => gI (fun _ _ => true) fun i j => .bl (decide (j ≤ i))
  | .Is => gIs false
  | .IsNot => gIs true
  | .In => orG (gInSeq false) (gInStr false)
  | .NotIn => orG (gInSeq true) (gInStr true)
theorem cmpD_ok (X : Cx) (hu : X.A.units + 64 < cLine) : ∀ op : CmpOp, ∃ r, OpR X (compareOp op) r ∧ OpS X.K r (cmpD op)
  | .Eq => ⟨_, op_eq.or (op_eqD hu), opS_eq⟩
  | .NotEq => ⟨_, op_ne.or (op_neD hu), opS_ne⟩
  | .Lt => ⟨_, op_lt, opS_B0⟩
  | .LtE => ⟨_, op_le, opS_B0⟩
  | .Gt => ⟨_, op_gt, opS_B0⟩
  | .GtE => ⟨_, op_ge, opS_B0⟩
  | .Is => ⟨_, op_isN, opS_is⟩
  | .IsNot => ⟨_, op_notN, opS_isNot⟩
  | .In => ⟨_, op_in_seq.or op_in_str, (opS_inSeq false).or opS_inStr⟩
  | .NotIn => ⟨_, op_notIn_seq.or op_notIn_str, (opS_inSeq true).or opS_notInStr⟩
end DL

set_option Elab.async false
set_option linter.all false
set_option maxRecDepth 100000
/-! DLc: expressions: names, constants, operators, tests, displays, subscripts. -/
namespace DL
open PySem PySem.Spec PyProof.Rows L2

section
variable {K : Frag} {mg : Str → Option Value} {W : WX} {φ : List Addr} {h : List Cell} {F H : Hp} {σ : St} {ρ : Rho} {Q : VK}

/-- one part of an expression is read, the rest goes on -/
theorem tD_step {f : Sx} {k : D → Option Res} {r : Res} {Q' : VK} (w : Wd K φ h F H) (e : Env1 K F φ σ ρ) (hb : bnd (f ρ h) k = some r) (want : Want K mg W φ F H σ Q r)
    (go : ∀ d v F1 H1, Ext F H F1 H1 → Rep K F1 φ v d → k d = some r → Q' v H1) : tD K mg W f σ H Q' := by
  cases hf : f ρ h with
  | none => rw [hf] at hb; cases hb
  | some x =>
    rw [hf] at hb
    cases x with
    | ok d => exact ⟨φ, h, F, ρ, .ok d, w, e, hf, fun v F1 H1 ex rep => go d v F1 H1 ex rep hb⟩
    | exc c fs =>
      have hr : Res.exc c fs = r := Option.some.inj hb
      subst hr
      exact ⟨φ, h, F, ρ, .exc c fs, w, e, hf, want⟩
/-- a test is read -/
def bndB (x : Option Res) (k : Bool → Option Res) : Option Res := match x with
  | some (.ok (.bl b)) => k b
  | some (.exc c fs) => some (.exc c fs)
  | _ => none
@[simp] theorem bndB_bl {b : Bool} {k : Bool → Option Res} : bndB (some (.ok (.bl b))) k = k b := rfl
@[simp] theorem bndB_exc {c : Str} {fs : List (Str × D)} {k : Bool → Option Res} : bndB (some (.exc c fs)) k = some (.exc c fs) := rfl
@[simp] theorem bndB_none {k : Bool → Option Res} : bndB none k = none := rfl
theorem tT_step {f : Sx} {k : Bool → Option Res} {r : Res} {Q' : Bool → Hp → Prop} (w : Wd K φ h F H) (e : Env1 K F φ σ ρ) (hb : bndB (f ρ h) k = some r) (want : Want K mg W φ F H σ Q r)
    (go : ∀ b F1 H1, Ext F H F1 H1 → k b = some r → Q' b H1) : tT K mg W f σ H Q' := by
  cases hf : f ρ h with
  | none => rw [hf] at hb; cases hb
  | some x =>
    rw [hf] at hb
    cases x with
    | ok d =>
      cases d with
      | bl b => exact ⟨φ, h, F, ρ, .ok (.bl b), w, e, hf, fun F1 H1 ex => go b F1 H1 ex hb⟩
      | _ => cases hb
    | exc c fs =>
      have hr : Res.exc c fs = r := Option.some.inj hb
      subst hr
      exact ⟨φ, h, F, ρ, .exc c fs, w, e, hf, want⟩
/-- a test's end -/
def WantB (K : Frag) (mg : Str → Option Value) (W : WX) (φ : List Addr) (F H : Hp) (σ : St) (Q : Bool → Hp → Prop) : Res → Prop
  | .ok (.bl b) => ∀ F' H', Ext F H F' H' → Q b H'
  | .ok _ => False
  | .exc c fs => Want K mg W φ F H σ (fun _ _ => False) (.exc c fs)
theorem WantB.ext {F' H' : Hp} {Q : Bool → Hp → Prop} (e : Ext F H F' H') : ∀ {r : Res}, WantB K mg W φ F H σ Q r → WantB K mg W φ F' H' σ Q r
  | .ok (.bl _), w => fun F2 H2 e2 => w F2 H2 (e.trans e2)
  | .exc _ _, w => fun c d F2 H2 e2 r => w c d F2 H2 (e.trans e2) r
  | .ok .non, w => w.elim
  | .ok (.int _), w => w.elim
  | .ok (.str _), w => w.elim
  | .ok (.tup _), w => w.elim
  | .ok (.lst _), w => w.elim
  | .ok (.ref _), w => w.elim
  | .ok (.scr _), w => w.elim
  | .ok (.dct _), w => w.elim
  | .ok (.obj _ _), w => w.elim
theorem tT_iff {f : Sx} {Q : Bool → Hp → Prop} : tT K mg W f σ H Q ↔ ∃ φ h F ρ r, Wd K φ h F H ∧ Env1 K F φ σ ρ ∧ f ρ h = some r ∧ WantB K mg W φ F H σ Q r := by
  constructor
  · rintro ⟨φ, h, F, ρ, r, w, e, hf, q⟩
    refine ⟨φ, h, F, ρ, r, w, e, hf, ?_⟩
    cases r with
    | ok d => cases d <;> exact q
    | exc c fs => exact q
  · rintro ⟨φ, h, F, ρ, r, w, e, hf, q⟩
    refine ⟨φ, h, F, ρ, r, w, e, hf, ?_⟩
    cases r with
    | ok d => cases d <;> exact q
    | exc c fs => exact q
theorem tD_stepB {f : Sx} {k : D → Option Res} {r : Res} {Q : Bool → Hp → Prop} {Q' : VK} (w : Wd K φ h F H) (e : Env1 K F φ σ ρ) (hb : bnd (f ρ h) k = some r) (want : WantB K mg W φ F H σ Q r)
    (go : ∀ d v F1 H1, Ext F H F1 H1 → Rep K F1 φ v d → k d = some r → Q' v H1) : tD K mg W f σ H Q' := by
  cases hf : f ρ h with
  | none => rw [hf] at hb; cases hb
  | some x =>
    rw [hf] at hb
    cases x with
    | ok d => exact ⟨φ, h, F, ρ, .ok d, w, e, hf, fun v F1 H1 ex rep => go d v F1 H1 ex rep hb⟩
    | exc c fs =>
      have hr : Res.exc c fs = r := Option.some.inj hb
      subst hr
      exact ⟨φ, h, F, ρ, .exc c fs, w, e, hf, want⟩
theorem tT_stepB {f : Sx} {k : Bool → Option Res} {r : Res} {Q Q' : Bool → Hp → Prop} (w : Wd K φ h F H) (e : Env1 K F φ σ ρ) (hb : bndB (f ρ h) k = some r) (want : WantB K mg W φ F H σ Q r)
    (go : ∀ b F1 H1, Ext F H F1 H1 → k b = some r → Q' b H1) : tT K mg W f σ H Q' := by
  cases hf : f ρ h with
  | none => rw [hf] at hb; cases hb
  | some x =>
    rw [hf] at hb
    cases x with
    | ok d =>
      cases d with
      | bl b => exact ⟨φ, h, F, ρ, .ok (.bl b), w, e, hf, fun F1 H1 ex => go b F1 H1 ex hb⟩
      | _ => cases hb
    | exc c fs =>
      have hr : Res.exc c fs = r := Option.some.inj hb
      subst hr
      exact ⟨φ, h, F, ρ, .exc c fs, w, e, hf, want⟩
theorem vok_inv {x : Option D} {r : Res} (e : vok x = some r) : ∃ d, x = some d ∧ r = .ok d := by
  cases x with
  | none => cases e
  | some d => exact ⟨d, rfl, (Option.some.inj e).symm⟩
/-- operators -/
theorem tOp_of {r : R2} {g : List Cell → D → D → Option D} {fa fb : Sx} (hs : OpS K r g) (q : tD K mg W (fun ρ h => bnd (fa ρ h) fun x => bnd (fb ρ h) fun y => vok (g h x y)) σ H Q) : tOp r (tD K mg W fa) (tD K mg W fb) σ H Q := by
  obtain ⟨φ, h, F, ρ, res, w, e, hf, want⟩ := q
  refine tD_step w e hf want fun dx x F1 H1 e1 rx hf1 => ?_
  refine tD_step (w.ext e1) (e.up e1.up) hf1 (want.ext e1) fun dy y F2 H2 e2 ry hf2 => ?_
  obtain ⟨d, hd, hr⟩ := vok_inv hf2
  subst hr
  exact hs.go ((w.ext e1).ext e2) (rx.up e2.up) ry hd (want.ext (e1.trans e2))

/-! ### truth -/
def truD (h : List Cell) : D → Option Bool
  | .non => some false
  | .bl b => some b
  | .int i => some (i != 0)
  | .str x => if x.length ≤ sizeLine then some ((x.length : Int) != 0) else none
  | .tup xs => some (!xs.isEmpty)
  | .scr ns => some (!ns.isEmpty)
  | d => (listD h d).map fun xs => !xs.isEmpty
theorem truD_ok (w : Wd K φ h F H) {v : V} {d : D} {k : Bool} (r : Rep K F φ v d) (e : truD h d = some k) : TruV K v H k := by
  have viaList : ∀ {d : D}, Rep K F φ v d → (listD h d).map (fun xs => !xs.isEmpty) = some k → TruV K v H k := fun {d} r e => by
    obtain ⟨xs, h1, h2⟩ := Option.map_eq_some_iff.mp e
    obtain ⟨a, vs, rfl, ha, rr⟩ := listD_ok w r h1
    subst h2
    exact .inl ⟨vs, SqL.of ha, by rw [rr.isEmpty]⟩
  cases r with
  | non => exact (Option.some.inj e).symm
  | bl b => exact (Option.some.inj e).symm
  | int i => exact (Option.some.inj e).symm
  | str x =>
    have e' : (if x.length ≤ sizeLine then some ((x.length : Int) != 0) else none) = some k := e
    split at e'
    · rename_i hz
      exact ⟨hz, (Option.some.inj e').symm⟩
    · cases e'
  | @tup a vs ds q t =>
    have : (!ds.isEmpty) = k := Option.some.inj e
    subst this
    exact .inr (.inl ⟨vs, SqT.mono w.sub q, by rw [t.isEmpty]⟩)
  | lst q t => exact viaList (.lst q t) e
  | ref q => exact viaList (.ref q) e
  | @scr a ns q =>
    have : (!ns.isEmpty) = k := Option.some.inj e
    subst this
    exact .inl ⟨_, SqL.mono w.sub q, by rw [List.isEmpty_map]⟩
end

/-! ### the rules -/
section
variable {X : Cx} {W : WX} {pos : Pos}
/-- a name's datum -/
def sVar (i : Nat) : Sx := fun ρ _ => match ρ[i]? with
  | some (some d) => some (.ok d)
  | _ => none
def sCst (d : D) : Sx := fun _ _ => some (.ok d)
theorem de_var {i : Nat} {x : Str} (hN : X.N[i]? = some x) (hv : Vis X.env.scope x) (hd : (x == ("__debug__" : Str)) = false) (hcd : (x == ("__classdict__" : Str)) = false) : PE X (.Name x pos) (tD X.K X.mg W (sVar i)) := by
  refine (pe_var hN hv hd hcd).weak fun σ H Q q => ?_
  obtain ⟨φ, h, F, ρ, r, w, e, hf, want⟩ := q
  unfold sVar at hf
  split at hf
  · rename_i d hd
    have hr := Option.some.inj hf
    subst hr
    obtain ⟨v, h1, h2⟩ := e.at_ i d hd
    exact ⟨v, h1, want v F H (Ext.refl w.sub) h2⟩
  · cases hf
theorem tC_of {v : V} {d : D} {σ : St} {H : Hp} {Q : VK} (r : ∀ F φ, Rep X.K F φ v d) (q : tD X.K X.mg W (sCst d) σ H Q) : tC v σ H Q := by
  obtain ⟨φ, h, F, ρ, res, w, e, hf, want⟩ := q
  have hr := Option.some.inj hf
  subst hr
  exact want v F H (Ext.refl w.sub) (r F φ)
theorem de_int {i : Int} {j : Nat} : PE X (.Constant (.int i) j pos) (tD X.K X.mg W (sCst (.int i))) := pe_int.weak fun σ H Q => tC_of fun _ _ => .int i
theorem de_bl {i : Bool} {j : Nat} : PE X (.Constant (.bool i) j pos) (tD X.K X.mg W (sCst (.bl i))) := pe_bl.weak fun σ H Q => tC_of fun _ _ => .bl i
theorem de_non {j : Nat} : PE X (.Constant .none j pos) (tD X.K X.mg W (sCst .non)) := pe_non.weak fun σ H Q => tC_of fun _ _ => .non
theorem de_str {x : Str} {j : Nat} : PE X (.Constant (.str x) j pos) (tD X.K X.mg W (sCst (.str x))) := pe_str.weak fun σ H Q => tC_of fun _ _ => .str x
/-- a module's constant -/
theorem de_glob {x : Str} {v : V} {u : Value} {d : D} (hg : Gl X x) (hm : X.mg x = some u) (rv : RelV v u) (r : ∀ F φ, Rep X.K F φ v d) (hd : (x == ("__debug__" : Str)) = false) : PE X (.Name x pos) (tD X.K X.mg W (sCst d)) :=
  (pe_glob hg hm rv hd).weak fun σ H Q => tC_of r

variable {a b c : Expr} {fa fb fc : Sx}
def sBin (op : Operator) (fa fb : Sx) : Sx := fun ρ h => bnd (fa ρ h) fun x => bnd (fb ρ h) fun y => vok (binD op h x y)
theorem de_bin {op : Operator} (ha : PE X a (tD X.K X.mg W fa)) (hb : PE X b (tD X.K X.mg W fb)) : PE X (.BinOp a op b pos) (tD X.K X.mg W (sBin op fa fb)) := by
  obtain ⟨r, ho, hs⟩ := binD_ok X op
  exact (pe_op ho ha hb).weak fun σ H Q => tOp_of hs
def sCmp (op : CmpOp) (fa fb : Sx) : Sx := fun ρ h => bnd (fa ρ h) fun x => bnd (fb ρ h) fun y => vok (cmpD op h x y)
theorem de_cmp {op : CmpOp} (hu : X.A.units + 64 < cLine) (ha : PE X a (tD X.K X.mg W fa)) (hb : PE X b (tD X.K X.mg W fb)) (hs : noSetE b = true) : PE X (.Compare a [op] [b] pos) (tD X.K X.mg W (sCmp op fa fb)) := by
  obtain ⟨r, ho, hr⟩ := cmpD_ok X hu op
  exact (pe_cmpR ho ha hb (behind_of hs)).weak fun σ H Q => tOp_of hr
/-- an operation that gives a bool, as a test -/
theorem tTest_of {t : TE} {f : Sx} {σ : St} {H : Hp} {Q : Bool → Hp → Prop} (k : ∀ σ H Q, tD X.K X.mg W f σ H Q → t σ H Q) (q : tT X.K X.mg W f σ H Q) : tTest t σ H Q := by
  obtain ⟨φ, h, F, ρ, r, w, e, hf, want⟩ := tT_iff.mp q
  refine k σ H _ ⟨φ, h, F, ρ, r, w, e, hf, ?_⟩
  cases r with
  | ok d =>
    cases d with
    | bl b => exact fun v F1 H1 e1 rv => ⟨b, rv.bl_inv, want F1 H1 e1⟩
    | _ => exact want.elim
  | exc c fs => exact want
theorem dt_cmp {op : CmpOp} (hu : X.A.units + 64 < cLine) (ha : PE X a (tD X.K X.mg W fa)) (hb : PE X b (tD X.K X.mg W fb)) (hs : noSetE b = true) : PT X (.Compare a [op] [b] pos) (tT X.K X.mg W (sCmp op fa fb)) := by
  obtain ⟨r, ho, hr⟩ := cmpD_ok X hu op
  exact (pt_cmpR ho ha hb (behind_of hs)).weak fun σ H Q => tTest_of fun σ H Q => tOp_of hr
/-- a op b op' c -/
def sChain (op op' : CmpOp) (fa fb fc : Sx) : Sx := fun ρ h => bnd (fa ρ h) fun x => bnd (fb ρ h) fun y => bndB (vok (cmpD op h x y)) fun k => if k = true then bnd (fc ρ h) fun z => vok (cmpD op' h y z) else some (.ok (.bl false))
theorem bndB_inv {x : Option Res} {k : Bool → Option Res} {r : Res} {d : D} (e : bndB x k = some r) (hx : x = some (.ok d)) : ∃ b, d = .bl b ∧ k b = some r := by
  subst hx
  cases d with
  | bl b => exact ⟨b, rfl, e⟩
  | _ => cases e
theorem tChain_of {r r' : R2} {op op' : CmpOp} {σ : St} {H : Hp} {Q : VK} (hr : OpS X.K r (cmpD op)) (hr' : OpS X.K r' (cmpD op')) (q : tD X.K X.mg W (sChain op op' fa fb fc) σ H Q) : tChain r r' (tD X.K X.mg W fa) (tD X.K X.mg W fb) (tD X.K X.mg W fc) σ H Q := by
  obtain ⟨φ, h, F, ρ, res, w, e, hf, want⟩ := q
  refine tD_step w e hf want fun dx x F1 H1 e1 rx hf1 => ?_
  refine tD_step (w.ext e1) (e.up e1.up) hf1 (want.ext e1) fun dy y F2 H2 e2 ry hf2 => ?_
  have w2 := (w.ext e1).ext e2
  cases hc : cmpD op h dx dy with
  | none => rw [hc] at hf2; cases hf2
  | some dk =>
    rw [hc] at hf2
    obtain ⟨k, rfl, hk⟩ := bndB_inv hf2 rfl
    refine hr.go w2 (rx.up e2.up) ry hc fun v F3 H3 e3 rv => ⟨k, rv.bl_inv, ?_⟩
    have e123 := (e1.trans e2).trans e3
    cases k with
    | false =>
      have hres : Res.ok (.bl false) = res := Option.some.inj hk
      subst hres
      rw [if_neg Bool.false_ne_true]
      exact want _ F3 H3 e123 (.bl false)
    | true =>
      rw [if_pos rfl] at hk ⊢
      refine tD_step (w2.ext e3) (e.up e123.up) hk (want.ext e123) fun dz z F4 H4 e4 rz hf4 => ?_
      obtain ⟨d, hd, hres⟩ := vok_inv hf4
      subst hres
      exact hr'.go ((w2.ext e3).ext e4) ((ry.up e3.up).up e4.up) rz hd (want.ext (e123.trans e4))
theorem lastMarks_of {op op' : CmpOp} (hs : noSetE c = true) : lastMarks [op, op'] [b, c] = false := behind_of hs
theorem de_chain {op op' : CmpOp} (hu : X.A.units + 64 < cLine) (ha : PE X a (tD X.K X.mg W fa)) (hb : PE X b (tD X.K X.mg W fb)) (hc : PE X c (tD X.K X.mg W fc)) (hs : noSetE c = true) :
    PE X (.Compare a [op, op'] [b, c] pos) (tD X.K X.mg W (sChain op op' fa fb fc)) := by
  obtain ⟨r, ho, hr⟩ := cmpD_ok X hu op
  obtain ⟨r', ho', hr'⟩ := cmpD_ok X hu op'
  exact (pe_chain ho ho' ha hb hc (lastMarks_of hs)).weak fun σ H Q => tChain_of hr hr'
theorem dt_chain {op op' : CmpOp} (hu : X.A.units + 64 < cLine) (ha : PE X a (tD X.K X.mg W fa)) (hb : PE X b (tD X.K X.mg W fb)) (hc : PE X c (tD X.K X.mg W fc)) (hs : noSetE c = true) :
    PT X (.Compare a [op, op'] [b, c] pos) (tT X.K X.mg W (sChain op op' fa fb fc)) := by
  obtain ⟨r, ho, hr⟩ := cmpD_ok X hu op
  obtain ⟨r', ho', hr'⟩ := cmpD_ok X hu op'
  exact (pt_chain ho ho' ha hb hc (lastMarks_of hs)).weak fun σ H Q => tTest_of fun σ H Q => tChain_of hr hr'
/-- a value's truth as a test -/
def sTru (fa : Sx) : Sx := fun ρ h => bnd (fa ρ h) fun x => vok ((truD h x).map .bl)
theorem dt_tru (ha : PE X a (tD X.K X.mg W fa)) (hp : plainTest a = true) : PT X a (tT X.K X.mg W (sTru fa)) := by
  refine (pt_truth ha (isTrue_of hp)).weak fun σ H Q q => ?_
  obtain ⟨φ, h, F, ρ, r, w, e, hf, want⟩ := tT_iff.mp q
  refine tD_stepB w e hf want fun d v F1 H1 e1 rv hk => ?_
  obtain ⟨d', hd, hr⟩ := vok_inv hk
  subst hr
  obtain ⟨k, hk1, rfl⟩ := Option.map_eq_some_iff.mp hd
  exact ⟨k, truD_ok (w.ext e1) rv hk1, want F1 H1 e1⟩
/-! not, and, or -/
def sNot (f : Sx) : Sx := fun ρ h => bndB (f ρ h) fun b => some (.ok (.bl (!b)))
theorem dt_not (ha : PT X a (tT X.K X.mg W fa)) : PT X (.UnaryOp .Not a pos) (tT X.K X.mg W (sNot fa)) := by
  refine (pt_not ha).weak fun σ H Q q => ?_
  obtain ⟨φ, h, F, ρ, r, w, e, hf, want⟩ := tT_iff.mp q
  refine tT_stepB w e hf want fun b F1 H1 e1 hk => ?_
  have hr : Res.ok (.bl (!b)) = r := Option.some.inj hk
  subst hr
  exact want F1 H1 e1
theorem de_not (ha : PE X a (tD X.K X.mg W fa)) : PE X (.UnaryOp .Not a pos) (tD X.K X.mg W (sNot (sTru fa))) := by
  refine (pe_notT ha).weak fun σ H Q q => ?_
  obtain ⟨φ, h, F, ρ, r, w, e, hf, want⟩ := q
  have hf' : bnd (fa ρ h) (fun x => bndB (vok ((truD h x).map .bl)) fun b => some (.ok (.bl (!b)))) = some r := by
    unfold sNot sTru at hf
    cases q : fa ρ h with
    | none => rw [q] at hf; cases hf
    | some x =>
      rw [q] at hf
      cases x with
      | ok d => exact hf
      | exc c fs => exact hf
  refine tD_step w e hf' want fun d v F1 H1 e1 rv hk => ?_
  cases ht : truD h d with
  | none => rw [ht] at hk; cases hk
  | some k =>
    rw [ht] at hk
    have hr : Res.ok (.bl (!k)) = r := Option.some.inj hk
    subst hr
    exact ⟨k, truD_ok (w.ext e1) rv ht, want _ F1 H1 e1 (.bl _)⟩
def sAnd (f g : Sx) : Sx := fun ρ h => bndB (f ρ h) fun b => if b = true then g ρ h else some (.ok (.bl false))
def sOr (f g : Sx) : Sx := fun ρ h => bndB (f ρ h) fun b => if b = true then some (.ok (.bl true)) else g ρ h
variable {rest : List Expr}
theorem dw_and1 (ha : PT X a (tT X.K X.mg W fa)) : PW X (.BoolOp .And [a] pos) (tT X.K X.mg W fa) := pw_and1 ha
theorem dw_or1 (ha : PT X a (tT X.K X.mg W fa)) : PW X (.BoolOp .Or [a] pos) (tT X.K X.mg W fa) := pw_or1 ha
theorem dw_and (ha : PT X a (tT X.K X.mg W fa)) (hb : PW X (.BoolOp .And (b :: rest) pos) (tT X.K X.mg W fb)) : PW X (.BoolOp .And (a :: b :: rest) pos) (tT X.K X.mg W (sAnd fa fb)) := by
  refine (pw_and ha hb).weak fun σ H Q q => ?_
  obtain ⟨φ, h, F, ρ, r, w, e, hf, want⟩ := tT_iff.mp q
  refine tT_stepB w e hf want fun k F1 H1 e1 hk => ?_
  cases k with
  | true =>
    rw [if_pos rfl] at hk ⊢
    exact tT_iff.mpr ⟨φ, h, F1, ρ, r, w.ext e1, e.up e1.up, hk, want.ext e1⟩
  | false =>
    have hr : Res.ok (.bl false) = r := Option.some.inj hk
    subst hr
    exact want F1 H1 e1
theorem dw_or (ha : PT X a (tT X.K X.mg W fa)) (hb : PW X (.BoolOp .Or (b :: rest) pos) (tT X.K X.mg W fb)) : PW X (.BoolOp .Or (a :: b :: rest) pos) (tT X.K X.mg W (sOr fa fb)) := by
  refine (pw_or ha hb).weak fun σ H Q q => ?_
  obtain ⟨φ, h, F, ρ, r, w, e, hf, want⟩ := tT_iff.mp q
  refine tT_stepB w e hf want fun k F1 H1 e1 hk => ?_
  cases k with
  | false =>
    rw [if_neg Bool.false_ne_true] at hk ⊢
    exact tT_iff.mpr ⟨φ, h, F1, ρ, r, w.ext e1, e.up e1.up, hk, want.ext e1⟩
  | true =>
    have hr : Res.ok (.bl true) = r := Option.some.inj hk
    subst hr
    exact want F1 H1 e1
/-! .. as values -/
def sAndV (f g : Sx) : Sx := fun ρ h => bnd (f ρ h) fun x => match truD h x with
  | some true => g ρ h
  | some false => some (.ok x)
  | none => none
def sOrV (f g : Sx) : Sx := fun ρ h => bnd (f ρ h) fun x => match truD h x with
  | some true => some (.ok x)
  | some false => g ρ h
  | none => none
theorem de_one {op : BoolOp} (ha : PE X a (tD X.K X.mg W fa)) : PE X (.BoolOp op [a] pos) (tD X.K X.mg W fa) := pe_one ha
theorem de_and (ha : PE X a (tD X.K X.mg W fa)) (hb : PE X (.BoolOp .And (b :: rest) pos) (tD X.K X.mg W fb)) : PE X (.BoolOp .And (a :: b :: rest) pos) (tD X.K X.mg W (sAndV fa fb)) := by
  refine (pe_andT ha hb).weak fun σ H Q q => ?_
  obtain ⟨φ, h, F, ρ, r, w, e, hf, want⟩ := q
  refine tD_step w e hf want fun d v F1 H1 e1 rv hk => ?_
  cases ht : truD h d with
  | none => rw [ht] at hk; cases hk
  | some k =>
    rw [ht] at hk
    refine ⟨k, truD_ok (w.ext e1) rv ht, ?_⟩
    cases k with
    | true =>
      rw [if_pos rfl]
      exact ⟨φ, h, F1, ρ, r, w.ext e1, e.up e1.up, hk, want.ext e1⟩
    | false =>
      rw [if_neg Bool.false_ne_true]
      have hr : Res.ok d = r := Option.some.inj hk
      subst hr
      exact want v F1 H1 e1 rv
theorem de_or (ha : PE X a (tD X.K X.mg W fa)) (hb : PE X (.BoolOp .Or (b :: rest) pos) (tD X.K X.mg W fb)) : PE X (.BoolOp .Or (a :: b :: rest) pos) (tD X.K X.mg W (sOrV fa fb)) := by
  refine (pe_orT ha hb).weak fun σ H Q q => ?_
  obtain ⟨φ, h, F, ρ, r, w, e, hf, want⟩ := q
  refine tD_step w e hf want fun d v F1 H1 e1 rv hk => ?_
  cases ht : truD h d with
  | none => rw [ht] at hk; cases hk
  | some k =>
    rw [ht] at hk
    refine ⟨k, truD_ok (w.ext e1) rv ht, ?_⟩
    cases k with
    | false =>
      rw [if_neg Bool.false_ne_true]
      exact ⟨φ, h, F1, ρ, r, w.ext e1, e.up e1.up, hk, want.ext e1⟩
    | true =>
      rw [if_pos rfl]
      have hr : Res.ok d = r := Option.some.inj hk
      subst hr
      exact want v F1 H1 e1 rv
/-- a if t else b -/
def sIf (t f g : Sx) : Sx := fun ρ h => bndB (t ρ h) fun b => if b = true then f ρ h else g ρ h
theorem de_if (hc : PT X c (tT X.K X.mg W fc)) (ha : PE X a (tD X.K X.mg W fa)) (hb : PE X b (tD X.K X.mg W fb)) : PE X (.IfExp c a b pos) (tD X.K X.mg W (sIf fc fa fb)) := by
  refine (pe_ifExp hc ha hb).weak fun σ H Q q => ?_
  obtain ⟨φ, h, F, ρ, r, w, e, hf, want⟩ := q
  refine tT_step w e hf want fun k F1 H1 e1 hk => ?_
  cases k with
  | true =>
    rw [if_pos rfl] at hk ⊢
    exact ⟨φ, h, F1, ρ, r, w.ext e1, e.up e1.up, hk, want.ext e1⟩
  | false =>
    rw [if_neg Bool.false_ne_true] at hk ⊢
    exact ⟨φ, h, F1, ρ, r, w.ext e1, e.up e1.up, hk, want.ext e1⟩
/-- -a, ~a -/
def unD : UnaryOp → D → Option D
  | .USub, .int i => some (.int (-i))
  | .Invert, .int i => some (.int (Builtin.bitNot i))
  | _, _ => none
def sUn (op : UnaryOp) (fa : Sx) : Sx := fun ρ h => bnd (fa ρ h) fun x => vok (unD op x)
theorem de_neg (ha : PE X a (tD X.K X.mg W fa)) : PE X (.UnaryOp .USub a pos) (tD X.K X.mg W (sUn .USub fa)) := by
  refine (pe_un un_neg ha).weak fun σ H Q q => ?_
  obtain ⟨φ, h, F, ρ, r, w, e, hf, want⟩ := q
  refine tD_step w e hf want fun d v F1 H1 e1 rv hk => ?_
  obtain ⟨d', hd, hr⟩ := vok_inv hk
  subst hr
  cases d with
  | int i =>
    have := Option.some.inj hd
    subst this
    exact ⟨i, rv.int_inv, want _ F1 H1 e1 (.int _)⟩
  | _ => cases hd
end
end DL

set_option Elab.async false
set_option linter.all false
set_option maxRecDepth 100000
/-! DLd: argument lists, displays, subscripts, slices, built-ins by name. -/
namespace DL
open PySem PySem.Spec PyProof.Rows L2

inductive ResL where
  | ok (ds : List D)
  | exc (c : Str) (fs : List (Str × D))
abbrev Lx := Rho → List Cell → Option ResL
def bndL (x : Option ResL) (k : List D → Option Res) : Option Res := match x with
  | some (.ok d) => k d
  | some (.exc c fs) => some (.exc c fs)
  | none => none
@[simp] theorem bndL_ok {d : List D} {k : List D → Option Res} : bndL (some (.ok d)) k = k d := rfl
@[simp] theorem bndL_exc {c : Str} {fs : List (Str × D)} {k : List D → Option Res} : bndL (some (.exc c fs)) k = some (.exc c fs) := rfl
@[simp] theorem bndL_none {k : List D → Option Res} : bndL none k = none := rfl
/-- one after another -/
def sNil : Lx := fun _ _ => some (.ok [])
def consL (x : Option Res) (r : Option ResL) : Option ResL := match x with
  | some (.ok d) => (match r with
    | some (.ok ds) => some (.ok (d :: ds))
    | some (.exc c fs) => some (.exc c fs)
    | none => none)
  | some (.exc c fs) => some (.exc c fs)
  | none => none
def appL (x : Option Res) (h : List Cell) (r : Option ResL) : Option ResL := match x with
  | some (.ok d) => (match seqD h d, r with
    | some xs, some (.ok ds) => some (.ok (xs ++ ds))
    | some _, some (.exc c fs) => some (.exc c fs)
    | _, _ => none)
  | some (.exc c fs) => some (.exc c fs)
  | none => none
def sCons (f : Sx) (g : Lx) : Lx := fun ρ h => consL (f ρ h) (g ρ h)
def sStar (f : Sx) (g : Lx) : Lx := fun ρ h => appL (f ρ h) h (g ρ h)

section
variable {K : Frag} {mg : Str → Option Value} {W : WX} {φ : List Addr} {h : List Cell} {F H : Hp} {σ : St} {ρ : Rho}
def WantL (K : Frag) (mg : Str → Option Value) (W : WX) (φ : List Addr) (F H : Hp) (σ : St) (Q : List V → Hp → Prop) : ResL → Prop
  | .ok ds => ∀ vs F' H', Ext F H F' H' → Reps K F' φ vs ds → Q vs H'
  | .exc c fs => Want K mg W φ F H σ (fun _ _ => False) (.exc c fs)
theorem WantL.ext {F' H' : Hp} {Q : List V → Hp → Prop} (e : Ext F H F' H') : ∀ {r : ResL}, WantL K mg W φ F H σ Q r → WantL K mg W φ F' H' σ Q r
  | .ok _, w => fun v F2 H2 e2 r => w v F2 H2 (e.trans e2) r
  | .exc _ _, w => fun c d F2 H2 e2 r => w c d F2 H2 (e.trans e2) r
def tA (K : Frag) (mg : Str → Option Value) (W : WX) (f : Lx) : TA := fun σ H Q => ∃ φ h F ρ r, Wd K φ h F H ∧ Env1 K F φ σ ρ ∧ f ρ h = some r ∧ WantL K mg W φ F H σ Q r
theorem tA_step {f : Lx} {k : List D → Option Res} {r : Res} {Q : VK} {Q' : List V → Hp → Prop} (w : Wd K φ h F H) (e : Env1 K F φ σ ρ) (hb : bndL (f ρ h) k = some r) (want : Want K mg W φ F H σ Q r)
    (go : ∀ ds vs F1 H1, Ext F H F1 H1 → Reps K F1 φ vs ds → k ds = some r → Q' vs H1) : tA K mg W f σ H Q' := by
  cases hf : f ρ h with
  | none => rw [hf] at hb; cases hb
  | some x =>
    rw [hf] at hb
    cases x with
    | ok d => exact ⟨φ, h, F, ρ, .ok d, w, e, hf, fun v F1 H1 ex rep => go d v F1 H1 ex rep hb⟩
    | exc c fs =>
      have hr : Res.exc c fs = r := Option.some.inj hb
      subst hr
      exact ⟨φ, h, F, ρ, .exc c fs, w, e, hf, want⟩
theorem _root_.L2.PA.weak {X : Cx} {es : List Expr} {t t' : TA} (p : PA X es t) (k : ∀ σ H Q, t' σ H Q → t σ H Q) : PA X es t' := ⟨fun pos pins s σ H Q I q => p.run pos pins s σ H Q I (k σ H Q q)⟩
end

section
variable {X : Cx} {W : WX} {pos : Pos} {e : Expr} {es : List Expr} {f : Sx} {g : Lx}
theorem da_nil : PA X [] (tA X.K X.mg W sNil) := by
  refine pa_nil.weak fun σ H Q q => ?_
  obtain ⟨φ, h, F, ρ, r, w, en, hf, want⟩ := q
  have hr : ResL.ok [] = r := Option.some.inj hf
  subst hr
  exact want [] F H (Ext.refl w.sub) .nil
theorem da_cons (ha : PE X e (tD X.K X.mg W f)) (hr : PA X es (tA X.K X.mg W g)) (hs : noStar e = true) : PA X (e :: es) (tA X.K X.mg W (sCons f g)) := by
  refine (pa_cons ha hr (starEach_cons hs)).weak fun σ H Q q => ?_
  obtain ⟨φ, h, F, ρ, r, w, en, hf, want⟩ := q
  unfold sCons consL at hf
  cases h1 : f ρ h with
  | none => rw [h1] at hf; cases hf
  | some x =>
    rw [h1] at hf
    cases x with
    | exc c fs =>
      have hr : ResL.exc c fs = r := Option.some.inj hf
      subst hr
      exact ⟨φ, h, F, ρ, .exc c fs, w, en, h1, want⟩
    | ok d =>
      refine ⟨φ, h, F, ρ, .ok d, w, en, h1, fun v F1 H1 e1 rv => ?_⟩
      cases h2 : g ρ h with
      | none => rw [h2] at hf; cases hf
      | some y =>
        rw [h2] at hf
        cases y with
        | exc c fs =>
          have hr : ResL.exc c fs = r := Option.some.inj hf
          subst hr
          exact ⟨φ, h, F1, ρ, .exc c fs, w.ext e1, en.up e1.up, h2, WantL.ext (r := .exc c fs) (Q := fun _ _ => False) e1 want⟩
        | ok ds =>
          have hr : ResL.ok (d :: ds) = r := Option.some.inj hf
          subst hr
          exact ⟨φ, h, F1, ρ, .ok ds, w.ext e1, en.up e1.up, h2, fun vs F2 H2 e2 rs => want _ F2 H2 (e1.trans e2) (.cons (rv.up e2.up) rs)⟩
theorem da_star (ha : PE X e (tD X.K X.mg W f)) (hr : PA X es (tA X.K X.mg W g)) {p : Pos} : PA X (.Starred e p :: es) (tA X.K X.mg W (sStar f g)) := by
  refine (StX.pa_star ha hr).weak fun σ H Q q => ?_
  obtain ⟨φ, h, F, ρ, r, w, en, hf, want⟩ := q
  unfold sStar appL at hf
  cases h1 : f ρ h with
  | none => rw [h1] at hf; cases hf
  | some x =>
    rw [h1] at hf
    cases x with
    | exc c fs =>
      have hr : ResL.exc c fs = r := Option.some.inj hf
      subst hr
      exact ⟨φ, h, F, ρ, .exc c fs, w, en, h1, want⟩
    | ok d =>
      refine ⟨φ, h, F, ρ, .ok d, w, en, h1, fun v F1 H1 e1 rv => ?_⟩
      dsimp only at hf
      cases h3 : seqD h d with
      | none => rw [h3] at hf; cases hf
      | some xs =>
        rw [h3] at hf
        obtain ⟨a, us, rfl, hq, ru⟩ := seqD_ok (w.ext e1) rv h3
        refine ⟨a, us, rfl, hq.symm, ?_⟩
        cases h2 : g ρ h with
        | none => rw [h2] at hf; cases hf
        | some y =>
          rw [h2] at hf
          cases y with
          | exc c fs =>
            have hr : ResL.exc c fs = r := Option.some.inj hf
            subst hr
            exact ⟨φ, h, F1, ρ, .exc c fs, w.ext e1, en.up e1.up, h2, WantL.ext (r := .exc c fs) (Q := fun _ _ => False) e1 want⟩
          | ok ds =>
            have hr : ResL.ok (xs ++ ds) = r := Option.some.inj hf
            subst hr
            exact ⟨φ, h, F1, ρ, .ok ds, w.ext e1, en.up e1.up, h2, fun vs F2 H2 e2 rs => want _ F2 H2 (e1.trans e2) ((ru.up e2.up).append rs)⟩
def okLen (k : List D → D) (ds : List D) : Option Res := if ds.length ≤ sizeLine then some (.ok (k ds)) else none
theorem okLen_inv {k : List D → D} {ds : List D} {r : Res} (e : okLen k ds = some r) : ds.length ≤ sizeLine ∧ r = .ok (k ds) := by
  unfold okLen at e
  split at e
  · rename_i hz
    exact ⟨hz, (Option.some.inj e).symm⟩
  · cases e
def sTup (g : Lx) : Sx := fun ρ h => bndL (g ρ h) (okLen .tup)
def sLst (g : Lx) : Sx := fun ρ h => bndL (g ρ h) (okLen .lst)
theorem de_tup {k : Nat} (ha : PA X es (tA X.K X.mg W g)) : PE X (.Tuple es k pos) (tD X.K X.mg W (sTup g)) := by
  refine (pe_tup ha).weak fun σ H Q q => ?_
  obtain ⟨φ, h, F, ρ, r, w, en, hf, want⟩ := q
  refine tA_step w en hf want fun ds vs F1 H1 e1 rs hk => ?_
  obtain ⟨hz, rfl⟩ := okLen_inv hk
  refine ⟨by rw [rs.length]; exact hz, fun p hp => ?_⟩
  obtain ⟨e2, r2⟩ := new_tup (w.ext e1) hp rs
  exact want _ _ _ (e1.trans e2) r2
theorem de_lst (ha : PA X es (tA X.K X.mg W g)) : PE X (.List es pos) (tD X.K X.mg W (sLst g)) := by
  refine (pe_lst ha).weak fun σ H Q q => ?_
  obtain ⟨φ, h, F, ρ, r, w, en, hf, want⟩ := q
  refine tA_step w en hf want fun ds vs F1 H1 e1 rs hk => ?_
  obtain ⟨hz, rfl⟩ := okLen_inv hk
  refine ⟨by rw [rs.length]; exact hz, fun p hp => ?_⟩
  obtain ⟨e2, r2⟩ := new_lst (w.ext e1) hp rs
  exact want _ _ _ (e1.trans e2) r2

/-! ### subscripts -/
theorem Reps.atI {K : Frag} {F : Hp} {φ : List Addr} {vs : List V} {ds : List D} {i : Int} {d : D} (r : Reps K F φ vs ds) (e : L2.atI ds i = some d) : ∃ v, L2.atI vs i = some v ∧ Rep K F φ v d := by
  unfold L2.atI at e ⊢
  rw [r.length]
  cases q : ixN ds.length i with
  | none => rw [q] at e; cases e
  | some j =>
    rw [q] at e
    obtain ⟨v, h1, h2⟩ := r.get (i := j) (show ds[j]? = some d from e)
    exact ⟨v, h1, h2⟩
def ixD (h : List Cell) (x y : D) : Option D := match y with
  | .int i => (match x with
    | .str z => if z.length ≤ sizeLine then (L2.atI z.cps.toList i).map fun c => .str ⟨#[c]⟩ else none
    | .scr ns => (L2.atI ns i).map .int
    | x => (seqD h x).bind fun xs => L2.atI xs i)
  | _ => none
theorem atI_map {α β : Type} (f : α → β) (xs : List α) (i : Int) : L2.atI (xs.map f) i = (L2.atI xs i).map f := by
  unfold L2.atI
  rw [List.length_map]
  cases ixN xs.length i with
  | none => rfl
  | some j => simp
theorem opS_ix {K : Frag} : OpS K (rIx K) ixD :=
  ⟨fun {φ h F H x y dx dy d Q} w rx ry e k => by
    cases dy with
    | int i =>
      rw [ry.int_inv]
      have viaSeq : ∀ {dx : D}, Rep K F φ x dx → ((seqD h dx).bind fun xs => L2.atI xs i) = some d → rIx K x (.int i) H Q := fun {dx} rx e => by
        cases q : seqD h dx with
        | none => rw [q] at e; cases e
        | some xs =>
          rw [q] at e
          obtain ⟨a, vs, rfl, hq, rr⟩ := seqD_ok w rx q
          obtain ⟨v, hv, rv⟩ := rr.atI e
          have kk := k v F H (Ext.refl w.sub) rv
          rcases hq with hq | hq
          · exact .inl ⟨a, vs, i, v, rfl, rfl, hq, hv, kk⟩
          · exact .inr (.inl ⟨a, vs, i, v, rfl, rfl, hq, hv, kk⟩)
      cases dx with
      | str z =>
        have e' : (if z.length ≤ sizeLine then (L2.atI z.cps.toList i).map fun c => D.str ⟨#[c]⟩ else none) = some d := e
        split at e'
        · rename_i hz
          obtain ⟨c, hc, hd⟩ := Option.map_eq_some_iff.mp e'
          subst hd
          rw [rx.str_inv]
          exact .inr (.inr ⟨z, i, c, rfl, rfl, hz, hc, k _ F H (Ext.refl w.sub) (.str _)⟩)
        · cases e'
      | scr ns =>
        obtain ⟨n, hn, hd⟩ := Option.map_eq_some_iff.mp (show (L2.atI ns i).map D.int = some d from e)
        subst hd
        cases rx with
        | scr q => exact .inl ⟨_, _, i, .int n, rfl, rfl, SqL.mono w.sub q, by rw [atI_map, hn]; rfl, k _ F H (Ext.refl w.sub) (.int n)⟩
      | non => exact viaSeq rx e
      | bl b => exact viaSeq rx e
      | int j => exact viaSeq rx e
      | tup xs => exact viaSeq rx e
      | lst xs => exact viaSeq rx e
      | ref n => exact viaSeq rx e
      | dct n => exact viaSeq rx e
      | obj c fs => exact viaSeq rx e
    | _ => cases e⟩
variable {a b : Expr} {fa fb : Sx}
def sIx (fa fb : Sx) : Sx := fun ρ h => bnd (fa ρ h) fun x => bnd (fb ρ h) fun y => vok (ixD h x y)
theorem de_ix (ha : PE X a (tD X.K X.mg W fa)) (hb : PE X b (tD X.K X.mg W fb)) (hs : noSlice b = true) : PE X (.Subscript a b pos) (tD X.K X.mg W (sIx fa fb)) :=
  (pe_ix ix_seq ha hb (plainIx_of hs)).weak fun σ H Q => tOp_of opS_ix

/-! slices -/
/-- a slice's part: left out, or an int -/
def intOnly (d : D) : Option Res := match d with
  | .int i => some (.ok (.int i))
  | _ => none
def sPart (f : Option Sx) : Sx := match f with
  | none => fun _ _ => some (.ok .non)
  | some f => fun ρ h => bnd (f ρ h) intOnly
def partD : D → Option (Option Int)
  | .non => some none
  | .int i => some (some i)
  | _ => none
/-- the reading of a slice's part -/
def tPt (K : Frag) (mg : Str → Option Value) (W : WX) (f : Sx) : TO := fun σ H Q => ∃ φ h F ρ r, Wd K φ h F H ∧ Env1 K F φ σ ρ ∧ f ρ h = some r ∧
  match r with
  | .ok d => ∃ o, partD d = some o ∧ ∀ F' H', Ext F H F' H' → Q o H'
  | .exc c fs => Want K mg W φ F H σ (fun _ _ => False) (.exc c fs)
theorem dp_none : PO X none (tPt X.K X.mg W (sPart none)) := by
  refine ⟨fun pins s σ H Q I q => po_none.run pins s σ H Q I ?_⟩
  obtain ⟨φ, h, F, ρ, r, w, en, hf, q⟩ := q
  have hr : Res.ok .non = r := Option.some.inj hf
  subst hr
  obtain ⟨o, ho, q⟩ := q
  have : (none : Option Int) = o := Option.some.inj ho
  subst this
  exact q F H (Ext.refl w.sub)
theorem dp_some (ha : PE X a (tD X.K X.mg W fa)) : PO X (some a) (tPt X.K X.mg W (sPart (some fa))) := by
  refine ⟨fun pins s σ H Q I q => (po_some ha).run pins s σ H Q I ?_⟩
  obtain ⟨φ, h, F, ρ, r, w, en, hf, q⟩ := q
  have hf : bnd (fa ρ h) intOnly = some r := hf
  cases h1 : fa ρ h with
  | none => rw [h1] at hf; cases hf
  | some x =>
    rw [h1] at hf
    cases x with
    | exc c fs =>
      have hr : Res.exc c fs = r := Option.some.inj hf
      subst hr
      exact ⟨φ, h, F, ρ, .exc c fs, w, en, h1, q⟩
    | ok d =>
      cases d with
      | int i =>
        have hr : Res.ok (.int i) = r := Option.some.inj hf
        subst hr
        obtain ⟨o, ho, q⟩ := q
        have : some i = o := Option.some.inj ho
        subst this
        exact ⟨φ, h, F, ρ, .ok (.int i), w, en, h1, fun v F1 H1 e1 rv => ⟨i, rv.int_inv, q F1 H1 e1⟩⟩
      | _ => cases hf
def cutD {α : Type} (xs : List α) (lo hi : Option Int) : List α := (xs.drop (HT.sIx xs.length 0 lo)).take (HT.sIx xs.length xs.length hi - HT.sIx xs.length 0 lo)
theorem Reps.cut {K : Frag} {F : Hp} {φ : List Addr} {vs : List V} {ds : List D} (r : Reps K F φ vs ds) (lo hi : Option Int) : Reps K F φ (cutV vs lo hi) (cutD ds lo hi) := by
  unfold cutV cutD
  rw [r.length]
  exact (r.drop _).take _
def slD (h : List Cell) (x : D) (lo hi : Option Int) : Option D := match x with
  | .str z => if z.length ≤ sizeLine then some (.str (cutS z lo hi)) else none
  | .tup xs => some (.tup (cutD xs lo hi))
  | x => (listD h x).map fun xs => .lst (cutD xs lo hi)
def rSl (K : Frag) : V → Option Int → Option Int → Hp → VK → Prop := fun x lo hi H Q => rSlL K x lo hi H Q ∨ rSlA K x lo hi H Q ∨ rSlS x lo hi H Q
theorem sl_any : SlR X (rSl X.K) := sl_list.or (sl_tupA.or sl_str)
theorem cutD_whole {α : Type} {xs : List α} {lo hi : Option Int} (h : HT.sIx xs.length 0 lo = 0 ∧ HT.sIx xs.length xs.length hi = xs.length) : cutD xs lo hi = xs := by
  unfold cutD
  rw [h.1, h.2]
  simp
theorem rSl_ok {K : Frag} {φ : List Addr} {h : List Cell} {F H : Hp} {x : V} {dx d : D} {lo hi : Option Int} {Q : VK} (w : Wd K φ h F H) (rx : Rep K F φ x dx) (e : slD h dx lo hi = some d)
    (k : ∀ v F' H', Ext F H F' H' → Rep K F' φ v d → Q v H') : rSl K x lo hi H Q := by
  have viaList : ∀ {dx : D}, Rep K F φ x dx → ((listD h dx).map fun xs => D.lst (cutD xs lo hi)) = some d → rSl K x lo hi H Q := fun {dx} rx e => by
    obtain ⟨xs, h1, h2⟩ := Option.map_eq_some_iff.mp e
    subst h2
    obtain ⟨a, vs, rfl, ha, rr⟩ := listD_ok w rx h1
    refine .inl ⟨a, vs, rfl, SqL.of ha, fun p hp => ?_⟩
    obtain ⟨e2, r2⟩ := new_lst w hp (rr.cut lo hi)
    exact k _ _ _ e2 r2
  cases dx with
  | str z =>
    have e' : (if z.length ≤ sizeLine then some (D.str (cutS z lo hi)) else none) = some d := e
    split at e'
    · rename_i hz
      have := Option.some.inj e'
      subst this
      rw [rx.str_inv]
      exact .inr (.inr ⟨z, rfl, hz, k _ F H (Ext.refl w.sub) (.str _)⟩)
    · cases e'
  | tup xs =>
    have := Option.some.inj (show some (D.tup (cutD xs lo hi)) = some d from e)
    subst this
    obtain ⟨a, vs, rfl, ha, rr⟩ := tupD_ok w rx (rfl : tupD (.tup xs) = some xs)
    refine .inr (.inl ⟨a, vs, rfl, ha, fun hw => ?_, fun hw p hp => ?_⟩)
    · rw [rr.length] at hw
      rw [cutD_whole hw] at k
      exact k _ F H (Ext.refl w.sub) rx
    · obtain ⟨e2, r2⟩ := new_tup w hp (rr.cut lo hi)
      exact k _ _ _ e2 r2
  | non => exact viaList rx e
  | bl b => exact viaList rx e
  | int j => exact viaList rx e
  | scr xs => exact viaList rx e
  | lst xs => exact viaList rx e
  | ref n => exact viaList rx e
  | dct n => exact viaList rx e
  | obj c fs => exact viaList rx e
def sSl (fa : Sx) (lo hi : Option Sx) : Sx := fun ρ h => bnd (fa ρ h) fun x => bnd (sPart lo ρ h) fun l => match partD l with
  | some l => bnd (sPart hi ρ h) fun u => (match partD u with
    | some u => vok (slD h x l u)
    | none => none)
  | none => none
theorem tPt_step {K : Frag} {mg : Str → Option Value} {φ : List Addr} {h : List Cell} {F H : Hp} {σ : St} {ρ : Rho} {f : Sx} {k : D → Option Res} {r : Res} {Q : VK} {Q' : Option Int → Hp → Prop} (w : Wd K φ h F H) (e : Env1 K F φ σ ρ) (hb : bnd (f ρ h) k = some r) (want : Want K mg W φ F H σ Q r)
    (hk : ∀ d r, k d = some r → ∃ o, partD d = some o) (go : ∀ d o F1 H1, partD d = some o → Ext F H F1 H1 → k d = some r → Q' o H1) : tPt K mg W f σ H Q' := by
  cases hf : f ρ h with
  | none => rw [hf] at hb; cases hb
  | some x =>
    rw [hf] at hb
    cases x with
    | ok d =>
      obtain ⟨o, ho⟩ := hk d r hb
      exact ⟨φ, h, F, ρ, .ok d, w, e, hf, o, ho, fun F1 H1 ex => go d o F1 H1 ho ex hb⟩
    | exc c fs =>
      have hr : Res.exc c fs = r := Option.some.inj hb
      subst hr
      exact ⟨φ, h, F, ρ, .exc c fs, w, e, hf, want⟩
theorem de_slice {lo hi : Option Expr} {fl fh : Option Sx} {p2 : Pos} (ha : PE X a (tD X.K X.mg W fa)) (hl : PO X lo (tPt X.K X.mg W (sPart fl))) (hu : PO X hi (tPt X.K X.mg W (sPart fh))) :
    PE X (.Subscript a (.Slice lo hi none p2) pos) (tD X.K X.mg W (sSl fa fl fh)) := by
  refine (pe_slice sl_any ha hl hu).weak fun σ H Q q => ?_
  obtain ⟨φ, h, F, ρ, r, w, en, hf, want⟩ := q
  refine tD_step w en hf want fun dx x F1 H1 e1 rx hf1 => ?_
  have w1 := w.ext e1
  have en1 := en.up e1.up
  refine tPt_step w1 en1 hf1 (want.ext e1) (fun d r hk => ?_) fun dl l F2 H2 hl e2 hk2 => ?_
  · cases hp : partD d with
    | none => rw [hp] at hk; cases hk
    | some o => exact ⟨o, rfl⟩
  · rw [hl] at hk2
    refine tPt_step (w1.ext e2) (en1.up e2.up) hk2 ((want.ext e1).ext e2) (fun d r hk => ?_) fun d o F3 H3 ho e3 hk => ?_
    · cases hpd : partD d with
      | none => rw [hpd] at hk; cases hk
      | some o => exact ⟨o, rfl⟩
    · rw [ho] at hk
      obtain ⟨dd, hd, rfl⟩ := vok_inv hk
      exact rSl_ok ((w1.ext e2).ext e3) ((rx.up e2.up).up e3.up) hd (want.ext ((e1.trans e2).trans e3))
end
end DL

set_option Elab.async false
set_option linter.all false
set_option maxRecDepth 100000
/-! DLe: built-ins by their names, methods of built-in types, f-strings, isinstance. -/
namespace DL
open PySem PySem.Spec PyProof.Rows L2

/-! ### sorting ints -/
def insI (x : Int) : List Int → List Int
  | [] => [x]
  | y :: ys => if x ≤ y then x :: y :: ys else y :: insI x ys
def sortI : List Int → List Int
  | [] => []
  | x :: xs => insI x (sortI xs)
theorem insI_perm (x : Int) : ∀ xs : List Int, (insI x xs).Perm (x :: xs)
  | [] => .refl _
  | y :: ys => by
    unfold insI
    split
    · exact .refl _
    · exact ((insI_perm x ys).cons y).trans (.swap x y ys)
theorem sortI_perm : ∀ xs : List Int, (sortI xs).Perm xs
  | [] => .refl _
  | x :: xs => (insI_perm x _).trans ((sortI_perm xs).cons x)
theorem insI_sorted (x : Int) : ∀ xs : List Int, xs.Pairwise (· ≤ ·) → (insI x xs).Pairwise (· ≤ ·)
  | [], _ => by unfold insI; exact List.pairwise_singleton _ _
  | y :: ys, h => by
    rw [List.pairwise_cons] at h
    unfold insI
    split
    · rename_i hxy
      rw [List.pairwise_cons]
      refine ⟨fun z hz => ?_, by rw [List.pairwise_cons]; exact h⟩
      rcases List.mem_cons.mp hz with rfl | hz
      · exact hxy
      · exact Int.le_trans hxy (h.1 z hz)
    · rename_i hxy
      rw [List.pairwise_cons]
      refine ⟨fun z hz => ?_, insI_sorted x ys h.2⟩
      rcases List.mem_cons.mp ((insI_perm x ys).mem_iff.mp hz) with rfl | hz
      · omega
      · exact h.1 z hz
theorem sortI_sorted : ∀ xs : List Int, (sortI xs).Pairwise (· ≤ ·)
  | [] => .nil
  | x :: xs => insI_sorted x _ (sortI_sorted xs)
theorem sortI_only {xs ys : List Int} (p : ys.Perm xs) (s : ys.Pairwise (· ≤ ·)) : ys = sortI xs :=
  (p.trans (sortI_perm xs).symm).eq_of_pairwise (fun a b _ _ h1 h2 => Int.le_antisymm h1 h2) s (sortI_sorted xs)
def intsD : List D → Option (List Int)
  | [] => some []
  | .int i :: r => (intsD r).map (i :: ·)
  | _ => none
theorem intsD_ok {K : Frag} {F : Hp} {φ : List Addr} : ∀ {vs : List V} {ds : List D} {ns : List Int}, Reps K F φ vs ds → intsD ds = some ns → vs = ns.map V.int
  | _, _, _, .nil, e => by cases Option.some.inj e; rfl
  | _, d :: _, ns, .cons r t, e => by
    cases d with
    | int i =>
      obtain ⟨ms, h1, h2⟩ := Option.map_eq_some_iff.mp (show (intsD _).map (i :: ·) = some ns from e)
      subst h2
      rw [r.int_inv, intsD_ok t h1]; rfl
    | _ => cases e
theorem Reps.ints {K : Frag} {F : Hp} {φ : List Addr} : ∀ ns : List Int, Reps K F φ (ns.map V.int) (ns.map D.int)
  | [] => .nil
  | n :: ns => .cons (.int n) (Reps.ints ns)
def maxI : Int → List Int → Int
  | m, [] => m
  | m, x :: xs => maxI (if m < x then x else m) xs
theorem maxI_ge : ∀ (xs : List Int) (m : Int), m ≤ maxI m xs ∧ (∀ y ∈ xs, y ≤ maxI m xs) ∧ (maxI m xs = m ∨ maxI m xs ∈ xs)
  | [], m => ⟨Int.le_refl _, fun _ h => (nomatch h), .inl rfl⟩
  | x :: xs, m => by
    obtain ⟨h1, h2, h3⟩ := maxI_ge xs (if m < x then x else m)
    show m ≤ maxI (if m < x then x else m) xs ∧ _
    refine ⟨?_, fun y hy => ?_, ?_⟩
    · split at h1 <;> rename_i hc <;> (first | rw [if_pos hc] | rw [if_neg hc]) <;> omega
    · rcases List.mem_cons.mp hy with rfl | hy
      · show y ≤ maxI (if m < y then y else m) xs
        split at h1 <;> rename_i hc <;> (first | rw [if_pos hc] | rw [if_neg hc]) <;> omega
      · exact h2 y hy
    · show maxI (if m < x then x else m) xs = m ∨ maxI (if m < x then x else m) xs ∈ x :: xs
      rcases h3 with h3 | h3
      · rw [h3]
        split
        · exact .inr (List.mem_cons_self)
        · exact .inl rfl
      · exact .inr (List.mem_cons_of_mem _ h3)

/-! ### built-ins -/
structure CallS (K : Frag) (r : List V → Hp → VK → Prop) (g : List Cell → List D → Option D) : Prop where
  go : ∀ {φ : List Addr} {h : List Cell} {F H : Hp} {vs : List V} {ds : List D} {d : D} {Q : VK}, Wd K φ h F H → Reps K F φ vs ds → g h ds = some d → (∀ v F' H', Ext F H F' H' → Rep K F' φ v d → Q v H') → r vs H Q
theorem CallS.or {K : Frag} {r r' : List V → Hp → VK → Prop} {g g' : List Cell → List D → Option D} (a : CallS K r g) (b : CallS K r' g') : CallS K (fun vs H Q => r vs H Q ∨ r' vs H Q) (fun h ds => match g h ds with | some d => some d | none => g' h ds) :=
  ⟨fun {φ h F H vs ds d Q} w rs e k => by
    cases q : g h ds with
    | some d' =>
      rw [q] at e
      have e' : d' = d := Option.some.inj e
      subst e'
      exact .inl (a.go w rs q k)
    | none =>
      rw [q] at e
      exact .inr (b.go w rs e k)⟩
theorem Reps.one {K : Frag} {F : Hp} {φ : List Addr} {vs : List V} {d : D} (r : Reps K F φ vs [d]) : ∃ v, vs = [v] ∧ Rep K F φ v d := by
  cases r with
  | cons r t => cases t; exact ⟨_, rfl, r⟩
theorem Reps.two {K : Frag} {F : Hp} {φ : List Addr} {vs : List V} {d e : D} (r : Reps K F φ vs [d, e]) : ∃ v u, vs = [v, u] ∧ Rep K F φ v d ∧ Rep K F φ u e := by
  cases r with
  | cons r t =>
    obtain ⟨u, rfl, q⟩ := t.one
    exact ⟨_, _, rfl, r, q⟩
/-- len -/
def lenD (h : List Cell) : D → Option Nat
  | .str z => if z.length ≤ sizeLine then some z.length else none
  | .scr ns => some ns.length
  | d => (seqD h d).map List.length
theorem lenD_ok {K : Frag} {φ : List Addr} {h : List Cell} {F H : Hp} {v : V} {d : D} {n : Nat} (w : Wd K φ h F H) (r : Rep K F φ v d) (e : lenD h d = some n) : LenV K v H n := by
  have viaSeq : ∀ {d : D}, Rep K F φ v d → (seqD h d).map List.length = some n → LenV K v H n := fun {d} r e => by
    obtain ⟨xs, h1, h2⟩ := Option.map_eq_some_iff.mp e
    subst h2
    obtain ⟨a, vs, rfl, hq, rr⟩ := seqD_ok w r h1
    rcases hq with hq | hq
    · exact .inl ⟨vs, hq, rr.length.symm⟩
    · exact .inr ⟨vs, hq, rr.length.symm⟩
  cases d with
  | str z =>
    have e' : (if z.length ≤ sizeLine then some z.length else none) = some n := e
    split at e'
    · rename_i hz
      rw [r.str_inv]
      exact ⟨hz, (Option.some.inj e').symm⟩
    · cases e'
  | scr ns =>
    cases r with
    | scr q => exact .inl ⟨_, SqL.mono w.sub q, by rw [List.length_map]; exact (Option.some.inj e).symm⟩
  | non => exact viaSeq r e
  | bl b => exact viaSeq r e
  | int j => exact viaSeq r e
  | tup xs => exact viaSeq r e
  | lst xs => exact viaSeq r e
  | ref n => exact viaSeq r e
  | dct n => exact viaSeq r e
  | obj c fs => exact viaSeq r e
def gLen : List Cell → List D → Option D := fun h ds => match ds with
  | [d] => (lenD h d).map fun (n : Nat) => .int n
  | _ => none
theorem cs_len {K : Frag} : CallS K (fun xs H Q => ∃ (x : V) (n : Nat), xs = [x] ∧ LenV K x H n ∧ Q (.int n) H) gLen :=
  ⟨fun {φ h F H vs ds d Q} w rs e k => by
    unfold gLen at e
    split at e
    · obtain ⟨n, h1, h2⟩ := Option.map_eq_some_iff.mp e
      subst h2
      obtain ⟨v, rfl, r⟩ := rs.one
      exact ⟨v, n, rfl, lenD_ok w r h1, k _ F H (Ext.refl w.sub) (.int _)⟩
    · cases e⟩
/-- one int in -/
def gI1 (f : Int → Option D) : List Cell → List D → Option D := fun _ ds => match ds with
  | [.int i] => f i
  | _ => none
theorem gI1_inv {f : Int → Option D} {h : List Cell} {ds : List D} {d : D} (e : gI1 f h ds = some d) : ∃ i, ds = [.int i] ∧ f i = some d := by
  unfold gI1 at e
  split at e
  · exact ⟨_, rfl, e⟩
  · cases e
theorem cs_abs {K : Frag} : CallS K (fun xs H Q => ∃ i, xs = [.int i] ∧ Q (.int (if i < 0 then -i else i)) H) (gI1 fun i => some (.int (if i < 0 then -i else i))) :=
  ⟨fun {φ h F H vs ds d Q} w rs e k => by
    obtain ⟨i, rfl, e⟩ := gI1_inv e
    cases Option.some.inj e
    obtain ⟨v, rfl, r⟩ := rs.one
    rw [r.int_inv]
    exact ⟨i, rfl, k _ F H (Ext.refl w.sub) (.int _)⟩⟩
def gI2 (f : Int → Int → D) : List Cell → List D → Option D := fun _ ds => match ds with
  | [.int i, .int j] => some (f i j)
  | _ => none
theorem gI2_inv {f : Int → Int → D} {h : List Cell} {ds : List D} {d : D} (e : gI2 f h ds = some d) : ∃ i j, ds = [.int i, .int j] ∧ d = f i j := by
  unfold gI2 at e
  split at e
  · exact ⟨_, _, rfl, (Option.some.inj e).symm⟩
  · cases e
theorem cs_I2 {K : Frag} {f : Int → Int → Int} : CallS K (fun xs H Q => ∃ i j, xs = [.int i, .int j] ∧ Q (.int (f i j)) H) (gI2 fun i j => .int (f i j)) :=
  ⟨fun {φ h F H vs ds d Q} w rs e k => by
    obtain ⟨i, j, rfl, rfl⟩ := gI2_inv e
    obtain ⟨v, u, rfl, r, q⟩ := rs.two
    rw [r.int_inv, q.int_inv]
    exact ⟨i, j, rfl, k _ F H (Ext.refl w.sub) (.int _)⟩⟩
def gMaxL : List Cell → List D → Option D := fun h ds => match ds with
  | [d] => (match (listD h d).bind intsD with
    | some (n :: ns) => some (.int (maxI n ns))
    | _ => none)
  | _ => none
theorem listD_ints {K : Frag} {φ : List Addr} {h : List Cell} {F H : Hp} {v : V} {d : D} {ns : List Int} (w : Wd K φ h F H) (r : Rep K F φ v d) (e : (listD h d).bind intsD = some ns) : ∃ a, v = .ref a ∧ SqL K H a (ns.map V.int) := by
  cases q : listD h d with
  | none => rw [q] at e; cases e
  | some xs =>
    rw [q] at e
    obtain ⟨a, vs, rfl, ha, rr⟩ := listD_ok w r q
    rw [intsD_ok rr e] at ha
    exact ⟨a, rfl, SqL.of ha⟩
theorem cs_maxL {K : Frag} : CallS K (rMax K) gMaxL :=
  ⟨fun {φ h F H vs ds d Q} w rs e k => by
    unfold gMaxL at e
    split at e
    · split at e
      · rename_i n ns hb
        cases Option.some.inj e
        obtain ⟨v, rfl, r⟩ := rs.one
        obtain ⟨a, rfl, ha⟩ := listD_ints w r hb
        refine ⟨a, n :: ns, rfl, ha, by simp, fun m hm hle => ?_⟩
        obtain ⟨h1, h2, h3⟩ := maxI_ge ns n
        have em : m = maxI n ns := by
          refine Int.le_antisymm ?_ ?_
          · rcases List.mem_cons.mp hm with rfl | hm
            · exact h1
            · exact h2 m hm
          · rcases h3 with h3 | h3
            · rw [h3]; exact hle n List.mem_cons_self
            · exact hle _ (List.mem_cons_of_mem _ h3)
        rw [em]
        exact k _ F H (Ext.refl w.sub) (.int _)
      · cases e
    · cases e⟩
def gInt : List Cell → List D → Option D := fun _ ds => match ds with
  | [.int i] => some (.int i)
  | [.bl b] => some (.int (if b then 1 else 0))
  | _ => none
theorem cs_int {K : Frag} : CallS K (fun xs H Q => (∃ i, xs = [.int i] ∧ Q (.int i) H) ∨ ∃ k, xs = [.bl k] ∧ Q (.int (if k then 1 else 0)) H) gInt :=
  ⟨fun {φ h F H vs ds d Q} w rs e k => by
    unfold gInt at e
    split at e
    · rename_i i
      cases Option.some.inj e
      obtain ⟨v, rfl, r⟩ := rs.one
      rw [r.int_inv]
      exact .inl ⟨i, rfl, k _ F H (Ext.refl w.sub) (.int _)⟩
    · rename_i b
      cases Option.some.inj e
      obtain ⟨v, rfl, r⟩ := rs.one
      rw [r.bl_inv]
      exact .inr ⟨b, rfl, k _ F H (Ext.refl w.sub) (.int _)⟩
    · cases e⟩
def gIntS : List Cell → List D → Option D := fun _ ds => match ds with
  | [.str z] => if z.length ≤ 640 then (PySem.intText? z).map .int else none
  | _ => none
theorem cs_intS {K : Frag} : CallS K (fun xs H Q => ∃ a n, xs = [.str a] ∧ PySem.intText? a = some n ∧ a.length ≤ 640 ∧ Q (.int n) H) gIntS :=
  ⟨fun {φ h F H vs ds d Q} w rs e k => by
    unfold gIntS at e
    split at e
    · rename_i z
      split at e
      · rename_i hz
        obtain ⟨n, h1, h2⟩ := Option.map_eq_some_iff.mp e
        subst h2
        obtain ⟨v, rfl, r⟩ := rs.one
        rw [r.str_inv]
        exact ⟨z, n, rfl, h1, hz, k _ F H (Ext.refl w.sub) (.int _)⟩
      · cases e
    · cases e⟩
theorem cs_str {K : Frag} : CallS K (fun xs H Q => ∃ i, xs = [.int i] ∧ i.natAbs.log2 < 1920 ∧ Q (.str (toString i)) H) (gI1 fun i => if i.natAbs.log2 < 1920 then some (.str (toString i)) else none) :=
  ⟨fun {φ h F H vs ds d Q} w rs e k => by
    obtain ⟨i, rfl, e2⟩ := gI1_inv e
    clear e
    split at e2
    · rename_i hz
      cases Option.some.inj e2
      obtain ⟨v, rfl, r⟩ := rs.one
      rw [r.int_inv]
      exact ⟨i, rfl, hz, k _ F H (Ext.refl w.sub) (.str _)⟩
    · cases e2⟩
def gTuple : List Cell → List D → Option D := fun h ds => match ds with
  | [.tup xs] => some (.tup xs)
  | [d] => (listD h d).map .tup
  | _ => none
theorem cs_tuple {K : Frag} : CallS K (fun xs H Q => ∃ p ys, xs = [.ref p] ∧ ((SqL K H p ys ∧ ∀ l, H l = none → Q (.ref l) (upd H l (.tup ys))) ∨ (SqT K H p ys ∧ Q (.ref p) H))) gTuple :=
  ⟨fun {φ h F H vs ds d Q} w rs e k => by
    unfold gTuple at e
    split at e
    · rename_i xs
      cases Option.some.inj e
      obtain ⟨v, rfl, r⟩ := rs.one
      obtain ⟨a, us, rfl, ha, rr⟩ := tupD_ok w r (rfl : tupD (.tup xs) = some xs)
      exact ⟨a, us, rfl, .inr ⟨ha, k _ F H (Ext.refl w.sub) r⟩⟩
    · obtain ⟨xs, h1, h2⟩ := Option.map_eq_some_iff.mp e
      subst h2
      obtain ⟨v, rfl, r⟩ := rs.one
      obtain ⟨a, us, rfl, ha, rr⟩ := listD_ok w r h1
      refine ⟨a, us, rfl, .inl ⟨SqL.of ha, fun l hl => ?_⟩⟩
      obtain ⟨e2, r2⟩ := new_tup w hl rr
      exact k _ _ _ e2 r2
    · cases e⟩
def gList : List Cell → List D → Option D := fun h ds => match ds with
  | [d] => (seqD h d).map .lst
  | _ => none
theorem cs_list {K : Frag} : CallS K (fun xs H Q => ∃ p ys, xs = [.ref p] ∧ (SqL K H p ys ∨ SqT K H p ys) ∧ ∀ l, H l = none → Q (.ref l) (upd H l (.lst ys))) gList :=
  ⟨fun {φ h F H vs ds d Q} w rs e k => by
    unfold gList at e
    split at e
    · obtain ⟨xs, h1, h2⟩ := Option.map_eq_some_iff.mp e
      subst h2
      obtain ⟨v, rfl, r⟩ := rs.one
      obtain ⟨a, us, rfl, ha, rr⟩ := seqD_ok w r h1
      refine ⟨a, us, rfl, ha, fun l hl => ?_⟩
      obtain ⟨e2, r2⟩ := new_lst w hl rr
      exact k _ _ _ e2 r2
    · cases e⟩
def gSorted : List Cell → List D → Option D := fun h ds => match ds with
  | [d] => ((listD h d).bind intsD).map fun ns => .lst ((sortI ns).map .int)
  | _ => none
theorem cs_sorted {K : Frag} : CallS K (rSortedI K) gSorted :=
  ⟨fun {φ h F H vs ds d Q} w rs e k => by
    unfold gSorted at e
    split at e
    · obtain ⟨ns, h1, h2⟩ := Option.map_eq_some_iff.mp e
      subst h2
      obtain ⟨v, rfl, r⟩ := rs.one
      obtain ⟨a, rfl, ha⟩ := listD_ints w r h1
      refine ⟨a, ns, rfl, ha, fun ns' p hp hs hn => ?_⟩
      rw [sortI_only hp hs]
      obtain ⟨e2, r2⟩ := new_lst w hn (Reps.ints (K := K) (F := F) (φ := φ) (sortI ns))
      exact k _ _ _ e2 r2
    · cases e⟩

/-- the built-ins that are served -/
inductive Bi where
  | len | abs | min | max | int | str | tuple | list | sorted
  deriving DecidableEq
def biName : Bi → Str
  | .len => "len" | .abs => "abs" | .min => "min" | .max => "max" | .int => "int" | .str => "str" | .tuple => "tuple" | .list => "list" | .sorted => "sorted"
def orL (g g' : List Cell → List D → Option D) : List Cell → List D → Option D := fun h ds => match g h ds with | some d => some d | none => g' h ds
def biD : Bi → List Cell → List D → Option D
  | .len => gLen
  | .abs => gI1 fun i => some (.int (if i < 0 then -i else i))
  | .min => gI2 fun i j => .int (if j < i then j else i)
  | .max => orL (gI2 fun i j => .int (if j > i then j else i)) gMaxL
  | .int => orL gInt gIntS
  | .str => gI1 fun i => if i.natAbs.log2 < 1920 then some (.str (toString i)) else none
  | .tuple => gTuple
  | .list => gList
  | .sorted => gSorted
section
variable {X : Cx} {W : WX} {pos p : Pos} {e : Expr} {es : List Expr} {f : Sx} {g : Lx}
def sBi (b : Bi) (g : Lx) : Sx := fun ρ h => bndL (g ρ h) fun ds => vok (biD b h ds)
theorem tCB_of {r : List V → Hp → VK → Prop} {gg : List Cell → List D → Option D} {σ : St} {H : Hp} {Q : VK} (hs : CallS X.K r gg) (q : tD X.K X.mg W (fun ρ h => bndL (g ρ h) fun ds => vok (gg h ds)) σ H Q) : tCB r (tA X.K X.mg W g) σ H Q := by
  obtain ⟨φ, h, F, ρ, res, w, en, hf, want⟩ := q
  refine tA_step w en hf want fun ds vs F1 H1 e1 rs hk => ?_
  obtain ⟨d, hd, rfl⟩ := vok_inv hk
  exact hs.go (w.ext e1) rs hd (want.ext e1)
theorem de_bi (b : Bi) {x : Str} (hx : x = biName b) (hc : X.calm = true) (hg : Gl X x) (hm : X.mg x = none) (ha : PA X (e :: es) (tA X.K X.mg W g)) (hs : (e :: es).all noStar = true) :
    PE X (.Call (.Name x p) (e :: es) [] pos) (tD X.K X.mg W (sBi b g)) := by
  rw [List.all_cons, Bool.and_eq_true_iff] at hs
  have he := starEach_cons (es := es) (env := X.env) hs.1
  have hpl := starEach_all (env := X.env) (pos := pos) hs.2
  subst hx
  cases b with
  | len => exact (pe_callB call_len hg hm (by decide +kernel) ha (by decide +kernel) (by decide +kernel) he hpl).weak fun σ H Q => tCB_of cs_len
  | abs => exact (pe_callB call_abs hg hm (by decide +kernel) ha (by decide +kernel) (by decide +kernel) he hpl).weak fun σ H Q => tCB_of cs_abs
  | min => exact (pe_callB (call_min2 hc) hg hm (by decide +kernel) ha (by decide +kernel) (by decide +kernel) he hpl).weak fun σ H Q => tCB_of cs_I2
  | max => exact (pe_callB ((call_max2 hc).or (cr_max hc)) hg hm (by decide +kernel) ha (by decide +kernel) (by decide +kernel) he hpl).weak fun σ H Q => tCB_of (cs_I2.or cs_maxL)
  | int => exact (pe_callTy (call_int1.or call_int_str) hg hm (by decide +kernel) ha (by decide +kernel) (by decide +kernel) he hpl).weak fun σ H Q => tCB_of (cs_int.or cs_intS)
  | str => exact (pe_callTy call_str_int hg hm (by decide +kernel) ha (by decide +kernel) (by decide +kernel) he hpl).weak fun σ H Q => tCB_of cs_str
  | tuple => exact (pe_callTy call_tuple_of hg hm (by decide +kernel) ha (by decide +kernel) (by decide +kernel) he hpl).weak fun σ H Q => tCB_of cs_tuple
  | list => exact (pe_callTy call_list_of hg hm (by decide +kernel) ha (by decide +kernel) (by decide +kernel) he hpl).weak fun σ H Q => tCB_of cs_list
  | sorted => exact (pe_callB cr_sortedI hg hm (by decide +kernel) ha (by decide +kernel) (by decide +kernel) he hpl).weak fun σ H Q => tCB_of cs_sorted
end
end DL

set_option Elab.async false
set_option linter.all false
set_option maxRecDepth 100000
/-! DLf: methods of texts and lists that give a value, f-strings, isinstance, written dicts. -/
namespace DL
open PySem PySem.Spec PyProof.Rows L2

theorem _root_.L2.PC.weak {X : Cx} {op : CmpOp} {a b : Expr} {t t' : TE} (p : PC X op a b t) (k : ∀ σ H Q, t' σ H Q → t σ H Q) : PC X op a b t' := ⟨fun pins s σ H Q I q => p.run pins s σ H Q I (k σ H Q q)⟩

/-! ### texts of a list -/
def strsD : List D → Option (List Str)
  | [] => some []
  | .str i :: r => (strsD r).map (i :: ·)
  | _ => none
theorem strsD_ok {K : Frag} {F : Hp} {φ : List Addr} : ∀ {vs : List V} {ds : List D} {ns : List Str}, Reps K F φ vs ds → strsD ds = some ns → vs = ns.map V.str
  | _, _, _, .nil, e => by cases Option.some.inj e; rfl
  | _, d :: _, ns, .cons r t, e => by
    cases d with
    | str i =>
      obtain ⟨ms, h1, h2⟩ := Option.map_eq_some_iff.mp (show (strsD _).map (i :: ·) = some ns from e)
      subst h2
      rw [r.str_inv, strsD_ok t h1]; rfl
    | _ => cases e
theorem Reps.strs {K : Frag} {F : Hp} {φ : List Addr} : ∀ ns : List Str, Reps K F φ (ns.map V.str) (ns.map D.str)
  | [] => .nil
  | n :: ns => .cons (.str n) (Reps.strs ns)

/-! ### methods -/
inductive Mt where
  | split | join | index
  deriving DecidableEq
def mtName : Mt → Str
  | .split => "split" | .join => "join" | .index => "index"
def gSplit (a : Str) (_ : List Cell) (d : D) : Option D := match d with
  | .str b => if (b.length == 0) = false ∧ a.length + 2 ≤ sizeLine then some (.lst ((Txt.split a b).map .str)) else none
  | _ => none
def gJoin (a : Str) (h : List Cell) (d : D) : Option D := match (seqD h d).bind strsD with
  | some ys => if (ys.map (·.length)).sum + ys.length * a.length ≤ 16777216 then some (.str (Txt.join a ys)) else none
  | none => none
def strM : Mt → Str → List Cell → D → Option D
  | .split => gSplit
  | .join => gJoin
  | .index => fun _ _ _ => none
def onStr (x : D) (k : Str → Option Res) : Option Res := match x with
  | .str a => k a
  | _ => none
theorem onStr_inv {x : D} {k : Str → Option Res} {r : Res} (e : onStr x k = some r) : ∃ a, x = .str a ∧ k a = some r := by
  cases x with
  | str a => exact ⟨a, rfl, e⟩
  | _ => cases e
structure StrS (K : Frag) (r : V → List V → Hp → VK → Prop) (g : Str → List Cell → D → Option D) : Prop where
  go : ∀ {φ : List Addr} {h : List Cell} {F H : Hp} {a : Str} {y : V} {dy d : D} {Q : VK}, Wd K φ h F H → Rep K F φ y dy → g a h dy = some d → (∀ v F' H', Ext F H F' H' → Rep K F' φ v d → Q v H') → r (.str a) [y] H Q
theorem ss_split {K : Frag} : StrS K (fun x xs H Q => ∃ a b, x = .str a ∧ xs = [.str b] ∧ (b.length == 0) = false ∧ a.length + 2 ≤ sizeLine ∧ rNewStrs (Txt.split a b) H Q) gSplit :=
  ⟨fun {φ h F H a y dy d Q} w ry e k => by
    unfold gSplit at e
    split at e
    · rename_i b
      split at e
      · rename_i hc
        cases Option.some.inj e
        rw [ry.str_inv]
        refine ⟨a, b, rfl, rfl, hc.1, hc.2, fun p hp => ?_⟩
        obtain ⟨e3, r3⟩ := new_lst w hp (Reps.strs (K := K) (F := F) (φ := φ) (Txt.split a b))
        exact k _ _ _ e3 r3
      · cases e
    · cases e⟩
theorem ss_join {K : Frag} : StrS K (fun x xs H Q => ∃ a p, ∃ ys : List Str, x = .str a ∧ xs = [.ref p] ∧ (SqL K H p (ys.map V.str) ∨ SqT K H p (ys.map V.str)) ∧
    (ys.map (·.length)).sum + ys.length * a.length ≤ 16777216 ∧ Q (.str (Txt.join a ys)) H) gJoin :=
  ⟨fun {φ h F H a y dy d Q} w ry e k => by
    unfold gJoin at e
    split at e
    · rename_i ys hb
      split at e
      · rename_i hc
        cases Option.some.inj e
        cases q : seqD h dy with
        | none => rw [q] at hb; cases hb
        | some xs =>
          rw [q] at hb
          obtain ⟨p, vs, rfl, hq, rr⟩ := seqD_ok w ry q
          rw [strsD_ok rr hb] at hq
          exact ⟨a, p, ys, rfl, rfl, hq, hc, k _ F H (Ext.refl w.sub) (.str _)⟩
      · cases e
    · cases e⟩
section
variable {X : Cx} {W : WX} {pos apos : Pos} {o e : Expr} {es : List Expr} {fo f : Sx} {g : Lx}
def sStrM (k : Str → List Cell → D → Option D) (fo f : Sx) : Sx := fun ρ h => bnd (fo ρ h) fun x => onStr x fun a => bnd (f ρ h) fun d => vok (k a h d)
theorem starEach_one (h : noStar e = true) : starEach [e] X.env = [(false, eval e X.env)] := starEach_cons h
theorem tM1_of {r : V → List V → Hp → VK → Prop} {k : Str → List Cell → D → Option D} {σ : St} {H : Hp} {Q : VK} (hs : StrS X.K r k) (q : tD X.K X.mg W (sStrM k fo f) σ H Q) : tM1 r (tD X.K X.mg W fo) (tD X.K X.mg W f) σ H Q := by
  obtain ⟨φ, h, F, ρ, res, w, en, hf, want⟩ := q
  refine tD_step w en hf want fun dx x F1 H1 e1 rx hf1 => ?_
  obtain ⟨a, rfl, hf2⟩ := onStr_inv hf1
  refine ⟨⟨a, rx.str_inv⟩, ?_⟩
  refine tD_step (w.ext e1) (en.up e1.up) hf2 (want.ext e1) fun d y F2 H2 e2 ry hk => ?_
  obtain ⟨dd, hd, rfl⟩ := vok_inv hk
  rw [rx.str_inv]
  exact hs.go ((w.ext e1).ext e2) ry hd (want.ext (e1.trans e2))
theorem de_strM (m : Mt) {x : Str} (hx : x = mtName m) (hm : m ≠ .index) (ho : PE X o (tD X.K X.mg W fo)) (he : PE X e (tD X.K X.mg W f)) (hs : noStar e = true) (hb : noSuper o = true) (hl : (apos.endLine == pos.line) = true) :
    PE X (.Call (.Attribute o x apos) [e] [] pos) (tD X.K X.mg W (sStrM (strM m) fo f)) := by
  subst hx
  cases m with
  | split => exact (pe_split ho he (starEach_one hs) (base_of hb) hl).weak fun σ H Q => tM1_of ss_split
  | join => exact (pe_join ho he (starEach_one hs) (base_of hb) hl).weak fun σ H Q => tM1_of ss_join
  | index => exact absurd rfl hm
/-! xs.index(y), y there -/
def gIndex (h : List Cell) (xs : List D) (d : D) : Option D := match scVs xs, scV d with
  | some us, some y => if flatV y = true ∧ us.all flatV = true then (us.findIdx? fun z => eqV z y).map fun (j : Nat) => .int j else none
  | _, _ => none
def onLst (h : List Cell) (x : D) (k : List D → Option Res) : Option Res := match listD h x with
  | some xs => k xs
  | none => none
theorem onLst_inv {h : List Cell} {x : D} {k : List D → Option Res} {r : Res} (e : onLst h x k = some r) : ∃ xs, listD h x = some xs ∧ k xs = some r := by
  unfold onLst at e
  split at e
  · exact ⟨_, by assumption, e⟩
  · cases e
def sIndex (fo f : Sx) : Sx := fun ρ h => bnd (fo ρ h) fun x => onLst h x fun xs => bnd (f ρ h) fun d => vok (gIndex h xs d)
theorem de_index (ho : PE X o (tD X.K X.mg W fo)) (he : PE X e (tD X.K X.mg W f)) (hs : noStar e = true) (hb : noSuper o = true) (hl : (apos.endLine == pos.line) = true) :
    PE X (.Call (.Attribute o "index" apos) [e] [] pos) (tD X.K X.mg W (sIndex fo f)) := by
  have ha : PA X [e] (tA X.K X.mg W (sCons f sNil)) := da_cons he da_nil hs
  refine (pe_bm PySem.F.plainAttrs_list PySem.F.slot_list_index PySem.F.type_list_index mt_index ho ha (base_of hb) ?_ hl (starEach_cons hs) rfl).weak fun σ H Q q => ?_
  · rw [starEach_cons hs]; rfl
  · obtain ⟨φ, h, F, ρ, res, w, en, hf, want⟩ := q
    refine tD_step w en hf want fun dx x F1 H1 e1 rx hf1 => ?_
    obtain ⟨xs, hx, hf2⟩ := onLst_inv hf1
    obtain ⟨a, vs, rfl, hq, rr⟩ := listD_ok (w.ext e1) rx hx
    refine ⟨.inl ⟨rfl, vs, SqL.of hq⟩, ?_⟩
    have hf3 : bndL ((sCons f sNil) ρ h) (fun ds => match ds with | [d] => vok (gIndex h xs d) | _ => none) = some res := by
      unfold sCons consL sNil
      cases h1 : f ρ h with
      | none => rw [h1] at hf2; cases hf2
      | some y =>
        rw [h1] at hf2
        cases y with
        | ok d => exact hf2
        | exc c fs => exact hf2
    refine tA_step (w.ext e1) (en.up e1.up) hf3 (want.ext e1) fun ds us F2 H2 e2 rs hk => ?_
    match ds, rs, hk with
    | [d], rs, hk =>
      obtain ⟨dd, hd, rfl⟩ := vok_inv hk
      obtain ⟨y, rfl, ry⟩ := rs.one
      unfold gIndex at hd
      split at hd
      · rename_i us y' h1 h2
        split at hd
        · rename_i hfl
          obtain ⟨j, hj, rfl⟩ := Option.map_eq_some_iff.mp hd
          have ev := scVs_ok rr h1
          subst ev
          have ey := scV_ok ry h2
          subst ey
          rw [List.findIdx?_eq_some_iff_getElem] at hj
          obtain ⟨hlt, h3, h4⟩ := hj
          refine ⟨a, vs, y, j, vs[j], rfl, rfl, SqL.of (e2.keep _ _ hq), hfl.1, hfl.2, by simp [hlt], h3, fun m z' hm hz => ?_, want _ F2 H2 (e1.trans e2) (.int _)⟩
          have hml : m < vs.length := by omega
          have : vs[m] = z' := by rw [List.getElem?_eq_getElem hml] at hz; exact Option.some.inj hz
          subst this
          have := h4 m hm
          simpa using this
        · cases hd
      · cases hd

/-! ### f-strings -/
def fmtD : D → Option D
  | .str y => if y.length ≤ sizeLine then some (.str y) else none
  | .int i => if i.natAbs.log2 < 1920 then some (.str (toString i)) else none
  | _ => none
def sFmt (f : Sx) : Sx := fun ρ h => bnd (f ρ h) fun x => vok (fmtD x)
theorem de_fmt (he : PE X e (tD X.K X.mg W f)) : PE X (.FormattedValue e (-1) none pos) (tD X.K X.mg W (sFmt f)) := by
  refine (pe_fmt he).weak fun σ H Q q => ?_
  obtain ⟨φ, h, F, ρ, res, w, en, hf, want⟩ := q
  refine tD_step w en hf want fun dx x F1 H1 e1 rx hk => ?_
  obtain ⟨dd, hd, rfl⟩ := vok_inv hk
  cases dx with
  | str y =>
    have hd' : (if y.length ≤ sizeLine then some (D.str y) else none) = some dd := hd
    split at hd'
    · rename_i hz
      cases Option.some.inj hd'
      exact .inl ⟨y, rx.str_inv, hz, want _ F1 H1 e1 (.str _)⟩
    · cases hd'
  | int i =>
    have hd' : (if i.natAbs.log2 < 1920 then some (D.str (toString i)) else none) = some dd := hd
    split at hd'
    · rename_i hz
      cases Option.some.inj hd'
      exact .inr ⟨i, rx.int_inv, hz, want _ F1 H1 e1 (.str _)⟩
    · cases hd'
  | _ => cases hd
/-- the parts of an f-string -/
inductive PFs (X : Cx) (W : WX) : List Expr → List Sx → Prop where
  | nil : PFs X W [] []
  | cons {e : Expr} {f : Sx} {es : List Expr} {fs : List Sx} (h : PE X e (tD X.K X.mg W f)) (r : PFs X W es fs) : PFs X W (e :: es) (f :: fs)
theorem PFs.pj : ∀ {es : List Expr} {fs : List Sx}, PFs X W es fs → PJ X es (fs.map (tD X.K X.mg W))
  | _, _, .nil => .nil
  | _, _, .cons h r => .cons h r.pj
def sJoined : List Sx → Str → Sx
  | [], acc => fun _ _ => some (.ok (.str acc))
  | f :: fs, acc => fun ρ h => bnd (f ρ h) fun x => onStr x fun y => if (acc ++ y).length ≤ sizeLine then sJoined fs (acc ++ y) ρ h else none
theorem tJs_of {K : Frag} {mg : Str → Option Value} {φ : List Addr} {h : List Cell} {ρ : Rho} {σ : St} {Q : VK} {res : Res} : ∀ {fs : List Sx} {acc : Str} {F H : Hp}, Wd K φ h F H → Env1 K F φ σ ρ → sJoined fs acc ρ h = some res → Want K mg W φ F H σ Q res →
    tJs (fs.map (tD K mg W)) acc σ H fun out H1 => Q (.str out) H1
  | [], acc, F, H, w, en, hf, want => by
    have hr : Res.ok (.str acc) = res := Option.some.inj hf
    subst hr
    exact want _ F H (Ext.refl w.sub) (.str _)
  | f :: fs, acc, F, H, w, en, hf, want => by
    refine tD_step w en hf want fun dx x F1 H1 e1 rx hk => ?_
    obtain ⟨y, rfl, hk2⟩ := onStr_inv hk
    split at hk2
    · rename_i hz
      exact ⟨y, rx.str_inv, hz, tJs_of (w.ext e1) (en.up e1.up) hk2 (want.ext e1)⟩
    · cases hk2
theorem de_joined {v1 v2 : Expr} {rest : List Expr} {fs : List Sx} (h : PFs X W (v1 :: v2 :: rest) fs) : PE X (.JoinedStr (v1 :: v2 :: rest) pos) (tD X.K X.mg W (sJoined fs Str.empty)) := by
  refine (pe_joined h.pj).weak fun σ H Q q => ?_
  obtain ⟨φ, h, F, ρ, res, w, en, hf, want⟩ := q
  exact tJs_of w en hf want

/-! ### isinstance of a built-in class -/
inductive Tb where
  | bool | int | str | tuple | list
  deriving DecidableEq
def tbName : Tb → Str
  | .bool => "bool" | .int => "int" | .str => "str" | .tuple => "tuple" | .list => "list"
def tbS : Tb → String
  | .bool => "bool" | .int => "int" | .str => "str" | .tuple => "tuple" | .list => "list"
/-- a datum's type, where it is plain -/
inductive Ti where
  | non | bool | int | str | tuple | list
def tiS : Ti → String
  | .non => "NoneType" | .bool => "bool" | .int => "int" | .str => "str" | .tuple => "tuple" | .list => "list"
def isiT : Tb → Ti → Bool
  | .bool, .bool => true
  | .int, .bool => true
  | .int, .int => true
  | .str, .str => true
  | .tuple, .tuple => true
  | .list, .list => true
  | _, _ => false
theorem kit_isi {K : Frag} : ∀ (T : Tb) (t : Ti), PySem.W.kitOne K (.type (tiS t)) (.type (tbS T)) = some (isiT T t)
  | .bool, .non => kit_ty (by decide +kernel) | .bool, .bool => kit_ty (by decide +kernel) | .bool, .int => kit_ty (by decide +kernel) | .bool, .str => kit_ty (by decide +kernel) | .bool, .tuple => kit_ty (by decide +kernel) | .bool, .list => kit_ty (by decide +kernel)
  | .int, .non => kit_ty (by decide +kernel) | .int, .bool => kit_ty (by decide +kernel) | .int, .int => kit_ty (by decide +kernel) | .int, .str => kit_ty (by decide +kernel) | .int, .tuple => kit_ty (by decide +kernel) | .int, .list => kit_ty (by decide +kernel)
  | .str, .non => kit_ty (by decide +kernel) | .str, .bool => kit_ty (by decide +kernel) | .str, .int => kit_ty (by decide +kernel) | .str, .str => kit_ty (by decide +kernel) | .str, .tuple => kit_ty (by decide +kernel) | .str, .list => kit_ty (by decide +kernel)
  | .tuple, .non => kit_ty (by decide +kernel) | .tuple, .bool => kit_ty (by decide +kernel) | .tuple, .int => kit_ty (by decide +kernel) | .tuple, .str => kit_ty (by decide +kernel) | .tuple, .tuple => kit_ty (by decide +kernel) | .tuple, .list => kit_ty (by decide +kernel)
  | .list, .non => kit_ty (by decide +kernel) | .list, .bool => kit_ty (by decide +kernel) | .list, .int => kit_ty (by decide +kernel) | .list, .str => kit_ty (by decide +kernel) | .list, .tuple => kit_ty (by decide +kernel) | .list, .list => kit_ty (by decide +kernel)
def tiD (h : List Cell) : D → Option Ti
  | .non => some .non | .bl _ => some .bool | .int _ => some .int | .str _ => some .str | .tup _ => some .tuple | .lst _ => some .list | .scr _ => some .list
  | .ref n => (match h[n]? with
    | some (.lst _) => some .list
    | _ => none)
  | _ => none
theorem tiD_ok {K : Frag} {φ : List Addr} {h : List Cell} {F H : Hp} {v : V} {d : D} {t : Ti} (w : Wd K φ h F H) (r : Rep K F φ v d) (e : tiD h d = some t) : TyX K H v (.type (tiS t)) := by
  cases r with
  | non => cases Option.some.inj e; exact .base .non
  | bl b => cases Option.some.inj e; exact .base (.bl b)
  | int i => cases Option.some.inj e; exact .base (.int i)
  | str x => cases Option.some.inj e; exact .base (.str x)
  | tup q _ =>
    cases Option.some.inj e
    rcases q with (q | ⟨o, q⟩) | ⟨o, its, n, h1, h2, _⟩
    · exact .base (.tup (w.sub _ _ q))
    · exact .fTuple (w.sub _ _ q)
    · exact .kTuple h1 h2
  | lst q _ => cases Option.some.inj e; exact .base (.lst (w.sub _ _ q))
  | @ref a n q =>
    have e' : (match h[n]? with | some (.lst _) => some Ti.list | _ => none) = some t := e
    cases hc : h[n]? with
    | none => rw [hc] at e'; cases e'
    | some c =>
      cases c with
      | lst ys =>
        rw [hc] at e'
        cases Option.some.inj e'
        obtain ⟨b, vs, h1, h2, h3⟩ := w.cell n ys hc
        rw [q] at h1; cases h1
        exact .base (.lst h2)
  | scr q =>
    cases Option.some.inj e
    rcases q with (q | ⟨o, q⟩) | ⟨o, its, n, h1, h2, _⟩
    · exact .base (.lst (w.sub _ _ q))
    · exact .base (.frz (w.sub _ _ q))
    · exact .kList h1 h2
def sIsi (T : Tb) (f : Sx) : Sx := fun ρ h => bnd (f ρ h) fun x => vok ((tiD h x).map fun t => .bl (isiT T t))
theorem de_isi (T : Tb) {x y : Str} (hx : x = ("isinstance" : Str)) (hy : y = tbName T) {p p2 : Pos} (hg : Gl X x) (hm : X.mg x = none) (hg2 : Gl X y) (hm2 : X.mg y = none) (he : PE X e (tD X.K X.mg W f)) (hs : noStar e = true) :
    PE X (.Call (.Name x p) [e, .Name y p2] [] pos) (tD X.K X.mg W (sIsi T f)) := by
  subst hx
  have h2 : PE X (.Name y p2) (tC (.ty (tbS T))) := by
    subst hy
    cases T <;> exact pe_bltn hg2 hm2 (by decide +kernel) rfl (by decide +kernel) (by decide +kernel)
  have ha : PA X [e, .Name y p2] (tCons (tD X.K X.mg W f) (tCons (tC (.ty (tbS T))) tNil)) := pa_cons he (pa_cons h2 pa_nil rfl) (starEach_cons hs)
  refine (pe_callB call_isi hg hm (by decide +kernel) ha (by decide +kernel) (by decide +kernel) (starEach_cons hs) rfl).weak fun σ H Q q => ?_
  obtain ⟨φ, h, F, ρ, res, w, en, hf, want⟩ := q
  refine tD_step w en hf want fun dx x F1 H1 e1 rx hk => ?_
  obtain ⟨dd, hd, rfl⟩ := vok_inv hk
  obtain ⟨t, h1, rfl⟩ := Option.map_eq_some_iff.mp hd
  exact ⟨x, .ty (tbS T), .type (tiS t), .type (tbS T), isiT T t, rfl, .ty _, tiD_ok (w.ext e1) rx h1, kit_isi T t, want _ F1 H1 e1 (.bl _)⟩

/-! ### a written dict: d[e], e in d -/
def keyD : D → Option Key
  | .int i => some (.inl i)
  | .str x => some (.inr x)
  | _ => none
theorem keyD_ok {K : Frag} {F : Hp} {φ : List Addr} {v : V} {d : D} {k : Key} (r : Rep K F φ v d) (e : keyD d = some k) : v = kV k := by
  cases r <;> first | (cases Option.some.inj e; rfl) | cases e
/-- the dict of the written part at a -/
structure WDic (P : Program) (w : World) (K : Frag) (a : Addr) (kvs : List (Key × V)) : Prop where
  low : (a == sysModules) = false
  at_ : ∀ h : Heap, K.In h → ∃ vs, KV kvs vs ∧ h.DictOf (mixKind P w) a vs
theorem kVs_is {k : Key} {u : Value} (r : RelV (kV k) u) : keyIs k u = true := by
  cases k with
  | inl i => obtain ⟨t, rfl⟩ := (show ∃ t, u = Value.int i t from r); exact keyIs_int i t
  | inr x => obtain ⟨t, rfl⟩ := (show ∃ t, u = Value.str x t from r); exact keyIs_str x t
theorem ix_wdic {a : Addr} {kvs : List (Key × V)} (Dc : WDic X.prog X.w X.K a kvs) : IxR X (fun x y H Q => ∃ k v, x = .ref a ∧ y = kV k ∧ valV kvs k = some v ∧ Q v H) := by
  intro value slice pins s σ H x y v u Q I rx ry h hs
  obtain ⟨k, z, rfl, rfl, hz, q⟩ := h
  cases rx
  obtain ⟨vs, rel, dd⟩ := Dc.at_ s.heap I.kIn
  obtain ⟨w', hw, rw'⟩ := RelO.some_of (v := z) (o := valueAt vs k) (by rw [← hz]; exact rel.val k)
  obtain ⟨o, es, ep, ho, hex, hd, _⟩ := id dd
  exact tail_any ⟨o, ho, hex.1⟩ slot_dict_getitem.lookup (wpAny_getItem_of (kVs_is ry) dd.mapOf hw ⟨z, H, I.tok _, rw', q⟩) hs
theorem in_wdic {a : Addr} {kvs : List (Key × V)} (Dc : WDic X.prog X.w X.K a kvs) : OpR X (compareOp .In) (fun x y H Q => ∃ k, y = .ref a ∧ x = kV k ∧ Q (.bl (valV kvs k).isSome) H) := by
  intro pins s σ H x y v u Q I rx ry h
  obtain ⟨k, rfl, rfl, q⟩ := h
  cases ry
  obtain ⟨vs, rel, dd⟩ := Dc.at_ s.heap I.kIn
  refine wpAny_in_of (kVs_is rx) Dc.low dd.mapOf ?_
  rw [← (rel.val k).isSome_eq]
  exact ⟨.bl _, H, I.tok _, rfl, q⟩
theorem notIn_wdic {a : Addr} {kvs : List (Key × V)} (Dc : WDic X.prog X.w X.K a kvs) : OpR X (compareOp .NotIn) (fun x y H Q => ∃ k, y = .ref a ∧ x = kV k ∧ Q (.bl (!(valV kvs k).isSome)) H) := by
  intro pins s σ H x y v u Q I rx ry h
  obtain ⟨k, rfl, rfl, q⟩ := h
  cases ry
  obtain ⟨vs, rel, dd⟩ := Dc.at_ s.heap I.kIn
  refine wpAny_notIn_of (kVs_is rx) Dc.low dd.mapOf ?_
  rw [← (rel.val k).isSome_eq]
  exact ⟨.bl _, H, I.tok _, rfl, q⟩
end
end DL

set_option Elab.async false
set_option linter.all false
set_option maxRecDepth 100000
/-! DLt: exceptions that fly through comprehensions: what a context takes, by its frame. -/
namespace DL
open PySem PySem.Spec PyProof.Rows L2

/-- an exception in flight over the frames of X, or noted at the frame L -/
def XF (X : Cx) (W : WX) (L : Addr) (u : Value) (s' : Shared) : Prop :=
  ∃ (a : Addr) (B : Heap) (sI : Shared) (pins : List (Addr × Obj)) (σ : L2.St) (H : Hp) (cls : Value) (d : Option Addr),
    u = .ref a ∧ Inv X pins σ H sI ∧ (∀ b o, sI.heap.get? b = some o → b ∉ frs X.stack → B.get? b = some o) ∧ sI.heap.UpToSlots s'.heap ∧
      (HandSPX.FlyingZ B X.stack a (Zc cls d) s'.heap ∨ HandSPX.HeldZ B X.stack a (Zc cls d) L s'.heap) ∧ H a = none ∧ s'.os = sI.os ∧ AllBare s'.gens ∧ W cls d σ H
structure Tk (X : Cx) (W : WX) : Prop where
  ex : ∃ (L : Addr) (e0 : Env) (r : List Env), X.env.frame = some L ∧ X.stack = e0 :: r ∧ e0.frame = some L ∧ ∀ u s', XF X W L u s' → X.xe u s'
theorem Tk.of {X : Cx} {W : WX} (hs : X.stack = X.env :: X.outer) (hf : X.env.frame = some X.env.locals) (tk : Takes X W) : Tk X W :=
  ⟨X.env.locals, X.env, X.outer, hf, hs, hf, fun u s' ⟨a, B, sI, pins, σ, H, cls, d, e, I, nb, up, sky, na, os, ag, w⟩ => tk u s' ⟨a, B, sI, pins, σ, H, cls, d, e, I, nb, up, .inr sky, na, os, ag, w⟩⟩
/-- what a callee may let out is taken -/
theorem Tk.pass {X : Cx} {W : WX} (tk : Tk X W) (σ : L2.St) : PassesAt (L2.CX X.prog X.w) X σ (WE W σ) := by
  obtain ⟨L, e0, r, _, _, _, tk⟩ := tk.ex
  intro pins H s u s' I c
  refine tk u s' ?_
  obtain ⟨a, B, H', cls, d, rfl, fl, hok, ub, na, os, ag, hE⟩ := c
  have st : B.StaysIn s'.heap := fl.1
  -- the state without the exception: the ground and the frames
  obtain ⟨G, g1, g2⟩ := restrict s'.heap fun b => (B.get? b).isSome || decide (b ∈ frs X.stack)
  have inB : ∀ {b o}, B.get? b = some o → G.get? b = some o := fun {b o} e => (g1 b (by simp [e])).trans (st b o e)
  have inF : ∀ {b}, b ∈ frs X.stack → G.get? b = s'.heap.get? b := fun {b} hb => g1 b (by simp [hb])
  have out : ∀ {b o}, G.get? b = some o → s'.heap.get? b = some o ∧ (b ∉ frs X.stack → B.get? b = some o) := fun {b o} e => by
    cases q : ((B.get? b).isSome || decide (b ∈ frs X.stack)) with
    | false => rw [g2 b q] at e; cases e
    | true =>
      have e' := (g1 b q).symm.trans e
      refine ⟨e', fun hb => ?_⟩
      rcases Bool.or_eq_true_iff.mp q with z | z
      · obtain ⟨o2, h2⟩ := Option.isSome_iff_exists.mp z
        have h3 := st b o2 h2
        rw [e'] at h3; cases h3
        exact h2
      · exact absurd (of_decide_eq_true z) hb
  refine ⟨a, B, { s with heap := G, gens := s'.gens, drawn := s'.drawn, toks := s'.toks }, pins, σ, H', cls, d, rfl, ?_, fun b o e hb => (out e).2 hb, Heap.UpToSlots.of_keeps fun b o e => (out e).1, .inl fl, na, os, ag, hE⟩
  refine I.call (ch := []) ⟨fun b o e n hb _ => inB (ub.keep b o e n hb), fun b o e n hb _ => ?_, fun b o e n _ => ub.free b o e n, fun b o e _ => ?_, ub.tups, ub.frzs, ub.tbls⟩ (hok.kept fun b o e => inB e) ag (fun _ z => nomatch z)
  · obtain ⟨sl, q⟩ := ub.slot b o e hb
    exact ⟨sl, (inF hb).trans q⟩
  · by_cases hb : b ∈ frs X.stack
    · obtain ⟨sl, q⟩ := ub.slot b o e hb
      exact ⟨_, (inF hb).trans q⟩
    · obtain ⟨o', q⟩ := ub.there b o e hb
      exact ⟨o', inB q⟩
theorem Tk.imp {X : Cx} {W W' : WX} (t : Tk X W) (h : ∀ c d σ H, W' c d σ H → W c d σ H) : Tk X W' := by
  obtain ⟨L, e0, r, h1, h2, h3, tk⟩ := t.ex
  exact ⟨L, e0, r, h1, h2, h3, fun u s' ⟨a, B, sI, pins, σ, H, cls, d, e, I, nb, up, sky, na, os, ag, w⟩ => tk u s' ⟨a, B, sI, pins, σ, H, cls, d, e, I, nb, up, sky, na, os, ag, h _ _ _ _ w⟩⟩

theorem noteFrame_by {x : Value} {e e' : Env} (h : e.frame = e'.frame) : noteFrame x e = noteFrame x e' := by
  unfold noteFrame PySem.frameOf
  rw [h]

/-! ### a comprehension, its environment known where it ends by an exception -/
def cPost (M : Model) (A : Around) (E : Value → Shared → Prop) (use : Option (Value → Sem Unit)) (Q : Value → Shared → Prop) (acc : Value) (ce : Env) (r : Result) (s' : Shared) : Prop :=
  match r, use with
  | .ok _, none => ∃ m, s'.heap.Ns ce.locals m ∧ ∀ h', Heap.SameBut ce.locals s'.heap h' → Q acc { s' with heap := h' }
  | .ok _, some u => wpAny M A (u acc) (fun _ s'' => ∃ m, s''.heap.Ns ce.locals m ∧ ∀ h', Heap.SameBut ce.locals s''.heap h' → Q .none { s'' with heap := h' }) E s'
  | .error x, _ => ∃ m, s'.heap.Ns ce.locals m ∧ ∀ h', Heap.SameBut ce.locals s'.heap h' → wpAny M A (passOn "comprehension.variables-let-go" x ce : Sem Value) (fun _ _ => False) E { s' with heap := h' }
section
variable {M : Model} {A : Around} {E : Value → Shared → Prop} {s : Shared} {env : Env}
theorem comp_go {e : Expr} {scope : Scope} {pos : Pos} {newAcc first : Sem Value} {g : Comprehension} {gs : List Comprehension} {cl : List (Str × Addr)} {use : Option (Value → Sem Unit)} {Q : Value → Shared → Prop}
    (hcl : clausesOf e = g :: gs) (hs : ∀ x, foldedSetIterable g.iter env x = pure x) (hclos : closureFor scope env = pure cl)
    (hkind : scope.kind = .function) (hnames : ∀ x ∈ scope.names, x.2 = .local → scope.names.lookup x.1 = some .local)
    (h : wpAny M A first (fun x s₁ => wpAny M A (pyIter x) (fun it s₂ => wpAny M A newAcc (fun acc s₃ =>
      wpAny M A (newFunctionEnv scope env.globals cl [] env.qual none .none (some env)) (fun cenv s₄ =>
        codeAny M A (.compStart e 0 it acc { cenv with scope := relabel scope env }) (cPost M A E use Q acc { cenv with scope := relabel scope env }) s₄) E s₃) E s₂) E s₁) E s) :
    wpAny M A (comprehension e scope env pos newAcc false first use) Q E s := by
  unfold comprehension
  rw [hclos, hcl]
  refine wpAny_bind (wpAny_mono h (fun x s₁ k1 => ?_) fun _ _ z => z)
  refine wpAny_bind (wpAny_standAt (wpAny_bind (wpAny_of_eq (hs x) (wpAny_bind (wpAny_holding (wpAny_mono k1 (fun it s₂ k2 => ?_) fun _ _ z => z))))))
  refine wpAny_standIf (wpAny_bind (wpAny_mono k2 (fun acc s₃ k3 => ?_) fun _ _ z => z))
  refine wpAny_bind (wpAny_pure (wpAny_bind (wpAny_mono k3 (fun cenv s₄ k4 => ?_) fun _ _ z => z)))
  dsimp only
  -- the block's own names, in the order in which they go
  have own : ∀ x ∈ (scope.names.filter fun x => (x.2 == .local || x.2 == .cell) && x.1 != (".0" : Str)).reverse, x.2 = .local → Env.kindOf { cenv with scope := relabel scope env } x.1 = some .local :=
    fun x hx hl => lookup_relabel_local (hnames x (List.mem_filter.mp (List.mem_reverse.mp hx)).1 hl)
  have own' : ∀ x ∈ (scope.names.filter fun x => (x.2 == .local || x.2 == .cell) && x.1 != (".0" : Str)).reverse.drop 1 ++ (scope.names.filter fun x => (x.2 == .local || x.2 == .cell) && x.1 != (".0" : Str)).reverse.take 1,
      x.2 = .local → Env.kindOf { cenv with scope := relabel scope env } x.1 = some .local := fun x hx hl => (List.mem_append.mp hx).elim (fun z => own x (List.mem_of_mem_drop z) hl) fun z => own x (List.mem_of_mem_take z) hl
  refine wpAny_holding (wpAny_bind (wpAny_attempt (wpAny_holding (wpAny_run (codeAny_mono k4 fun r s' k5 => ?_)))))
  cases r with
  | ok f =>
    cases use with
    | none =>
      obtain ⟨m, hn, k6⟩ := k5
      exact wpAny_bind (wpAny_holding (wpAny_comp_letGo (cenv := { cenv with scope := relabel scope env }) hkind _ s' m own hn fun h' m' _ hb => wpAny_pure (k6 h' hb)))
    | some u =>
      refine wpAny_bind (wpAny_rule (wpAny_bind (wpAny_holding (wpAny_mono k5 (fun _ s'' k6 => ?_) fun _ _ z => z))))
      obtain ⟨m, hn, k7⟩ := k6
      exact wpAny_bind (wpAny_comp_letGo (cenv := { cenv with scope := relabel scope env }) hkind _ s'' m own' hn fun h' m' _ hb => wpAny_pure (k7 h' hb))
  | error x =>
    have k6 : ∃ m, s'.heap.Ns cenv.locals m ∧ ∀ h', Heap.SameBut cenv.locals s'.heap h' → wpAny M A (passOn "comprehension.variables-let-go" x { cenv with scope := relabel scope env } : Sem Value) (fun _ _ => False) E { s' with heap := h' } := by cases use <;> exact k5
    obtain ⟨m, hn, k7⟩ := k6
    exact wpAny_bind (wpAny_holding (wpAny_comp_letGo (cenv := { cenv with scope := relabel scope env }) hkind _ s' m own hn fun h' m' _ hb => wpAny_mono (k7 h' hb) (fun _ _ z => z.elim) fun _ _ z => z))
end

/-! ### an exception leaves a comprehension's block -/
section
variable {X : Cx} {W : WX} {pins : List (Addr × Obj)} {σ : L2.St} {H3 : Hp} {s3 : Shared}
/-- the wish of the block: noted, the block's names gone, passed on -/
def xeB (X : Cx) (use : Option (Value → Sem Unit)) (Qf : Value → Shared → Prop) (acc : Value) (ce : Env) : Value → Shared → Prop :=
  notedBy (model X.prog X.w) X.A ce fun e s' => cPost (model X.prog X.w) X.A X.xe use Qf acc ce (.error e) s'
theorem blkTk (tk : Tk X W) (I3 : Inv X pins σ H3 s3) {scope : Scope} {cl : List (Str × Addr)} {fp : List Addr} (f3 : ∀ b ∈ fp, FpOk X pins H3 b ∧ b < s3.heap.objs.size) (use : Option (Value → Sem Unit)) (Qf : Value → Shared → Prop) (acc : Value) :
    Tk ((X.blk s3 H3 scope (compEnvC scope cl s3.heap.objs.size X.env) fp).wish (xeB X use Qf acc (compEnvC scope cl s3.heap.objs.size X.env))) (fun c d _ H => W c d σ H) := by
  obtain ⟨L, e0, r, hf, hst, hf0, tk⟩ := tk.ex
  generalize hC : s3.heap.objs.size = C
  generalize hce : compEnvC scope cl C X.env = ce
  have cL : ce.locals = C := by subst hce; rfl
  have cF : ce.frame = X.env.frame := by subst hce; rfl
  refine ⟨L, e0, r, cF.trans hf, hst, hf0, fun u s' x => ?_⟩
  obtain ⟨a, B, sI, pins', σ', H', cls, d, rfl, I, nb, up, sky, na, os, ag, w⟩ := x
  have nb : ∀ b o, sI.heap.get? b = some o → b ∉ frs X.stack → B.get? b = some o := nb
  have hfr : X.A.frames = some (e0 :: r) := by rw [← hst]; exact I.ok.frames
  have nC : C ∉ frs X.stack := fun z => by
    obtain ⟨_, o, ho, _⟩ := I3.stack.mem z
    exact absurd (Nat.lt_of_lt_of_le (Heap.lt_size ho) (Nat.le_of_eq hC)) (Nat.lt_irrefl _)
  obtain ⟨m, hn, _⟩ := I.loc
  have hn : sI.heap.Ns ce.locals m := hn
  rw [cL] at hn
  obtain ⟨oC, esC, epC, hoC, hdC, hrC⟩ := id hn
  have bC : B.get? C = some oC := nb C oC hoC nC
  show wpAny (model X.prog X.w) X.A (noteFrame (.ref a) ce) _ _ _
  rw [noteFrame_by (show ce.frame = e0.frame by rw [cF, hf, hf0])]
  -- held at our frame
  have fin : ∀ h1, HandSPX.HeldZ B (e0 :: r) a (Zc cls d) L h1 → s'.heap.UpToSlots h1 → cPost (model X.prog X.w) X.A X.xe use Qf acc ce (.error (.ref a)) { s' with heap := h1 } := fun h1 hh up1 => by
    obtain ⟨st1, bna, ff1, tr1⟩ := hh
    have upI := up.trans up1
    show ∃ m, h1.Ns ce.locals m ∧ ∀ h', Heap.SameBut ce.locals h1 h' → _
    rw [cL]
    have h1C : h1.get? C = some oC := st1 C oC bC
    refine ⟨m, ⟨oC, esC, epC, h1C, hdC, hrC⟩, fun h' sb => ?_⟩
    obtain ⟨B', b1, b2⟩ := restrict B fun b => decide (b ≠ C)
    have b1 : ∀ b, b ≠ C → B'.get? b = B.get? b := fun b hb => b1 b (by simp [hb])
    have b2 : B'.get? C = none := b2 C (by simp)
    have inB : ∀ {b o}, B'.get? b = some o → b ≠ C ∧ B.get? b = some o := fun {b o} e => by
      have : b ≠ C := fun z => by rw [z, b2] at e; cases e
      exact ⟨this, (b1 b this).symm.trans e⟩
    have noB : ∀ {b}, B.get? b = none → B'.get? b = none := fun {b} e => by
      by_cases hb : b = C
      · rw [hb]; exact b2
      · rw [b1 b hb]; exact e
    have st2 : B'.StaysIn h' := fun b o e => (sb.2 b (inB e).1).trans (st1 b o (inB e).2)
    have ff2 : ∀ {l : List Env}, h1.FunFrames B l → h'.FunFrames B' l := by
      intro l
      induction l with
      | nil => intro _; trivial
      | cons env l ih =>
        rintro ⟨hk, ⟨M, o, g1, g2, g3, g4⟩, hr⟩
        have : M ≠ C := fun z => by rw [z, bC] at g2; cases g2
        exact ⟨hk, ⟨M, o, g1, noB g2, (sb.2 M this).trans g3, g4⟩, ih hr⟩
    obtain ⟨oe, vs, T, oT, ts, he, hz, hd, hv1, hnT, hTe, hT, hdT, h3⟩ := tr1
    have aC : a ≠ C := fun z => by
      rw [z, h1C] at he; cases he
      rw [hdC] at hd; cases hd
    have tC : T ≠ C := fun z => by
      rw [z, h1C] at hT; cases hT
      rw [hdC] at hdT; cases hdT
    have he' : h'.get? a = some oe := (sb.2 a aC).trans he
    have tr2 : HandSPX.TracedZ h' B' a (Zc cls d) (rawInt L) := ⟨oe, vs, T, oT, ts, he', hz, hd, hv1, noB hnT, hTe, (sb.2 T tC).trans hT, hdT, h3⟩
    unfold PySem.passOn
    refine wpAny_bind (wpAny_field he' hd hv1 ?_)
    rw [if_neg (show ¬ ((Value.ref T == Value.none) = true) from by simp)]
    have last : wpAny (model X.prog X.w) X.A (setFlight (.ref a) ce.frame) (fun _ s4 => wpAny (model X.prog X.w) X.A (throw (.ref a) : Sem Value) (fun _ _ => False) X.xe s4) X.xe { s' with heap := h' } := by
      rw [cF, hf]
      refine HandSPX.setFlight_anyZ (base := B') (l := e0 :: r) (Z := Zc cls d) st2 (ff2 ff1) tr2 fun h2 k1 k2 k3 k4 => wpAny_throw (tk _ _ ?_)
      -- the state of the def without the exception and the block
      obtain ⟨G, g1, g2⟩ := restrict sI.heap fun b => decide (b ≠ C)
      have g1 : ∀ b, b ≠ C → G.get? b = sI.heap.get? b := fun b hb => g1 b (by simp [hb])
      have g2 : G.get? C = none := g2 C (by simp)
      have inG : ∀ {b o}, G.get? b = some o → b ≠ C ∧ sI.heap.get? b = some o := fun {b o} e => by
        have : b ≠ C := fun z => by rw [z, g2] at e; cases e
        exact ⟨this, (g1 b this).symm.trans e⟩
      have J : Inv X pins σ H' sI := I3.call' (ch := fp) I.os I.base I.hok I.bare fun b hb => ⟨(f3 b hb).1.2.2.2.1, (f3 b hb).1.2.1, (f3 b hb).1.2.2.2.2.1, (f3 b hb).1.2.2.2.2.2⟩
      have nH : H' C = none := by
        have z : H' ce.locals = none := I.free
        rw [cL] at z
        exact z
      obtain ⟨_, p1, p2, p3, p4, p5⟩ := I3.fpOk (b := C) (Nat.le_of_eq hC) nH
      have J2 : Inv X pins σ H' { sI with heap := G } := J.turned (t' := sI.toks) (it := C) (fun b o hb e => (g1 b hb).trans e) nH p1 p3 p4 p5
      refine ⟨a, B', { sI with heap := G }, pins, σ, H', cls, d, rfl, J2, fun b o e hb => ?_, fun b o e hnf => ?_, .inr ?_, na, os, ag, w⟩
      · obtain ⟨e1, e2⟩ := inG e
        rw [b1 b e1]
        exact nb b o e2 hb
      · obtain ⟨e1, e2⟩ := inG e
        obtain ⟨sl, q⟩ := upI b o e2 hnf
        have q' : h'.get? b = some { o with slots := sl } := (sb.2 b e1).trans q
        obtain ⟨sl2, q2⟩ := k4 b _ q' hnf
        exact ⟨sl2, q2⟩
      · rw [hst]
        exact ⟨k1, noB bna, k2, k3⟩
    first
      | exact wpAny_bind (wpAny_pure (wpAny_bind last))
      | exact wpAny_bind last
  have sky' : HandSPX.FlyingZ B (e0 :: r) a (Zc cls d) s'.heap ∨ HandSPX.HeldZ B (e0 :: r) a (Zc cls d) L s'.heap := by
    have z : HandSPX.FlyingZ B X.stack a (Zc cls d) s'.heap ∨ HandSPX.HeldZ B X.stack a (Zc cls d) L s'.heap := sky
    rw [hst] at z; exact z
  rcases sky' with fl | hh
  · exact HandSPX.looks_onZ Zc.steady hfr hf0 fl fin
  · exact HandSPX.againZ hf0 hh.2.2.2 (fin s'.heap hh (Heap.UpToSlots.refl _))
end
end DL

set_option Elab.async false
set_option linter.all false
set_option maxRecDepth 100000
/-! DLg: a def's promise over data; calls of the module's own defs. -/
namespace DL
open PySem PySem.Spec PyProof.Rows L2

/-- what a def hands back: data; a list that it has just made (nobody else holds it); an exception -/
inductive Rf where
  | val (d : D)
  | lstF (xs : List D)
  | exc (c : Str) (fs : List (Str × D))
abbrev Fn := List D → Option Rf

mutual
/-- nothing of a frame's own within -/
def noRef : D → Bool
  | .tup xs => noRefs xs
  | .lst xs => noRefs xs
  | .ref _ => false
  | _ => true
def noRefs : List D → Bool
  | [] => true
  | x :: xs => noRef x && noRefs xs
end
mutual
/-- nothing within that may ever change: scalars and tuples of such -/
def immD : D → Bool
  | .non => true | .bl _ => true | .int _ => true | .str _ => true
  | .tup xs => immDs xs
  | _ => false
def immDs : List D → Bool
  | [] => true
  | x :: xs => immD x && immDs xs
end
section
variable {K : Frag} {F F' H H' : Hp} {φ φ' : List Addr}
mutual
theorem Rep.noRef : ∀ {v : V} {d : D}, Rep K F φ v d → noRef d = true → Rep K F φ' v d
  | _, _, .non, _ => .non
  | _, _, .bl b, _ => .bl b
  | _, _, .int i, _ => .int i
  | _, _, .str s, _ => .str s
  | _, _, .tup h t, e => .tup h (t.noRefs e)
  | _, _, .lst h t, e => .lst h (t.noRefs e)
  | _, _, .ref _, e => by cases e
  | _, _, .scr h, _ => .scr h
theorem Reps.noRefs : ∀ {vs : List V} {ds : List D}, Reps K F φ vs ds → noRefs ds = true → Reps K F φ' vs ds
  | _, _, .nil, _ => .nil
  | _, _, .cons r t, e => by
    have e' := Bool.and_eq_true_iff.mp (show (DL.noRef _ && DL.noRefs _) = true from e)
    exact .cons (r.noRef e'.1) (t.noRefs e'.2)
end
mutual
/-- what never changes needs no more than what is no list -/
theorem Rep.imm (k : ∀ a o, F a = some o → ¬ Mut (some o) → F' a = some o) : ∀ {v : V} {d : D}, Rep K F φ v d → immD d = true → Rep K F' φ' v d
  | _, _, .non, _ => .non
  | _, _, .bl b, _ => .bl b
  | _, _, .int i, _ => .int i
  | _, _, .str s, _ => .str s
  | _, _, .tup h t, e => by
    refine .tup ?_ (t.imm k e)
    rcases h with (h | ⟨o, h⟩) | h
    · exact .inl (.inl (k _ _ h fun z => z))
    · exact .inl (.inr ⟨o, k _ _ h fun z => z⟩)
    · exact .inr h
  | _, _, .lst h t, e => by cases e
  | _, _, .ref _, e => by cases e
  | _, _, .scr h, e => by cases e
theorem Reps.imm (k : ∀ a o, F a = some o → ¬ Mut (some o) → F' a = some o) : ∀ {vs : List V} {ds : List D}, Reps K F φ vs ds → immDs ds = true → Reps K F' φ' vs ds
  | _, _, .nil, _ => .nil
  | _, _, .cons r t, e => by
    have e' := Bool.and_eq_true_iff.mp (show (immD _ && immDs _) = true from e)
    exact .cons (r.imm k e'.1) (t.imm k e'.2)
end

/-- what a caller wants of a def's end -/
def WantF (K : Frag) (mg : Str → Option Value) (F H : Hp) (Q : VK) (E : XK) : Rf → Prop
  | .val d => ∀ v F' H', Ext F H F' H' → Rep K F' [] v d → Q v H'
  | .lstF xs => ∀ a vs F' H', Ext F H F' H' → H a = none → F' a = none → H' a = some (.lst vs) → Reps K F' [] vs xs → Q (.ref a) H'
  | .exc c fs => ∀ cls dx F' H', Ext F H F' H' → ExcAt K mg F' [] cls dx c fs → E cls dx H'
/-- a def's promise: its arguments are data over the frozen part F -/
def spD (K : Frag) (mg : Str → Option Value) (n : Nat) (fn : Fn) : Sp := fun vs H Q E => ∃ F ds r, (∀ a o, F a = some o → H a = some o) ∧ (∀ a o, H a = some o → F a = some o ∨ Mut (some o)) ∧ Reps K F [] vs ds ∧ ds.length = n ∧ fn ds = some r ∧ WantF K mg F H Q E r
theorem spD_len {K : Frag} {mg : Str → Option Value} {n : Nat} {fn : Fn} (vs : List V) (H : Hp) (Q : VK) (E : XK) (h : spD K mg n fn vs H Q E) : vs.length = n := by
  obtain ⟨F, ds, r, _, _, hr, hl, _⟩ := h
  rw [hr.length]; exact hl

/-- the frozen part behind a callee that took all as frozen -/
def back (F H F' : Hp) : Hp := fun a => match H a, F a with
  | some _, none => none
  | _, _ => F' a
theorem back_ext {F H F' H' : Hp} (s : ∀ a o, F a = some o → H a = some o) (e : Ext H H F' H') : Ext F H (back F H F') H' := by
  refine ⟨e.keep, fun b o q => ?_, fun b o q q2 => ?_, fun b o q => ?_, fun b o q => ?_⟩
  · unfold back
    rw [s b o q, q]
    exact e.up b o (s b o q)
  · unfold back
    rw [q, q2]
  · unfold back at q
    split at q
    · cases q
    · exact e.sub b o q
  · rcases e.full b o q with z | z | z
    · exact .inl z
    · cases hb : H b with
      | some u =>
        have h3 := e.up b u hb
        rw [z] at h3; cases h3
        exact .inl rfl
      | none => exact .inr (.inl (by unfold back; rw [hb]; exact z))
    · exact .inr (.inr z)
end

/-! ### a call, by the caller -/
def resOf : Rf → Option Res
  | .val d => some (.ok d)
  | .lstF xs => some (.ok (.lst xs))
  | .exc c fs => some (.exc c fs)
/-- own lists among the arguments are read by value; then what comes back must be without lists -/
def resImm : Rf → Option Res
  | .val d => if immD d = true then some (.ok d) else none
  | .lstF _ => none
  | .exc c fs => if immDs (fs.map (·.2)) = true then some (.exc c fs) else none
def appF (fn : Fn) (h : List Cell) (ds : List D) : Option Res := if noRefs ds = true then (fn ds).bind resOf else if noRefs (ds.map (shal h)) = true then (fn (ds.map (shal h))).bind resImm else none
def sCall (n : Nat) (fn : Fn) (g : Lx) : Sx := fun ρ h => bndL (g ρ h) fun ds => if ds.length = n then appF fn h ds else none

section
variable {K : Frag} {mg : Str → Option Value} {W : WX} {φ : List Addr} {h : List Cell} {F H : Hp} {σ : St}
theorem ExcAt.mono {F' : Hp} {φ' : List Addr} {cls : Value} {dx : Option Addr} {c : Str} {fs : List (Str × D)} (k : ∀ a o, F a = some o → F' a = some o) (kp : ∀ (n : Nat) a, φ[n]? = some a → φ'[n]? = some a) (x : ExcAt K mg F φ cls dx c fs) : ExcAt K mg F' φ' cls dx c fs := by
  obtain ⟨h1, h2 | ⟨a, fvs, h3, h4, h5, h6⟩⟩ := x
  · exact ⟨h1, .inl h2⟩
  · exact ⟨h1, .inr ⟨a, fvs, h3, k _ _ h4, h5, h6.mono k kp⟩⟩
theorem nilphi {φ' : List Addr} : ∀ (n : Nat) a, ([] : List Addr)[n]? = some a → φ'[n]? = some a := fun n a e => by simp at e
/-- an own list read by value -/
theorem Reps.shal (w : Wd K φ h F H) : ∀ {vs : List V} {ds : List D}, Reps K F φ vs ds → DL.noRefs (ds.map (DL.shal h)) = true → Reps K H [] vs (ds.map (DL.shal h))
  | _, _, .nil, _ => .nil
  | _, _, .cons (d := d) r t, e => by
    have e' := Bool.and_eq_true_iff.mp (show (DL.noRef (DL.shal h d) && DL.noRefs _) = true from e)
    refine .cons ?_ (t.shal w e'.2)
    have e1 := e'.1
    cases d with
    | ref n =>
      cases r with
      | @ref a _ q =>
        have em : DL.shal h (.ref n) = (match h[n]? with | some (.lst xs) => .lst xs | _ => .ref n) := rfl
        rw [em] at e1 ⊢
        cases hc : h[n]? with
        | none => rw [hc] at e1; cases e1
        | some c =>
          cases c with
          | lst ys =>
            rw [hc] at e1
            obtain ⟨b, us, h1, h2, h3⟩ := w.cell n ys hc
            rw [q] at h1; cases h1
            exact .lst h2 ((h3.up w.sub).noRefs e1)
    | _ => exact (r.up w.sub).noRef e1
theorem call_of {n : Nat} {fn : Fn} {vs : List V} {ds : List D} {r : Res} {Q : VK} (w : Wd K φ h F H) (rs : Reps K F φ vs ds) (hl : ds.length = n) (hf : appF fn h ds = some r) (want : Want K mg W φ F H σ Q r) : spD K mg n fn vs H Q (WE W σ) := by
  unfold appF at hf
  split at hf
  · rename_i hn
    cases hfn : fn ds with
    | none => rw [hfn] at hf; cases hf
    | some rf =>
      rw [hfn] at hf
      refine ⟨F, ds, rf, w.sub, w.full, rs.noRefs hn, hl, hfn, ?_⟩
      cases rf with
      | val d =>
        have hr : Res.ok d = r := Option.some.inj hf
        subst hr
        exact fun v F' H' e rv => want v F' H' e (rv.mono (fun _ _ q => q) nilphi)
      | lstF xs =>
        have hr : Res.ok (.lst xs) = r := Option.some.inj hf
        subst hr
        intro a us F' H' e hn1 hn2 hh ru
        -- the new list is frozen at once
        have ex : Ext F H (upd F' a (.lst us)) H' := by
          refine ⟨e.keep, fun b o q => ?_, fun b o q q2 => ?_, fun b o q => ?_, fun b o q => ?_⟩
          · have : b ≠ a := fun z => by subst z; rw [w.sub _ _ q] at hn1; cases hn1
            rw [upd_ne this]; exact e.up b o q
          · have : b ≠ a := fun z => by subst z; rw [q] at hn1; cases hn1
            rw [upd_ne this]; exact e.no b o q q2
          · by_cases hb : b = a
            · subst hb; rw [upd_same] at q; rw [← q]; exact hh
            · rw [upd_ne hb] at q; exact e.sub b o q
          · by_cases hb : b = a
            · subst hb; rw [hh] at q; cases q; exact .inr (.inr trivial)
            · rw [upd_ne hb]; exact e.full b o q
        refine want _ _ _ ex (.lst upd_same ((ru.mono (fun b o q => ?_) nilphi)))
        have : b ≠ a := fun z => by subst z; rw [hn2] at q; cases q
        rw [upd_ne this]; exact q
      | exc c fs =>
        have hr : Res.exc c fs = r := Option.some.inj hf
        subst hr
        exact fun cls dx F' H' e x => want cls dx F' H' e (x.mono (fun _ _ q => q) nilphi)
  · split at hf
    · rename_i hn
      cases hfn : fn (ds.map (DL.shal h)) with
      | none => rw [hfn] at hf; cases hf
      | some rf =>
        rw [hfn] at hf
        refine ⟨H, ds.map (DL.shal h), rf, fun _ _ q => q, fun _ _ q => .inl q, Reps.shal w rs hn, by rw [List.length_map]; exact hl, hfn, ?_⟩
        have kk : ∀ {F' H' : Hp}, Ext H H F' H' → ∀ a o, F' a = some o → ¬ Mut (some o) → back F H F' a = some o := fun {F' H'} e a o q nm => by
          unfold back
          split
          · rename_i u h1 h2
            have h3 := e.up a u h1
            rw [q] at h3; cases h3
            rcases w.full a _ h1 with z | z
            · rw [h2] at z; cases z
            · exact absurd z nm
          · exact q
        cases rf with
        | val d =>
          have hf' : (if immD d = true then some (Res.ok d) else none) = some r := hf
          split at hf'
          · rename_i hi
            cases Option.some.inj hf'
            exact fun v F' H' e rv => want v _ H' (back_ext w.sub e) (rv.imm (kk e) hi)
          · cases hf'
        | lstF xs => cases hf
        | exc c fs =>
          have hf' : (if immDs (fs.map (·.2)) = true then some (Res.exc c fs) else none) = some r := hf
          split at hf'
          · rename_i hi
            cases Option.some.inj hf'
            intro cls dx F' H' e x
            refine want cls dx _ H' (back_ext w.sub e) ?_
            obtain ⟨h1, h2 | ⟨a, fvs, h3, h4, h5, h6⟩⟩ := x
            · exact ⟨h1, .inl h2⟩
            · exact ⟨h1, .inr ⟨a, fvs, h3, kk e _ _ h4 (fun z => z), h5, h6.imm (kk e) hi⟩⟩
          · cases hf'
    · cases hf
end

/-! ### the module's defs, as a body sees them -/
/-- the def x of the module: n parameters, the function fn over data; callable at level k -/
structure DefOk (P : Program) (w : World) (K : Frag) (mg : Str → Option Value) (base : Heap) (k : Nat) (x : Str) (n : Nat) (fn : Fn) : Prop where
  ex : ∃ (f : Addr) (fd : FuncData) (ps : List Str), mg x = some (.ref f) ∧ PySem.W.keepIn K (.ref f) = true ∧ Binds K fd ps [] ∧ ps.length = n ∧ FnOk P w K mg base (L2.CX P w) k f fd ps (spD K mg n fn)
theorem DefOk.mono {P : Program} {w : World} {K : Frag} {mg : Str → Option Value} {base : Heap} {j k : Nat} {x : Str} {n : Nat} {fn : Fn} (d : DefOk P w K mg base j x n fn) (h : j ≤ k) : DefOk P w K mg base k x n fn :=
  let ⟨f, fd, ps, h1, h2, h3, h4, h5⟩ := d.ex
  ⟨f, fd, ps, h1, h2, h3, h4, h5.mono h⟩
section
variable {X : Cx} {W : WX} {pos p : Pos} {e : Expr} {es : List Expr} {g : Lx} {k n : Nat} {fn : Fn} {x : Str}
theorem de_call (hd : DefOk X.prog X.w X.K X.mg X.base k x n fn) (hr : Room k X.A) (tk : Tk X W) (hg : Gl X x) (hdb : (x == ("__debug__" : Str)) = false) (ha : PA X (e :: es) (tA X.K X.mg W g)) (hs : (e :: es).all noStar = true) :
    PE X (.Call (.Name x p) (e :: es) [] pos) (tD X.K X.mg W (sCall n fn g)) := by
  obtain ⟨f, fd, ps, hm, hk, hb, hn, F⟩ := hd.ex
  rw [List.all_cons, Bool.and_eq_true_iff] at hs
  refine (pe_callS F hr hg hm hk hb (fun σ => tk.pass σ) ha hdb (starEach_cons hs.1) (starEach_all hs.2)).weak fun σ H Q q => ?_
  obtain ⟨φ, h, F, ρ, r, w, en, hf, want⟩ := q
  refine tA_step w en hf want fun ds vs F1 H1 e1 rs hk => ?_
  split at hk
  · rename_i hl
    exact call_of (w.ext e1) rs hl hk (want.ext e1)
  · cases hk
end
end DL

set_option Elab.async false
set_option linter.all false
set_option maxRecDepth 100000
/-! DLh: expressions that may change the frame's own lists, or make such lists. -/
namespace DL
open PySem PySem.Spec PyProof.Rows L2

inductive ResM where
  | ok (d : D) (h : List Cell)
  | exc (c : Str) (fs : List (Str × D)) (h : List Cell)
abbrev Mx := Rho → List Cell → Option ResM
inductive ResN where
  | ok (ds : List D) (h : List Cell)
  | exc (c : Str) (fs : List (Str × D)) (h : List Cell)
abbrev Nx := Rho → List Cell → Option ResN

/-- what grows through a frame's life -/
structure Up (φ : List Addr) (F : Hp) (φ' : List Addr) (F' : Hp) : Prop where
  f : ∀ a o, F a = some o → F' a = some o
  p : ∀ (n : Nat) a, φ[n]? = some a → φ'[n]? = some a
theorem Up.refl {φ : List Addr} {F : Hp} : Up φ F φ F := ⟨fun _ _ e => e, fun _ _ e => e⟩
theorem Up.trans {φ φ1 φ2 : List Addr} {F F1 F2 : Hp} (a : Up φ F φ1 F1) (b : Up φ1 F1 φ2 F2) : Up φ F φ2 F2 := ⟨fun x o e => b.f x o (a.f x o e), fun n x e => b.p n x (a.p n x e)⟩
theorem Up.of {φ : List Addr} {F H F' H' : Hp} (e : Ext F H F' H') : Up φ F φ F' := ⟨e.up, fun _ _ q => q⟩
theorem Rep.grow {K : Frag} {φ φ' : List Addr} {F F' : Hp} {v : V} {d : D} (u : Up φ F φ' F') (r : Rep K F φ v d) : Rep K F' φ' v d := r.mono u.f u.p
theorem Reps.grow {K : Frag} {φ φ' : List Addr} {F F' : Hp} {v : List V} {d : List D} (u : Up φ F φ' F') (r : Reps K F φ v d) : Reps K F' φ' v d := r.mono u.f u.p

/-- a frame as it runs: F0, H0 what stood at its entry -/
structure Rn (K : Frag) (F0 H0 : Hp) (φ : List Addr) (h : List Cell) (F H : Hp) (σ : St) (ρ : Rho) : Prop where
  w : Wd K φ h F H
  e : Env1 K F φ σ ρ
  x : Ext F0 H0 F H
  own : ∀ a ∈ φ, H0 a = none
section
variable {K : Frag} {F0 H0 F H F' H' : Hp} {φ φ' : List Addr} {h h' : List Cell} {σ : St} {ρ : Rho}
theorem Rn.ext (r : Rn K F0 H0 φ h F H σ ρ) (e : Ext F H F' H') : Rn K F0 H0 φ h F' H' σ ρ := ⟨r.w.ext e, r.e.up e.up, r.x.trans e, r.own⟩
theorem Rn.set (r : Rn K F0 H0 φ h F H σ ρ) (i : Nat) {v : V} {d : D} (q : Rep K F φ v d) : Rn K F0 H0 φ h F H (σ.set i (some v)) (ρ.set i (some d)) := ⟨r.w, r.e.set i q, r.x, r.own⟩
theorem Rn.unset (r : Rn K F0 H0 φ h F H σ ρ) (i : Nat) : Rn K F0 H0 φ h F H (σ.set i none) (ρ.set i none) := ⟨r.w, r.e.unset i, r.x, r.own⟩
theorem Rn.env {σ' : St} {ρ' : Rho} (r : Rn K F0 H0 φ h F H σ ρ) (e : Env1 K F φ σ' ρ') : Rn K F0 H0 φ h F H σ' ρ' := ⟨r.w, e, r.x, r.own⟩
/-- a list of the frame's own is rewritten -/
theorem Rn.put (r : Rn K F0 H0 φ h F H σ ρ) {n : Nat} {a : Addr} {vs : List V} {ds : List D} (hn : φ[n]? = some a) (rs : Reps K F φ vs ds) : Rn K F0 H0 φ (h.set n (.lst ds)) F (upd H a (.lst vs)) σ ρ := by
  have ha : a ∈ φ := List.mem_of_getElem? hn
  have nF : F a = none := r.w.own a ha
  have nl : n < h.length := by rw [← r.w.len]; exact (List.getElem?_eq_some_iff.mp hn).1
  refine ⟨⟨fun b o e => ?_, r.w.own, r.w.nd, by rw [List.length_set]; exact r.w.len, fun m xs hc => ?_, fun b o e => ?_⟩, r.e, ⟨fun b o e => ?_, r.x.up, r.x.no, fun b o e => ?_, fun b o e => ?_⟩, r.own⟩
  · rw [upd_ne (fun z => by subst z; rw [nF] at e; cases e)]; exact r.w.sub b o e
  · by_cases hm : n = m
    · subst hm
      rw [List.getElem?_set_self nl] at hc
      cases Option.some.inj hc
      exact ⟨a, vs, hn, upd_same, rs⟩
    · rw [List.getElem?_set_ne hm] at hc
      obtain ⟨b, us, h1, h2, h3⟩ := r.w.cell m xs hc
      refine ⟨b, us, h1, ?_, h3⟩
      rw [upd_ne fun z => ?_]; exact h2
      subst z
      exact hm (by
        obtain ⟨k1, e1⟩ := List.getElem?_eq_some_iff.mp hn
        obtain ⟨k2, e2⟩ := List.getElem?_eq_some_iff.mp h1
        exact (List.getElem_inj r.w.nd).mp (e1.trans e2.symm))
  · by_cases hb : b = a
    · subst hb; rw [upd_same] at e; cases e; exact .inr trivial
    · rw [upd_ne hb] at e; exact r.w.full b o e
  · rw [upd_ne (fun z => by subst z; rw [r.own b ha] at e; cases e)]; exact r.x.keep b o e
  · rw [upd_ne (fun z => by subst z; rw [nF] at e; cases e)]; exact r.x.sub b o e
  · by_cases hb : b = a
    · subst hb; rw [upd_same] at e; cases e; exact .inr (.inr trivial)
    · rw [upd_ne hb] at e; exact r.x.full b o e
/-- a list that nobody holds becomes the frame's own -/
theorem Rn.take (r : Rn K F0 H0 φ h F H σ ρ) {a : Addr} {vs : List V} {ds : List D} (e : Ext F H F' H') (n1 : H a = none) (n2 : F' a = none) (hh : H' a = some (.lst vs)) (rs : Reps K F' φ vs ds) :
    Rn K F0 H0 (φ ++ [a]) (h ++ [.lst ds]) F' H' σ ρ ∧ Up φ F (φ ++ [a]) F' ∧ Rep K F' (φ ++ [a]) (.ref a) (.ref h.length) := by
  have r1 := r.ext e
  have na : a ∉ φ := fun z => by
    obtain ⟨xs, q⟩ := r.w.there z
    rw [n1] at q; cases q
  have n0 : H0 a = none := by
    cases q : H0 a with
    | none => rfl
    | some u => have := r.x.keep a u q; rw [n1] at this; cases this
  have up : ∀ (n : Nat) b, φ[n]? = some b → (φ ++ [a])[n]? = some b := fun n b q => by
    rw [List.getElem?_append_left (List.getElem?_eq_some_iff.mp q).1]; exact q
  refine ⟨⟨⟨r1.w.sub, fun b hb => ?_, ?_, by rw [List.length_append, List.length_append, r.w.len]; rfl, fun m xs hc => ?_, r1.w.full⟩, r1.e.mono (fun _ _ q => q) up, r1.x, fun b hb => ?_⟩, ⟨e.up, up⟩, .ref ?_⟩
  · rcases List.mem_append.mp hb with hb | hb
    · exact r1.w.own b hb
    · rw [List.mem_singleton.mp hb]; exact n2
  · rw [List.nodup_append]
    exact ⟨r.w.nd, List.pairwise_singleton _ _, fun x hx y hy z => by rw [List.mem_singleton.mp hy] at z; subst z; exact na hx⟩
  · by_cases hm : m < h.length
    · rw [List.getElem?_append_left hm] at hc
      obtain ⟨b, us, h1, h2, h3⟩ := r1.w.cell m xs hc
      exact ⟨b, us, up m b h1, h2, h3.mono (fun _ _ q => q) up⟩
    · have hm' : m = h.length := by
        have := (List.getElem?_eq_some_iff.mp hc).1
        rw [List.length_append, List.length_singleton] at this
        omega
      subst hm'
      rw [List.getElem?_append_right (Nat.le_refl _), Nat.sub_self] at hc
      cases Option.some.inj hc
      refine ⟨a, vs, ?_, hh, rs.mono (fun _ _ q => q) up⟩
      rw [← r.w.len, List.getElem?_append_right (Nat.le_refl _), Nat.sub_self]; rfl
  · rcases List.mem_append.mp hb with hb | hb
    · exact r.own b hb
    · rw [List.mem_singleton.mp hb]; exact n0
  · rw [← r.w.len, List.getElem?_append_right (Nat.le_refl _), Nat.sub_self]; rfl
/-- a new list becomes the frame's own -/
theorem Rn.new (r : Rn K F0 H0 φ h F H σ ρ) {a : Addr} {vs : List V} {ds : List D} (n1 : H a = none) (rs : Reps K F φ vs ds) :
    Rn K F0 H0 (φ ++ [a]) (h ++ [.lst ds]) F (upd H a (.lst vs)) σ ρ ∧ Up φ F (φ ++ [a]) F ∧ Rep K F (φ ++ [a]) (.ref a) (.ref h.length) := by
  have n2 : F a = none := by
    cases q : F a with
    | none => rfl
    | some u => have := r.w.sub a u q; rw [n1] at this; cases this
  exact r.take (Ext.newOwn r.w.sub n1 trivial) n1 n2 upd_same rs
end

/-- what is wanted of such an expression -/
def WantM (K : Frag) (mg : Str → Option Value) (F0 H0 : Hp) (W : WX) (σ : St) (ρ : Rho) (φ : List Addr) (F : Hp) (Q : VK) : ResM → Prop
  | .ok d h' => ∀ v φ' F' H', Rn K F0 H0 φ' h' F' H' σ ρ → Up φ F φ' F' → Rep K F' φ' v d → Q v H'
  | .exc c fs h' => ∀ cls dx φ' F' H', Rn K F0 H0 φ' h' F' H' σ ρ → Up φ F φ' F' → ExcAt K mg F' φ' cls dx c fs → W cls dx σ H'
def WantN (K : Frag) (mg : Str → Option Value) (F0 H0 : Hp) (W : WX) (σ : St) (ρ : Rho) (φ : List Addr) (F : Hp) (Q : List V → Hp → Prop) : ResN → Prop
  | .ok d h' => ∀ v φ' F' H', Rn K F0 H0 φ' h' F' H' σ ρ → Up φ F φ' F' → Reps K F' φ' v d → Q v H'
  | .exc c fs h' => ∀ cls dx φ' F' H', Rn K F0 H0 φ' h' F' H' σ ρ → Up φ F φ' F' → ExcAt K mg F' φ' cls dx c fs → W cls dx σ H'
def tM (K : Frag) (mg : Str → Option Value) (F0 H0 : Hp) (W : WX) (f : Mx) : TE := fun σ H Q => ∃ φ h F ρ r, Rn K F0 H0 φ h F H σ ρ ∧ f ρ h = some r ∧ WantM K mg F0 H0 W σ ρ φ F Q r
def tN (K : Frag) (mg : Str → Option Value) (F0 H0 : Hp) (W : WX) (f : Nx) : TA := fun σ H Q => ∃ φ h F ρ r, Rn K F0 H0 φ h F H σ ρ ∧ f ρ h = some r ∧ WantN K mg F0 H0 W σ ρ φ F Q r
section
variable {K : Frag} {mg : Str → Option Value} {F0 H0 F H : Hp} {W : WX} {φ φ' : List Addr} {F' : Hp} {h : List Cell} {σ : St} {ρ : Rho} {Q : VK}
theorem WantM.up (u : Up φ F φ' F') : ∀ {r : ResM}, WantM K mg F0 H0 W σ ρ φ F Q r → WantM K mg F0 H0 W σ ρ φ' F' Q r
  | .ok _ _, w => fun v p2 F2 H2 r2 u2 q => w v p2 F2 H2 r2 (u.trans u2) q
  | .exc _ _ _, w => fun c d p2 F2 H2 r2 u2 q => w c d p2 F2 H2 r2 (u.trans u2) q
theorem WantN.up {Q : List V → Hp → Prop} (u : Up φ F φ' F') : ∀ {r : ResN}, WantN K mg F0 H0 W σ ρ φ F Q r → WantN K mg F0 H0 W σ ρ φ' F' Q r
  | .ok _ _, w => fun v p2 F2 H2 r2 u2 q => w v p2 F2 H2 r2 (u.trans u2) q
  | .exc _ _ _, w => fun c d p2 F2 H2 r2 u2 q => w c d p2 F2 H2 r2 (u.trans u2) q

/-- an expression that changes nothing -/
def liftM (f : Sx) : Mx := fun ρ h => match f ρ h with
  | some (.ok d) => some (.ok d h)
  | some (.exc c fs) => some (.exc c fs h)
  | none => none
theorem tD_lift {f : Sx} (q : tM K mg F0 H0 W (liftM f) σ H Q) : tD K mg W f σ H Q := by
  obtain ⟨φ, h, F, ρ, r, n, hf, want⟩ := q
  unfold liftM at hf
  cases h1 : f ρ h with
  | none => rw [h1] at hf; cases hf
  | some x =>
    rw [h1] at hf
    cases x with
    | ok d =>
      cases Option.some.inj hf
      exact ⟨φ, h, F, ρ, .ok d, n.w, n.e, h1, fun v F1 H1 e rv => want v φ F1 H1 (n.ext e) (Up.of e) rv⟩
    | exc c fs =>
      cases Option.some.inj hf
      exact ⟨φ, h, F, ρ, .exc c fs, n.w, n.e, h1, fun cls dx F1 H1 e x => want cls dx φ F1 H1 (n.ext e) (Up.of e) x⟩
/-- one part is read, the rest goes on -/
def bndM (x : Option ResM) (k : D → List Cell → Option ResM) : Option ResM := match x with
  | some (.ok d h) => k d h
  | some (.exc c fs h) => some (.exc c fs h)
  | none => none
theorem tM_step {f : Mx} {k : D → List Cell → Option ResM} {r : ResM} {Q' : VK} (n : Rn K F0 H0 φ h F H σ ρ) (hb : bndM (f ρ h) k = some r) (want : WantM K mg F0 H0 W σ ρ φ F Q r)
    (go : ∀ d h1 v φ1 F1 H1, Rn K F0 H0 φ1 h1 F1 H1 σ ρ → Up φ F φ1 F1 → Rep K F1 φ1 v d → k d h1 = some r → Q' v H1) : tM K mg F0 H0 W f σ H Q' := by
  cases hf : f ρ h with
  | none => rw [hf] at hb; cases hb
  | some x =>
    rw [hf] at hb
    cases x with
    | ok d h1 => exact ⟨φ, h, F, ρ, .ok d h1, n, hf, fun v p1 F1 H1 n1 u rep => go d h1 v p1 F1 H1 n1 u rep hb⟩
    | exc c fs h1 =>
      cases Option.some.inj (show some (ResM.exc c fs h1) = some r from hb)
      exact ⟨φ, h, F, ρ, .exc c fs h1, n, hf, want⟩
/-- .. read by an expression that changes nothing -/
def bndDM (x : Option Res) (h : List Cell) (k : D → Option ResM) : Option ResM := match x with
  | some (.ok d) => k d
  | some (.exc c fs) => some (.exc c fs h)
  | none => none
theorem tDM_step {f : Sx} {k : D → Option ResM} {r : ResM} {Q' : VK} (n : Rn K F0 H0 φ h F H σ ρ) (hb : bndDM (f ρ h) h k = some r) (want : WantM K mg F0 H0 W σ ρ φ F Q r)
    (go : ∀ d v F1 H1, Ext F H F1 H1 → Rep K F1 φ v d → k d = some r → Q' v H1) : tD K mg W f σ H Q' := by
  cases hf : f ρ h with
  | none => rw [hf] at hb; cases hb
  | some x =>
    rw [hf] at hb
    cases x with
    | ok d => exact ⟨φ, h, F, ρ, .ok d, n.w, n.e, hf, fun v F1 H1 ex rep => go d v F1 H1 ex rep hb⟩
    | exc c fs =>
      cases Option.some.inj (show some (ResM.exc c fs h) = some r from hb)
      exact ⟨φ, h, F, ρ, .exc c fs, n.w, n.e, hf, fun cls dx F1 H1 e x => want cls dx φ F1 H1 (n.ext e) (Up.of e) x⟩
def bndLM (x : Option ResL) (h : List Cell) (k : List D → Option ResM) : Option ResM := match x with
  | some (.ok d) => k d
  | some (.exc c fs) => some (.exc c fs h)
  | none => none
theorem tAM_step {f : Lx} {k : List D → Option ResM} {r : ResM} {Q' : List V → Hp → Prop} (n : Rn K F0 H0 φ h F H σ ρ) (hb : bndLM (f ρ h) h k = some r) (want : WantM K mg F0 H0 W σ ρ φ F Q r)
    (go : ∀ d v F1 H1, Ext F H F1 H1 → Reps K F1 φ v d → k d = some r → Q' v H1) : tA K mg W f σ H Q' := by
  cases hf : f ρ h with
  | none => rw [hf] at hb; cases hb
  | some x =>
    rw [hf] at hb
    cases x with
    | ok d => exact ⟨φ, h, F, ρ, .ok d, n.w, n.e, hf, fun v F1 H1 ex rep => go d v F1 H1 ex rep hb⟩
    | exc c fs =>
      cases Option.some.inj (show some (ResM.exc c fs h) = some r from hb)
      exact ⟨φ, h, F, ρ, .exc c fs, n.w, n.e, hf, fun cls dx F1 H1 e x => want cls dx φ F1 H1 (n.ext e) (Up.of e) x⟩
def bndNM (x : Option ResN) (k : List D → List Cell → Option ResM) : Option ResM := match x with
  | some (.ok d h) => k d h
  | some (.exc c fs h) => some (.exc c fs h)
  | none => none
theorem tN_step {f : Nx} {k : List D → List Cell → Option ResM} {r : ResM} {Q' : List V → Hp → Prop} (n : Rn K F0 H0 φ h F H σ ρ) (hb : bndNM (f ρ h) k = some r) (want : WantM K mg F0 H0 W σ ρ φ F Q r)
    (go : ∀ d h1 v φ1 F1 H1, Rn K F0 H0 φ1 h1 F1 H1 σ ρ → Up φ F φ1 F1 → Reps K F1 φ1 v d → k d h1 = some r → Q' v H1) : tN K mg F0 H0 W f σ H Q' := by
  cases hf : f ρ h with
  | none => rw [hf] at hb; cases hb
  | some x =>
    rw [hf] at hb
    cases x with
    | ok d h1 => exact ⟨φ, h, F, ρ, .ok d h1, n, hf, fun v p1 F1 H1 n1 u rep => go d h1 v p1 F1 H1 n1 u rep hb⟩
    | exc c fs h1 =>
      cases Option.some.inj (show some (ResM.exc c fs h1) = some r from hb)
      exact ⟨φ, h, F, ρ, .exc c fs h1, n, hf, want⟩
end

section
variable {X : Cx} {W : WX} {F0 H0 : Hp} {pos p apos : Pos} {e o : Expr} {es : List Expr} {f : Sx} {g : Lx} {fm : Mx} {gn : Nx}
theorem dm_lift (he : PE X e (tD X.K X.mg W f)) : PE X e (tM X.K X.mg F0 H0 W (liftM f)) := he.weak fun _ _ _ => tD_lift
/-! argument lists -/
def nNil : Nx := fun _ h => some (.ok [] h)
def nCons (f : Mx) (g : Nx) : Nx := fun ρ h => match f ρ h with
  | some (.ok d h1) => (match g ρ h1 with
    | some (.ok ds h2) => some (.ok (d :: ds) h2)
    | x => x)
  | some (.exc c fs h1) => some (.exc c fs h1)
  | none => none
theorem dn_nil : PA X [] (tN X.K X.mg F0 H0 W nNil) := by
  refine pa_nil.weak fun σ H Q q => ?_
  obtain ⟨φ, h, F, ρ, r, n, hf, want⟩ := q
  cases Option.some.inj hf
  exact want [] φ F H n .refl .nil
theorem dn_cons (ha : PE X e (tM X.K X.mg F0 H0 W fm)) (hr : PA X es (tN X.K X.mg F0 H0 W gn)) (hs : noStar e = true) : PA X (e :: es) (tN X.K X.mg F0 H0 W (nCons fm gn)) := by
  refine (pa_cons ha hr (starEach_cons hs)).weak fun σ H Q q => ?_
  obtain ⟨φ, h, F, ρ, r, n, hf, want⟩ := q
  unfold nCons at hf
  cases h1 : fm ρ h with
  | none => rw [h1] at hf; cases hf
  | some x =>
    rw [h1] at hf
    cases x with
    | exc c fs h' =>
      cases Option.some.inj hf
      exact ⟨φ, h, F, ρ, .exc c fs h', n, h1, want⟩
    | ok d h' =>
      refine ⟨φ, h, F, ρ, .ok d h', n, h1, fun v φ1 F1 H1 n1 u1 rv => ?_⟩
      dsimp only at hf
      cases h2 : gn ρ h' with
      | none => rw [h2] at hf; cases hf
      | some y =>
        rw [h2] at hf
        cases y with
        | exc c fs h'' =>
          cases Option.some.inj hf
          exact ⟨φ1, h', F1, ρ, .exc c fs h'', n1, h2, fun cls dx p2 F2 H2 n2 u2 x => want cls dx p2 F2 H2 n2 (u1.trans u2) x⟩
        | ok ds h'' =>
          cases Option.some.inj hf
          exact ⟨φ1, h', F1, ρ, .ok ds h'', n1, h2, fun vs p2 F2 H2 n2 u2 rs => want _ p2 F2 H2 n2 (u1.trans u2) (.cons (rv.grow u2) rs)⟩

/-! ### lists that the frame makes for itself -/
def ownM (h : List Cell) (ds : List D) : Option ResM := if ds.length ≤ sizeLine then some (.ok (.ref h.length) (h ++ [.lst ds])) else none
theorem ownM_inv {h : List Cell} {ds : List D} {r : ResM} (e : ownM h ds = some r) : ds.length ≤ sizeLine ∧ r = .ok (.ref h.length) (h ++ [.lst ds]) := by
  unfold ownM at e
  split at e
  · rename_i hz; exact ⟨hz, (Option.some.inj e).symm⟩
  · cases e
/-- [..] -/
def mLst (g : Nx) : Mx := fun ρ h => bndNM (g ρ h) fun ds h1 => ownM h1 ds
theorem dm_lst (ha : PA X es (tN X.K X.mg F0 H0 W gn)) : PE X (.List es pos) (tM X.K X.mg F0 H0 W (mLst gn)) := by
  refine (pe_lst ha).weak fun σ H Q q => ?_
  obtain ⟨φ, h, F, ρ, r, n, hf, want⟩ := q
  refine tN_step n hf want fun ds h1 vs φ1 F1 H1 n1 u1 rs hk => ?_
  obtain ⟨hz, rfl⟩ := ownM_inv hk
  refine ⟨by rw [rs.length]; exact hz, fun q hq => ?_⟩
  obtain ⟨n2, u2, r2⟩ := n1.new hq rs
  exact want _ _ _ _ n2 (u1.trans u2) r2
/-- list(x) -/
def mList (f : Sx) : Mx := fun ρ h => bndDM (f ρ h) h fun d => (match seqD h d with
  | some xs => ownM h xs
  | none => none)
theorem dm_list {x : Str} (hx : x = ("list" : Str)) (hg : Gl X x) (hm : X.mg x = none) (he : PE X e (tD X.K X.mg W f)) (hs : noStar e = true) : PE X (.Call (.Name x p) [e] [] pos) (tM X.K X.mg F0 H0 W (mList f)) := by
  subst hx
  refine (pe_callTy call_list_of hg hm (by decide +kernel) (pa_cons he pa_nil (starEach_cons hs)) (by decide +kernel) (by decide +kernel) (starEach_cons hs) rfl).weak fun σ H Q q => ?_
  obtain ⟨φ, h, F, ρ, r, n, hf, want⟩ := q
  refine tDM_step n hf want fun d v F1 H1 e1 rv hk => ?_
  cases hq : seqD h d with
  | none => rw [hq] at hk; cases hk
  | some xs =>
    rw [hq] at hk
    obtain ⟨hz, rfl⟩ := ownM_inv hk
    obtain ⟨a, vs, rfl, ha, rs⟩ := seqD_ok (n.w.ext e1) rv hq
    refine ⟨a, vs, rfl, ha, fun l hl => ?_⟩
    obtain ⟨n2, u2, r2⟩ := (n.ext e1).new hl rs
    exact want _ _ _ _ n2 ((Up.of e1).trans u2) r2

/-! ### methods that change a list of the frame's own -/
structure MutS (K : Frag) (r : V → List V → Hp → VK → Prop) (g : List D → List D → Option (D × List D)) : Prop where
  go : ∀ {φ : List Addr} {F H : Hp} {a : Addr} {vs us : List V} {ds es es' : List D} {d : D} {Q : VK}, H a = some (.lst vs) → Reps K F φ vs es → Reps K F φ us ds → g es ds = some (d, es') →
    (∀ v vs', Reps K F φ vs' es' → Rep K F φ v d → Q v (upd H a (.lst vs'))) → r (.ref a) us H Q
def gAppend : List D → List D → Option (D × List D) := fun es ds => match ds with
  | [d] => if es.length < sizeLine then some (.non, es ++ [d]) else none
  | _ => none
theorem ms_append {K : Frag} : MutS K rAppend gAppend :=
  ⟨fun {φ F H a vs us ds es es' d Q} hH re ra e k => by
    unfold gAppend at e
    split at e
    · rename_i d1
      split at e
      · rename_i hz
        obtain ⟨rfl, rfl⟩ := Prod.mk.inj (Option.some.inj e)
        obtain ⟨v, rfl, rv⟩ := ra.one
        exact ⟨a, vs, v, rfl, rfl, hH, by rw [re.length]; exact hz, k _ _ (re.append (.cons rv .nil)) .non⟩
      · cases e
    · cases e⟩
def gPop : List D → List D → Option (D × List D) := fun es ds => match ds with
  | [] => (es[es.length - 1]?).map fun d => (d, es.dropLast)
  | _ => none
theorem ms_pop {K : Frag} : MutS K rPop gPop :=
  ⟨fun {φ F H a vs us ds es es' d Q} hH re ra e k => by
    unfold gPop at e
    split at e
    · obtain ⟨d1, h1, h2⟩ := Option.map_eq_some_iff.mp e
      obtain ⟨rfl, rfl⟩ := Prod.mk.inj h2
      obtain ⟨v, hv, rv⟩ := re.get h1
      cases ra
      exact ⟨a, vs, v, rfl, rfl, hH, by rw [re.length]; exact hv, k _ _ re.dropLast rv⟩
    · cases e⟩
def gPopAt : List D → List D → Option (D × List D) := fun es ds => match ds with
  | [.int i] => if -(2 ^ 63) ≤ i ∧ i < 2 ^ 63 then (match seqIndex? i es.length with
    | some k => (es[k]?).map fun d => (d, es.eraseIdx k)
    | none => none) else none
  | _ => none
theorem ms_popAt {K : Frag} : MutS K rPopAt gPopAt :=
  ⟨fun {φ F H a vs us ds es es' d Q} hH re ra e k => by
    unfold gPopAt at e
    split at e
    · rename_i i
      split at e
      · rename_i hi
        split at e
        · rename_i j hj
          obtain ⟨d1, h1, h2⟩ := Option.map_eq_some_iff.mp e
          obtain ⟨rfl, rfl⟩ := Prod.mk.inj h2
          obtain ⟨u, rfl, ru⟩ := ra.one
          obtain ⟨v, hv, rv⟩ := re.get h1
          rw [ru.int_inv]
          exact ⟨a, vs, i, j, v, rfl, rfl, hH, hi.1, hi.2, by rw [re.length]; exact hj, hv, k _ _ (re.eraseIdx j) rv⟩
        · cases e
      · cases e
    · cases e⟩
def gReverse : List D → List D → Option (D × List D) := fun es ds => match ds with
  | [] => some (.non, es.reverse)
  | _ => none
theorem ms_reverse {K : Frag} : MutS K rReverse gReverse :=
  ⟨fun {φ F H a vs us ds es es' d Q} hH re ra e k => by
    unfold gReverse at e
    split at e
    · obtain ⟨rfl, rfl⟩ := Prod.mk.inj (Option.some.inj e)
      cases ra
      exact ⟨a, vs, rfl, rfl, hH, k _ _ re.reverse .non⟩
    · cases e⟩
def gInsert : List D → List D → Option (D × List D) := fun es ds => match ds with
  | [.int i, d] => if es.length < sizeLine ∧ 0 ≤ i ∧ i < 2 ^ 63 then some (.non, es.take i.toNat ++ [d] ++ es.drop i.toNat) else none
  | _ => none
theorem ms_insert {K : Frag} : MutS K (fun x vs H Q => ∃ (l : Addr) (xs : List V) (i : Int) (y : V), x = .ref l ∧ vs = [.int i, y] ∧ H l = some (.lst xs) ∧ xs.length < sizeLine ∧ 0 ≤ i ∧ i < 2 ^ 63 ∧
    Q .non (upd H l (.lst (xs.take i.toNat ++ [y] ++ xs.drop i.toNat)))) gInsert :=
  ⟨fun {φ F H a vs us ds es es' d Q} hH re ra e k => by
    unfold gInsert at e
    split at e
    · rename_i i d1
      split at e
      · rename_i hz
        obtain ⟨rfl, rfl⟩ := Prod.mk.inj (Option.some.inj e)
        obtain ⟨u, v, rfl, ru, rv⟩ := ra.two
        rw [ru.int_inv]
        exact ⟨a, vs, i, v, rfl, rfl, hH, by rw [re.length]; exact hz.1, hz.2.1, hz.2.2, k _ _ (((re.take i.toNat).append (.cons rv .nil)).append (re.drop i.toNat)) .non⟩
      · cases e
    · cases e⟩

/-- the methods that are served -/
inductive Mu where
  | append | pop | popAt | reverse | insert
def muName : Mu → Str
  | .append => "append" | .pop => "pop" | .popAt => "pop" | .reverse => "reverse" | .insert => "insert"
def muD : Mu → List D → List D → Option (D × List D)
  | .append => gAppend | .pop => gPop | .popAt => gPopAt | .reverse => gReverse | .insert => gInsert
def cellOfD (h : List Cell) : D → Option (Nat × List D)
  | .ref n => (match h[n]? with
    | some (.lst xs) => some (n, xs)
    | none => none)
  | _ => none
theorem cellOfD_inv {h : List Cell} {x : D} {n : Nat} {xs : List D} (e : cellOfD h x = some (n, xs)) : x = .ref n ∧ h[n]? = some (.lst xs) := by
  unfold cellOfD at e
  split at e
  · rename_i m
    split at e
    · rename_i ys hc
      obtain ⟨rfl, rfl⟩ := Prod.mk.inj (Option.some.inj e)
      exact ⟨rfl, hc⟩
    · cases e
  · cases e
def isRefD : D → Bool
  | .ref _ => true
  | _ => false
def mutEnd (m : Mu) (x : D) (ds : List D) (h : List Cell) : Option ResM := match cellOfD h x with
  | some (n, xs) => (match muD m xs ds with
    | some (d, ys) => some (.ok d (h.set n (.lst ys)))
    | none => none)
  | none => none
def mMu (m : Mu) (fo : Sx) (g : Nx) : Mx := fun ρ h => bndDM (fo ρ h) h fun x => if isRefD x = true then bndNM (g ρ h) fun ds h1 => mutEnd m x ds h1 else none
theorem mutEnd_go {K : Frag} {mg : Str → Option Value} {W : WX} {m : Mu} {r : V → List V → Hp → VK → Prop} (S : MutS K r (muD m)) {φ : List Addr} {h : List Cell} {F H : Hp} {σ : St} {ρ : Rho} {x : D} {ds : List D} {v : V} {us : List V} {res : ResM} {Q : VK}
    (n : Rn K F0 H0 φ h F H σ ρ) (rx : Rep K F φ v x) (rs : Reps K F φ us ds) (hk : mutEnd m x ds h = some res) (want : WantM K mg F0 H0 W σ ρ φ F Q res) : r v us H Q := by
  unfold mutEnd at hk
  split at hk
  · rename_i i xs hc
    obtain ⟨rfl, hh⟩ := cellOfD_inv hc
    split at hk
    · rename_i d ys hm
      cases Option.some.inj hk
      cases rx with
      | @ref a _ hp =>
        obtain ⟨b, vs, h1, h2, h3⟩ := n.w.cell i xs hh
        rw [hp] at h1; cases h1
        exact S.go h2 h3 rs hm fun u vs' r1 r2 => want _ _ _ _ (n.put hp r1) .refl r2
    · cases hk
  · cases hk
theorem refD_ty {K : Frag} {φ : List Addr} {h : List Cell} {F H : Hp} {v : V} {x : D} (w : Wd K φ h F H) (rx : Rep K F φ v x) (hi : isRefD x = true) : tyV K "list" v H := by
  cases rx with
  | @ref a n hp =>
    obtain ⟨xs, q⟩ := w.there (List.mem_of_getElem? hp)
    exact .inl ⟨rfl, xs, SqL.of q⟩
  | _ => cases hi
theorem dm_mu (m : Mu) {x : Str} (hx : x = muName m) (ho : PE X o (tD X.K X.mg W f)) (ha : PA X (e :: es) (tN X.K X.mg F0 H0 W gn)) (hs : (e :: es).all noStar = true) (hb : noSuper o = true) (hl : (apos.endLine == pos.line) = true) (hn : decide ((e :: es).length < 30) = true) :
    PE X (.Call (.Attribute o x apos) (e :: es) [] pos) (tM X.K X.mg F0 H0 W (mMu m f gn)) := by
  have hs' := hs
  rw [List.all_cons, Bool.and_eq_true_iff] at hs
  subst hx
  have hfew : ((backTo pos (starEach (e :: es) X.env)).all (fun x => !x.1) && (backToKw pos (keywordEach [] X.env)).all (fun x => x.1.isSome)
      && decide ((e :: es).length + ([] : List Keyword).length + (if ([] : List Keyword).isEmpty then 0 else 1) < 30)) = true := by
    rw [starEach_allNot hs']
    exact hn
  have fin : ∀ {r : V → List V → Hp → VK → Prop}, MutS X.K r (muD m) → ∀ σ H Q, tM X.K X.mg F0 H0 W (mMu m f gn) σ H Q → tBM X.K "list" r (tD X.K X.mg W f) (tN X.K X.mg F0 H0 W gn) σ H Q := fun {r} S σ H Q q => by
    obtain ⟨φ, h, F, ρ, res, n, hf, want⟩ := q
    refine tDM_step n hf want fun d v F1 H1 e1 rv hk => ?_
    split at hk
    · rename_i hi
      refine ⟨refD_ty (n.w.ext e1) rv hi, ?_⟩
      refine tN_step (n.ext e1) hk (want.up (Up.of e1)) fun ds h1 us φ1 F1 H1 n1 u1 rs hk => ?_
      exact mutEnd_go S n1 (rv.grow u1) rs hk (want.up ((Up.of e1).trans u1))
    · cases hk
  cases m with
  | append => exact (pe_bm PySem.F.plainAttrs_list PySem.F.slot_list_append PySem.F.type_list_append mt_append ho ha (base_of hb) hfew hl (starEach_cons hs.1) (starEach_all hs.2)).weak (fin ms_append)
  | pop => exact (pe_bm PySem.F.plainAttrs_list PySem.F.slot_list_pop PySem.F.type_list_pop mt_pop ho ha (base_of hb) hfew hl (starEach_cons hs.1) (starEach_all hs.2)).weak (fin ms_pop)
  | popAt => exact (pe_bm PySem.F.plainAttrs_list PySem.F.slot_list_pop PySem.F.type_list_pop mt_popAt ho ha (base_of hb) hfew hl (starEach_cons hs.1) (starEach_all hs.2)).weak (fin ms_popAt)
  | reverse => exact (pe_bm PySem.F.plainAttrs_list PySem.F.slot_list_reverse PySem.F.type_list_reverse mt_reverse ho ha (base_of hb) hfew hl (starEach_cons hs.1) (starEach_all hs.2)).weak (fin ms_reverse)
  | insert => exact (pe_bm PySem.F.plainAttrs_list PySem.F.slot_list_insert PySem.F.type_list_insert mt_insert ho ha (base_of hb) hfew hl (starEach_cons hs.1) (starEach_all hs.2)).weak (fin ms_insert)
def mMu0 (m : Mu) (fo : Sx) : Mx := fun ρ h => bndDM (fo ρ h) h fun x => if isRefD x = true then mutEnd m x [] h else none
theorem dm_mu0 (m : Mu) {x : Str} (hx : x = muName m) (ho : PE X o (tD X.K X.mg W f)) (hb : noSuper o = true) (hl : (apos.endLine == pos.line) = true) :
    PE X (.Call (.Attribute o x apos) [] [] pos) (tM X.K X.mg F0 H0 W (mMu0 m f)) := by
  subst hx
  have fin : ∀ {r : V → List V → Hp → VK → Prop}, MutS X.K r (muD m) → ∀ σ H Q, tM X.K X.mg F0 H0 W (mMu0 m f) σ H Q → tBM0 X.K "list" r (tD X.K X.mg W f) σ H Q := fun {r} S σ H Q q => by
    obtain ⟨φ, h, F, ρ, res, n, hf, want⟩ := q
    refine tDM_step n hf want fun d v F1 H1 e1 rv hk => ?_
    split at hk
    · rename_i hi
      exact ⟨refD_ty (n.w.ext e1) rv hi, mutEnd_go S (n.ext e1) rv .nil hk (want.up (Up.of e1))⟩
    · cases hk
  cases m with
  | append => exact (pe_bm0 PySem.F.plainAttrs_list PySem.F.slot_list_append PySem.F.type_list_append mt_append ho (base_of hb) hl).weak (fin ms_append)
  | pop => exact (pe_bm0 PySem.F.plainAttrs_list PySem.F.slot_list_pop PySem.F.type_list_pop mt_pop ho (base_of hb) hl).weak (fin ms_pop)
  | popAt => exact (pe_bm0 PySem.F.plainAttrs_list PySem.F.slot_list_pop PySem.F.type_list_pop mt_popAt ho (base_of hb) hl).weak (fin ms_popAt)
  | reverse => exact (pe_bm0 PySem.F.plainAttrs_list PySem.F.slot_list_reverse PySem.F.type_list_reverse mt_reverse ho (base_of hb) hl).weak (fin ms_reverse)
  | insert => exact (pe_bm0 PySem.F.plainAttrs_list PySem.F.slot_list_insert PySem.F.type_list_insert mt_insert ho (base_of hb) hl).weak (fin ms_insert)
end
end DL

set_option Elab.async false
set_option linter.all false
set_option maxRecDepth 100000
/-! DLi: what a loop walks; targets; statements. -/
namespace DL
open PySem PySem.Spec PyProof.Rows L2

theorem _root_.L2.PI.weak {X : Cx} {tg it : Expr} {t t' : TI} (p : PI X tg it t) (k : ∀ σ H R, t' σ H R → t σ H R) : PI X tg it t' := ⟨fun pins s σ H R I q => p.run pins s σ H R I (k σ H R q)⟩
theorem _root_.L2.PI.or {X : Cx} {tg it : Expr} {t t' : TI} (p : PI X tg it t) (p' : PI X tg it t') : PI X tg it (fun σ H R => t σ H R ∨ t' σ H R) :=
  ⟨fun pins s σ H R I q => q.elim (p.run pins s σ H R I) (p'.run pins s σ H R I)⟩
theorem _root_.L2.PG.weak {X : Cx} {tg : Expr} {t t' : TG} (p : PG X tg t) (k : ∀ v σ H Q, t' v σ H Q → t v σ H Q) : PG X tg t' := ⟨fun pins s σ H v u Q I r q => p.run pins s σ H v u Q I r (k v σ H Q q)⟩
theorem _root_.L2.PGs.weak {X : Cx} {tg : List Expr} {t t' : TGs} (p : PGs X tg t) (k : ∀ v σ H Q, t' v σ H Q → t v σ H Q) : PGs X tg t' := ⟨fun pins s σ H v u Q I r q => p.run pins s σ H v u Q I r (k v σ H Q q)⟩
theorem _root_.L2.PS.weak {X : Cx} {st : Stmt} {t t' : TS} (p : PS X st t) (k : ∀ D σ H, t' D σ H → t D σ H) : PS X st t' := ⟨fun pins s σ H D I q => p.run pins s σ H D I (k D σ H q)⟩
theorem _root_.L2.PSs.weak {X : Cx} {st : List Stmt} {t t' : TS} (p : PSs X st t) (k : ∀ D σ H, t' D σ H → t D σ H) : PSs X st t' := ⟨fun pins s σ H D I q => p.run pins s σ H D I (k D σ H q)⟩

/-! ### what a loop walks -/
structure WalkD (K : Frag) (J : It) (itm : List Cell → Nat → Option D) (φ : List Addr) (F : Hp) : Prop where
  go : ∀ {φ' : List Addr} {h' : List Cell} {F' H' : Hp} {i : Nat} {d : D}, Wd K φ' h' F' H' → Up φ F φ' F' → itm h' i = some d → J.go i H' ∧ ∀ x H2, J.yld i H' x H2 → ∃ F2, Ext F' H' F2 H2 ∧ Rep K F2 φ' x d
  stop : ∀ {φ' : List Addr} {h' : List Cell} {F' H' : Hp} {i : Nat}, Wd K φ' h' F' H' → Up φ F φ' F' → itm h' i = none → J.stop i H'
inductive ItR where
  | ok (itm : List Cell → Nat → Option D) (n : Nat)
  | exc (c : Str) (fs : List (Str × D))
abbrev Ix := Rho → List Cell → Option ItR
def WantI (K : Frag) (mg : Str → Option Value) (W : WX) (φ : List Addr) (F H : Hp) (σ : St) (R : It → Hp → Prop) : ItR → Prop
  | .ok itm _ => ∀ J F' H', Ext F H F' H' → WalkD K J itm φ F' → R J H'
  | .exc c fs => Want K mg W φ F H σ (fun _ _ => False) (.exc c fs)
def tI (K : Frag) (mg : Str → Option Value) (W : WX) (f : Ix) : TI := fun σ H R => ∃ φ h F ρ r, Wd K φ h F H ∧ Env1 K F φ σ ρ ∧ f ρ h = some r ∧ WantI K mg W φ F H σ R r
/-- the items of a datum -/
def itmD (h : List Cell) : D → Option ItR
  | .lst xs => some (.ok (fun _ i => xs[i]?) xs.length)
  | .tup xs => some (.ok (fun _ i => xs[i]?) xs.length)
  | .ref n => (match h[n]? with
    | some (.lst xs) => some (.ok (fun h' i => match h'[n]? with | some (.lst ys) => ys[i]? | none => none) xs.length)
    | none => none)
  | .str z => some (.ok (fun _ i => (z.cps[i]?).map fun c => .str ⟨#[c]⟩) z.cps.size)
  | .scr ns => some (.ok (fun _ i => (ns[i]?).map .int) ns.length)
  | _ => none
section
variable {K : Frag} {mg : Str → Option Value} {W : WX} {φ : List Addr} {h : List Cell} {F H : Hp} {σ : St} {ρ : Rho}
theorem walkD_list {a : Addr} {vs : List V} {ds : List D} (q : SqL K F a vs) (rs : Reps K F φ vs ds) : WalkD K (Itl K a) (fun _ i => ds[i]?) φ F where
  go := fun {φ' h' F' H' i d} w u e => by
    obtain ⟨v, hv, rv⟩ := rs.get e
    have q' : SqL K H' a vs := SqL.mono w.sub (SqL.mono u.f q)
    refine ⟨⟨vs, v, q', hv⟩, fun x H2 y => ?_⟩
    obtain ⟨rfl, y⟩ := y
    have := y vs q'
    rw [hv] at this; cases this
    exact ⟨F', Ext.refl w.sub, rv.grow u⟩
  stop := fun {φ' h' F' H' i} w u e => by
    refine ⟨vs, SqL.mono w.sub (SqL.mono u.f q), ?_⟩
    rw [rs.length]
    exact List.getElem?_eq_none_iff.mp e
theorem walkD_tup {a : Addr} {vs : List V} {ds : List D} (q : SqT K F a vs) (rs : Reps K F φ vs ds) : WalkD K (Itt K a) (fun _ i => ds[i]?) φ F where
  go := fun {φ' h' F' H' i d} w u e => by
    obtain ⟨v, hv, rv⟩ := rs.get e
    have q' : SqT K H' a vs := SqT.mono w.sub (SqT.mono u.f q)
    refine ⟨⟨vs, v, q', hv⟩, fun x H2 y => ?_⟩
    obtain ⟨rfl, y⟩ := y
    have := y vs q'
    rw [hv] at this; cases this
    exact ⟨F', Ext.refl w.sub, rv.grow u⟩
  stop := fun {φ' h' F' H' i} w u e => by
    refine ⟨vs, SqT.mono w.sub (SqT.mono u.f q), ?_⟩
    rw [rs.length]
    exact List.getElem?_eq_none_iff.mp e
theorem walkD_ref {a : Addr} {n : Nat} (hp : φ[n]? = some a) : WalkD K (Itl K a) (fun h' i => match h'[n]? with | some (.lst ys) => ys[i]? | none => none) φ F where
  go := fun {φ' h' F' H' i d} w u e => by
    have hp' := u.p n a hp
    cases hc : h'[n]? with
    | none => simp only [hc] at e; cases e
    | some c =>
      cases c with
      | lst ys =>
        simp only [hc] at e
        obtain ⟨b, vs, h1, h2, h3⟩ := w.cell n ys hc
        rw [hp'] at h1; cases h1
        obtain ⟨v, hv, rv⟩ := h3.get e
        have q' : SqL K H' a vs := SqL.of h2
        refine ⟨⟨vs, v, q', hv⟩, fun x H2 y => ?_⟩
        obtain ⟨rfl, y⟩ := y
        have := y vs q'
        rw [hv] at this; cases this
        exact ⟨F', Ext.refl w.sub, rv⟩
  stop := fun {φ' h' F' H' i} w u e => by
    have hp' := u.p n a hp
    cases hc : h'[n]? with
    | none =>
      have := (List.getElem?_eq_some_iff.mp hp').1
      rw [w.len] at this
      rw [List.getElem?_eq_none_iff] at hc
      omega
    | some c =>
      cases c with
      | lst ys =>
        simp only [hc] at e
        obtain ⟨b, vs, h1, h2, h3⟩ := w.cell n ys hc
        rw [hp'] at h1; cases h1
        exact ⟨vs, SqL.of h2, by rw [h3.length]; exact List.getElem?_eq_none_iff.mp e⟩
theorem walkD_str {z : Str} : WalkD K (Its z) (fun _ i => (z.cps[i]?).map fun c => .str ⟨#[c]⟩) φ F where
  go := fun {φ' h' F' H' i d} w u e => by
    obtain ⟨c, hc, rfl⟩ := Option.map_eq_some_iff.mp e
    refine ⟨(Array.getElem?_eq_some_iff.mp hc).1, fun x H2 y => ?_⟩
    obtain ⟨rfl, c', hc', rfl⟩ := y
    rw [hc] at hc'; cases hc'
    exact ⟨F', Ext.refl w.sub, .str _⟩
  stop := fun {φ' h' F' H' i} w u e => by
    have e' := Option.map_eq_none_iff.mp e
    exact Array.getElem?_eq_none_iff.mp e'
theorem walkD_scr {a : Addr} {ns : List Int} (q : SqL K F a (ns.map V.int)) : WalkD K (Itl K a) (fun _ i => (ns[i]?).map .int) φ F where
  go := fun {φ' h' F' H' i d} w u e => by
    obtain ⟨c, hc, rfl⟩ := Option.map_eq_some_iff.mp e
    have q' : SqL K H' a (ns.map V.int) := SqL.mono w.sub (SqL.mono u.f q)
    have hv : (ns.map V.int)[i]? = some (.int c) := by simp [hc]
    refine ⟨⟨_, _, q', hv⟩, fun x H2 y => ?_⟩
    obtain ⟨rfl, y⟩ := y
    have := y _ q'
    rw [hv] at this; cases this
    exact ⟨F', Ext.refl w.sub, .int _⟩
  stop := fun {φ' h' F' H' i} w u e => by
    have e' := Option.map_eq_none_iff.mp e
    refine ⟨_, SqL.mono w.sub (SqL.mono u.f q), ?_⟩
    rw [List.length_map]
    exact List.getElem?_eq_none_iff.mp e'
theorem walkD_rng {lo : Int} {n : Nat} : WalkD K (Itr lo n) (fun _ i => if i < n then some (.int (lo + i)) else none) φ F where
  go := fun {φ' h' F' H' i d} w u e => by
    split at e
    · rename_i hi
      cases Option.some.inj e
      refine ⟨hi, fun x H2 y => ?_⟩
      obtain ⟨rfl, rfl⟩ := y
      exact ⟨F', Ext.refl w.sub, .int _⟩
    · cases e
  stop := fun {φ' h' F' H' i} w u e => by
    split at e
    · cases e
    · rename_i hi
      exact Nat.le_of_not_lt hi
def bndI (x : Option Res) (k : D → Option ItR) : Option ItR := match x with
  | some (.ok d) => k d
  | some (.exc c fs) => some (.exc c fs)
  | none => none
def bndLI (x : Option ResL) (k : List D → Option ItR) : Option ItR := match x with
  | some (.ok d) => k d
  | some (.exc c fs) => some (.exc c fs)
  | none => none
end
section
variable {X : Cx} {W : WX} {tg e e2 : Expr} {f : Sx} {g : Lx} {p pos tpos : Pos} {elts : List Expr} {kk : Nat}
def iData (f : Sx) : Ix := fun ρ h => bndI (f ρ h) (itmD h)
theorem di_data (he : PE X e (tD X.K X.mg W f)) : PI X tg e (tI X.K X.mg W (iData f)) := by
  refine (((pi_list he).or (pi_tup he)).or (pi_str he)).weak fun σ H R q => ?_
  obtain ⟨φ, h, F, ρ, r, w, en, hf, q⟩ := q
  unfold iData bndI at hf
  cases h1 : f ρ h with
  | none => rw [h1] at hf; cases hf
  | some x =>
    rw [h1] at hf
    cases x with
    | exc c fs =>
      cases Option.some.inj hf
      exact .inl (.inl ⟨φ, h, F, ρ, .exc c fs, w, en, h1, q⟩)
    | ok d =>
      dsimp only at hf
      cases d with
      | lst xs =>
        cases Option.some.inj hf
        refine .inl (.inl ⟨φ, h, F, ρ, .ok (.lst xs), w, en, h1, fun v F1 H1 e1 rv => ?_⟩)
        cases rv with
        | @lst a vs _ hq rs => exact ⟨a, rfl, ⟨vs, SqL.of ((w.ext e1).sub _ _ hq)⟩, q _ F1 H1 e1 (walkD_list (SqL.of hq) rs)⟩
      | tup xs =>
        cases Option.some.inj hf
        refine .inl (.inr ⟨φ, h, F, ρ, .ok (.tup xs), w, en, h1, fun v F1 H1 e1 rv => ?_⟩)
        cases rv with
        | @tup a vs _ hq rs => exact ⟨a, rfl, ⟨vs, SqT.mono (w.ext e1).sub hq⟩, q _ F1 H1 e1 (walkD_tup hq rs)⟩
      | str z =>
        cases Option.some.inj hf
        exact .inr ⟨φ, h, F, ρ, .ok (.str z), w, en, h1, fun v F1 H1 e1 rv => ⟨z, rv.str_inv, q _ F1 H1 e1 walkD_str⟩⟩
      | scr ns =>
        cases Option.some.inj hf
        refine .inl (.inl ⟨φ, h, F, ρ, .ok (.scr ns), w, en, h1, fun v F1 H1 e1 rv => ?_⟩)
        cases rv with
        | @scr a _ hq => exact ⟨a, rfl, ⟨_, SqL.mono (w.ext e1).sub hq⟩, q _ F1 H1 e1 (walkD_scr hq)⟩
      | ref n =>
        have hf : (match h[n]? with | some (.lst xs) => some (ItR.ok (fun h' i => match h'[n]? with | some (.lst ys) => ys[i]? | none => none) xs.length) | none => none) = some r := hf
        split at hf
        · rename_i xs hc
          cases Option.some.inj hf
          refine .inl (.inl ⟨φ, h, F, ρ, .ok (.ref n), w, en, h1, fun v F1 H1 e1 rv => ?_⟩)
          cases rv with
          | @ref a _ hp =>
            obtain ⟨ys, hy⟩ := (w.ext e1).there (List.mem_of_getElem? hp)
            exact ⟨a, rfl, ⟨ys, SqL.of hy⟩, q _ F1 H1 e1 (walkD_ref hp)⟩
        · cases hf
      | _ => cases hf
/-- one part of a walk is read -/
theorem tI_stepL {K : Frag} {mg : Str → Option Value} {φ : List Addr} {h : List Cell} {F H : Hp} {σ : St} {ρ : Rho} {k : List D → Option ItR} {r : ItR} {Q' : List V → Hp → Prop} {R : It → Hp → Prop} (w : Wd K φ h F H) (e : Env1 K F φ σ ρ) (hb : bndLI (g ρ h) k = some r)
    (want : WantI K mg W φ F H σ R r)
    (go : ∀ ds vs F1 H1, Ext F H F1 H1 → Reps K F1 φ vs ds → k ds = some r → Q' vs H1) : tA K mg W g σ H Q' := by
  cases hf : g ρ h with
  | none => rw [hf] at hb; cases hb
  | some x =>
    rw [hf] at hb
    cases x with
    | ok d => exact ⟨φ, h, F, ρ, .ok d, w, e, hf, fun v F1 H1 ex rep => go d v F1 H1 ex rep hb⟩
    | exc c fs =>
      cases Option.some.inj (show some (ItR.exc c fs) = some r from hb)
      exact ⟨φ, h, F, ρ, .exc c fs, w, e, hf, want⟩
def rngI (lo hi : Int) : Option ItR := if -(2 ^ 62) ≤ lo ∧ lo < 2 ^ 62 ∧ -(2 ^ 62) ≤ hi ∧ hi < 2 ^ 62 then some (.ok (fun _ i => if i < (hi - lo).toNat then some (.int (lo + i)) else none) (hi - lo).toNat) else none
def rng1 : List D → Option ItR
  | [.int j] => rngI 0 j
  | _ => none
def rng2 : List D → Option ItR
  | [.int i, .int j] => rngI i j
  | _ => none
def iRange1 (g : Lx) : Ix := fun ρ h => bndLI (g ρ h) rng1
def iRange2 (g : Lx) : Ix := fun ρ h => bndLI (g ρ h) rng2
theorem Want_ext {K : Frag} {mg : Str → Option Value} {φ : List Addr} {F H F' H' : Hp} {σ : St} {Q : VK} {c : Str} {fs : List (Str × D)} (e : Ext F H F' H') (w : Want K mg W φ F H σ Q (.exc c fs)) : Want K mg W φ F' H' σ Q (.exc c fs) := w.ext e
theorem di_range1 {x : Str} (hx : x = ("range" : Str)) (hg : Gl X x) (hm : X.mg x = none) (ha : PA X [e] (tA X.K X.mg W g)) (hs : noStar e = true) : PI X tg (.Call (.Name x p) [e] [] pos) (tI X.K X.mg W (iRange1 g)) := by
  subst hx
  refine (pi_range1 hg hm ha (starEach_cons hs)).weak fun σ H R q => ?_
  obtain ⟨φ, h, F, ρ, r, w, en, hf, q⟩ := q
  refine tI_stepL w en hf q fun ds vs F1 H1 e1 rs hk => ?_
  match ds, rs, hk with
  | [.int j], rs, hk =>
    obtain ⟨v, rfl, rv⟩ := rs.one
    rw [rv.int_inv]
    have hk : rngI 0 j = some r := hk
    unfold rngI at hk
    split at hk
    · rename_i hz
      cases Option.some.inj hk
      have ej : (j - 0).toNat = j.toNat := by rw [Int.sub_zero]
      rw [ej] at q
      exact ⟨j, rfl, hz.2.2.1, hz.2.2.2, q _ F1 H1 e1 walkD_rng⟩
    · cases hk
theorem di_range2 {x : Str} (hx : x = ("range" : Str)) (hg : Gl X x) (hm : X.mg x = none) (ha : PA X [e, e2] (tA X.K X.mg W g)) (hs : noStar e = true) (hs2 : noStar e2 = true) : PI X tg (.Call (.Name x p) [e, e2] [] pos) (tI X.K X.mg W (iRange2 g)) := by
  subst hx
  refine (pi_range2 hg hm ha (by rw [starEach_cons hs, starEach_cons hs2]; rfl) (starEach_cons hs2)).weak fun σ H R q => ?_
  obtain ⟨φ, h, F, ρ, r, w, en, hf, q⟩ := q
  refine tI_stepL w en hf q fun ds vs F1 H1 e1 rs hk => ?_
  match ds, rs, hk with
  | [.int i, .int j], rs, hk =>
    obtain ⟨v, u, rfl, rv, ru⟩ := rs.two
    rw [rv.int_inv, ru.int_inv]
    have hk : rngI i j = some r := hk
    unfold rngI at hk
    split at hk
    · rename_i hz
      cases Option.some.inj hk
      exact ⟨i, j, rfl, hz, q _ F1 H1 e1 walkD_rng⟩
    · cases hk
/-! enumerate, zip -/
theorem walkD_enum {K : Frag} {φ : List Addr} {F : Hp} {a : Addr} {vs : List V} {ds : List D} (q : SqL K F a vs) (rs : Reps K F φ vs ds) : WalkD K (Ite K a) (fun _ i => (ds[i]?).map fun d => .tup [.int (i : Nat), d]) φ F where
  go := fun {φ' h' F' H' i d} w u e => by
    obtain ⟨d1, hd, rfl⟩ := Option.map_eq_some_iff.mp e
    obtain ⟨v, hv, rv⟩ := rs.get hd
    have q' : SqL K H' a vs := SqL.mono w.sub (SqL.mono u.f q)
    refine ⟨⟨vs, v, q', hv⟩, fun x H2 y => ?_⟩
    obtain ⟨T, x1, rfl, hT, rfl, y⟩ := y
    have := y vs q'
    rw [hv] at this; cases this
    obtain ⟨e2, r2⟩ := new_tup w hT (.cons (.int (i : Nat)) (.cons (rv.grow u) .nil))
    exact ⟨_, e2, r2⟩
  stop := fun {φ' h' F' H' i} w u e => by
    refine ⟨vs, SqL.mono w.sub (SqL.mono u.f q), ?_⟩
    rw [rs.length]
    exact List.getElem?_eq_none_iff.mp (Option.map_eq_none_iff.mp e)
def enumI : List D → Option ItR
  | [.lst xs] => some (.ok (fun _ i => (xs[i]?).map fun d => .tup [.int (i : Nat), d]) xs.length)
  | _ => none
def iEnumL (g : Lx) : Ix := fun ρ h => bndLI (g ρ h) enumI
theorem di_enumL {x : Str} (hx : x = ("enumerate" : Str)) (hg : Gl X x) (hm : X.mg x = none) (ha : PA X [e] (tA X.K X.mg W g)) (hs : noStar e = true) : PI X (.Tuple elts kk tpos) (.Call (.Name x p) [e] [] pos) (tI X.K X.mg W (iEnumL g)) := by
  subst hx
  refine (pi_enum hg hm ha (starEach_cons hs)).weak fun σ H R q => ?_
  obtain ⟨φ, h, F, ρ, r, w, en, hf, q⟩ := q
  refine tI_stepL w en hf q fun ds vs F1 H1 e1 rs hk => ?_
  match ds, rs, hk with
  | [.lst xs], rs, hk =>
    obtain ⟨v, rfl, rv⟩ := rs.one
    cases Option.some.inj (show some (ItR.ok (fun _ i => (xs[i]?).map fun d => .tup [.int (i : Nat), d]) xs.length) = some r from hk)
    cases rv with
    | @lst a us _ hq rs => exact ⟨a, us, rfl, SqL.of ((w.ext e1).sub _ _ hq), q _ F1 H1 e1 (walkD_enum (SqL.of hq) rs)⟩
def zipI : List D → Option ItR
  | [.lst xs, .lst ys] => some (.ok (fun _ i => match xs[i]?, ys[i]? with | some a, some b => some (.tup [a, b]) | _, _ => none) (min xs.length ys.length))
  | [.tup xs, .tup ys] => some (.ok (fun _ i => match xs[i]?, ys[i]? with | some a, some b => some (.tup [a, b]) | _, _ => none) (min xs.length ys.length))
  | _ => none
def iZipD (g : Lx) : Ix := fun ρ h => bndLI (g ρ h) zipI
theorem two_get {xs ys : List D} {i : Nat} {d : D} (e : (match xs[i]?, ys[i]? with | some a, some b => some (D.tup [a, b]) | _, _ => none) = some d) : ∃ a b, xs[i]? = some a ∧ ys[i]? = some b ∧ d = .tup [a, b] := by
  split at e
  · rename_i a b h1 h2
    exact ⟨a, b, h1, h2, (Option.some.inj e).symm⟩
  · cases e
theorem two_none {xs ys : List D} {i : Nat} (e : (match xs[i]?, ys[i]? with | some a, some b => some (D.tup [a, b]) | _, _ => none) = none) : xs.length ≤ i ∨ ys.length ≤ i := by
  cases h1 : xs[i]? with
  | none => exact .inl (List.getElem?_eq_none_iff.mp h1)
  | some a =>
    cases h2 : ys[i]? with
    | none => exact .inr (List.getElem?_eq_none_iff.mp h2)
    | some b => rw [h1, h2] at e; cases e
theorem walkD_zip {K : Frag} {φ : List Addr} {F : Hp} {a b : Addr} {vs us : List V} {ds es : List D} (q : SqL K F a vs) (rs : Reps K F φ vs ds) (q2 : SqL K F b us) (rs2 : Reps K F φ us es) : WalkD K (Itz K a b) (fun _ i => match ds[i]?, es[i]? with | some a, some b => some (.tup [a, b]) | _, _ => none) φ F where
  go := fun {φ' h' F' H' i d} w u e => by
    obtain ⟨d1, d2, hd, hd2, rfl⟩ := two_get e
    obtain ⟨v, hv, rv⟩ := rs.get hd
    obtain ⟨z, hz, rz⟩ := rs2.get hd2
    have q' : SqL K H' a vs := SqL.mono w.sub (SqL.mono u.f q)
    have q2' : SqL K H' b us := SqL.mono w.sub (SqL.mono u.f q2)
    refine ⟨⟨vs, us, v, z, q', q2', hv, hz⟩, fun x H2 y => ?_⟩
    obtain ⟨T, x1, x2, rfl, hT, rfl, y1, y2⟩ := y
    have := y1 vs q'
    rw [hv] at this; cases this
    have := y2 us q2'
    rw [hz] at this; cases this
    obtain ⟨e2, r2⟩ := new_tup w hT (.cons (rv.grow u) (.cons (rz.grow u) .nil))
    exact ⟨_, e2, r2⟩
  stop := fun {φ' h' F' H' i} w u e => by
    refine ⟨vs, us, SqL.mono w.sub (SqL.mono u.f q), SqL.mono w.sub (SqL.mono u.f q2), ?_⟩
    rw [rs.length, rs2.length]
    exact two_none e
theorem walkD_zipT {K : Frag} {φ : List Addr} {F : Hp} {a b : Addr} {vs us : List V} {ds es : List D} (q : SqT K F a vs) (rs : Reps K F φ vs ds) (q2 : SqT K F b us) (rs2 : Reps K F φ us es) : WalkD K (RZ.ItzT K a b) (fun _ i => match ds[i]?, es[i]? with | some a, some b => some (.tup [a, b]) | _, _ => none) φ F where
  go := fun {φ' h' F' H' i d} w u e => by
    obtain ⟨d1, d2, hd, hd2, rfl⟩ := two_get e
    obtain ⟨v, hv, rv⟩ := rs.get hd
    obtain ⟨z, hz, rz⟩ := rs2.get hd2
    have q' : SqT K H' a vs := SqT.mono w.sub (SqT.mono u.f q)
    have q2' : SqT K H' b us := SqT.mono w.sub (SqT.mono u.f q2)
    refine ⟨⟨vs, us, v, z, q', q2', hv, hz⟩, fun x H2 y => ?_⟩
    obtain ⟨T, x1, x2, rfl, hT, rfl, y1, y2⟩ := y
    have := y1 vs q'
    rw [hv] at this; cases this
    have := y2 us q2'
    rw [hz] at this; cases this
    obtain ⟨e2, r2⟩ := new_tup w hT (.cons (rv.grow u) (.cons (rz.grow u) .nil))
    exact ⟨_, e2, r2⟩
  stop := fun {φ' h' F' H' i} w u e => by
    refine ⟨vs, us, SqT.mono w.sub (SqT.mono u.f q), SqT.mono w.sub (SqT.mono u.f q2), ?_⟩
    rw [rs.length, rs2.length]
    exact two_none e
theorem di_zip {x : Str} (hx : x = ("zip" : Str)) (hg : Gl X x) (hm : X.mg x = none) (ha : PA X [e, e2] (tA X.K X.mg W g)) (hs : noStar e = true) (hs2 : noStar e2 = true) : PI X (.Tuple elts kk tpos) (.Call (.Name x p) [e, e2] [] pos) (tI X.K X.mg W (iZipD g)) := by
  subst hx
  refine (RZ.pi_zipA hg hm ha (starEach_cons hs) (starEach_all (by simp [hs2]))).weak fun σ H R q => ?_
  obtain ⟨φ, h, F, ρ, r, w, en, hf, q⟩ := q
  refine tI_stepL w en hf q fun ds vs F1 H1 e1 rs hk => ?_
  match ds, rs, hk with
  | [.lst xs, .lst ys], rs, hk =>
    obtain ⟨v, u, rfl, rv, ru⟩ := rs.two
    cases Option.some.inj (show some (ItR.ok _ _) = some r from hk)
    cases rv with
    | @lst a us _ hq t1 =>
      cases ru with
      | @lst b zs _ hq2 t2 => exact ⟨a, b, us, zs, rfl, .inl ⟨SqL.of ((w.ext e1).sub _ _ hq), SqL.of ((w.ext e1).sub _ _ hq2), q _ F1 H1 e1 (walkD_zip (SqL.of hq) t1 (SqL.of hq2) t2)⟩⟩
  | [.tup xs, .tup ys], rs, hk =>
    obtain ⟨v, u, rfl, rv, ru⟩ := rs.two
    cases Option.some.inj (show some (ItR.ok _ _) = some r from hk)
    cases rv with
    | @tup a us _ hq t1 =>
      cases ru with
      | @tup b zs _ hq2 t2 => exact ⟨a, b, us, zs, rfl, .inr ⟨SqT.mono (w.ext e1).sub hq, SqT.mono (w.ext e1).sub hq2, q _ F1 H1 e1 (walkD_zipT hq t1 hq2 t2)⟩⟩
end

/-! ### targets -/
theorem wipe_get (σ : St) : ∀ (vs : List Nat) (j : Nat), (L2.wipe σ vs)[j]? = if j ∈ vs ∧ j < σ.length then some none else σ[j]?
  | [], j => by simp [L2.wipe]
  | v :: vs, j => by
    show ((L2.wipe σ vs).set v none)[j]? = _
    have hl := L2.wipe_length σ vs
    rw [List.getElem?_set]
    by_cases hv : v = j
    · subst hv
      by_cases hlt : v < σ.length
      · simp [hl, hlt]
      · simp [hl, hlt]
    · rw [if_neg hv, wipe_get σ vs j]
      have : (j ∈ v :: vs) ↔ j ∈ vs := by
        rw [List.mem_cons]
        exact ⟨fun h => h.elim (fun z => absurd z.symm hv) id, .inr⟩
      simp only [this]
theorem wipe_eq {σ σ' : St} {vs : List Nat} (hl : σ'.length = σ.length) (h : ∀ j, j ∉ vs → σ'[j]? = σ[j]?) : L2.wipe σ' vs = L2.wipe σ vs := by
  refine List.ext_getElem? fun j => ?_
  rw [wipe_get, wipe_get, hl]
  by_cases hj : j ∈ vs
  · by_cases hlt : j < σ.length
    · simp [hj, hlt]
    · have h1 : σ'[j]? = none := List.getElem?_eq_none (by omega)
      have h2 : σ[j]? = none := List.getElem?_eq_none (by omega)
      rw [h1, h2]
  · simp [hj, h j hj]
/-- σ' is σ but at the slots sl -/
structure Same (sl : List Nat) (σ σ' : St) : Prop where
  len : σ'.length = σ.length
  at_ : ∀ j, j ∉ sl → σ'[j]? = σ[j]?
theorem Same.refl {sl : List Nat} {σ : St} : Same sl σ σ := ⟨rfl, fun _ _ => rfl⟩
theorem Same.trans {sl sl' : List Nat} {σ σ' σ2 : St} (a : Same sl σ σ') (b : Same sl' σ' σ2) : Same (sl ++ sl') σ σ2 :=
  ⟨b.len.trans a.len, fun j hj => (b.at_ j fun z => hj (List.mem_append_right _ z)).trans (a.at_ j fun z => hj (List.mem_append_left _ z))⟩
theorem Same.wipe {sl vs : List Nat} {σ σ' : St} (s : Same sl σ σ') (h : ∀ i ∈ sl, i ∈ vs) : L2.wipe σ' vs = L2.wipe σ vs := wipe_eq s.len fun j hj => s.at_ j fun z => hj (h j z)

abbrev Gx := D → Rho → Option Rho
abbrev Gxs := List D → Rho → Option Rho
def tG (K : Frag) (sl : List Nat) (g : Gx) : TG := fun v σ H Q => ∃ φ h F ρ ρ' d, Wd K φ h F H ∧ Env1 K F φ σ ρ ∧ Rep K F φ v d ∧ g d ρ = some ρ' ∧ ∀ σ', Env1 K F φ σ' ρ' → Same sl σ σ' → Q σ' H
def tGs (K : Frag) (sl : List Nat) (g : Gxs) : TGs := fun vs σ H Q => ∃ φ h F ρ ρ' ds, Wd K φ h F H ∧ Env1 K F φ σ ρ ∧ Reps K F φ vs ds ∧ g ds ρ = some ρ' ∧ ∀ σ', Env1 K F φ σ' ρ' → Same sl σ σ' → Q σ' H
section
variable {X : Cx} {pos : Pos} {e : Expr} {es : List Expr} {sl sl' : List Nat} {g : Gx} {gs : Gxs}
def gxName (i : Nat) : Gx := fun d ρ => some (ρ.set i (some d))
theorem dg_name {i : Nat} {x : Str} (hN : X.N.Nodup) (hi : X.N[i]? = some x) (hx : Loc X.env.scope x) (hf : X.fn x = true ∨ X.env.scope.names.lookup x = some .local) : PG X (.Name x pos) (tG X.K [i] (gxName i)) := by
  refine (pg_name hN hi hx hf).weak fun v σ H Q q => ?_
  obtain ⟨φ, h, F, ρ, ρ', d, w, e, rv, hg, q⟩ := q
  cases Option.some.inj hg
  exact q _ (e.set i rv) ⟨List.length_set, fun j hj => List.getElem?_set_ne (fun z => hj (by simp [z]))⟩
def gxNil : Gxs := fun ds ρ => match ds with
  | [] => some ρ
  | _ => none
def gxCons (g : Gx) (gs : Gxs) : Gxs := fun ds ρ => match ds with
  | d :: ds => (match g d ρ with
    | some ρ1 => gs ds ρ1
    | none => none)
  | [] => none
theorem dgs_nil : PGs X [] (tGs X.K [] gxNil) := by
  refine pgs_nil.weak fun vs σ H Q q => ?_
  obtain ⟨φ, h, F, ρ, ρ', ds, w, e, rs, hg, q⟩ := q
  cases rs with
  | nil =>
    cases Option.some.inj (show some ρ = some ρ' from hg)
    exact ⟨rfl, q σ e .refl⟩
  | cons r t => cases hg
theorem dgs_cons (h1 : PG X e (tG X.K sl g)) (h2 : PGs X es (tGs X.K sl' gs)) (hs : noStar e = true) : PGs X (e :: es) (tGs X.K (sl ++ sl') (gxCons g gs)) := by
  refine (pgs_cons h1 h2 (by rw [assignEach_cons hs]; rfl)).weak fun vs σ H Q q => ?_
  obtain ⟨φ, h, F, ρ, ρ', ds, w, e, rs, hg, q⟩ := q
  cases rs with
  | nil => cases hg
  | @cons v vs d ds r t =>
    have hg : (match g d ρ with | some ρ1 => gs ds ρ1 | none => none) = some ρ' := hg
    cases h1 : g d ρ with
    | none => rw [h1] at hg; cases hg
    | some ρ1 =>
      rw [h1] at hg
      exact ⟨v, vs, rfl, φ, h, F, ρ, ρ1, d, w, e, r, h1, fun σ1 e1 s1 => ⟨φ, h, F, ρ1, ρ', ds, w, e1, t, hg, fun σ2 e2 s2 => q σ2 e2 (s1.trans s2)⟩⟩
def gxTup (n : Nat) (gs : Gxs) : Gx := fun d ρ => match d with
  | .tup ds => if ds.length = n then gs ds ρ else none
  | _ => none
theorem dg_tup {k : Nat} (hc : X.calm = true) (h : PGs X es (tGs X.K sl gs)) (hs : es.all noStar = true) : PG X (.Tuple es k pos) (tG X.K sl (gxTup es.length gs)) := by
  refine (pg_tup hc h assignEach_length (assignEach_noStar hs)).weak fun v σ H Q q => ?_
  obtain ⟨φ, h, F, ρ, ρ', d, w, e, rv, hg, q⟩ := q
  cases d with
  | tup ds =>
    have hg : (if ds.length = es.length then gs ds ρ else none) = some ρ' := hg
    split at hg
    · rename_i hl
      cases rv with
      | @tup a vs _ hq rs => exact ⟨a, vs, rfl, SqT.mono w.sub hq, by rw [rs.length]; exact hl, φ, h, F, ρ, ρ', ds, w, e, rs, hg, q⟩
    · cases hg
  | _ => cases hg
end
end DL

set_option Elab.async false
set_option linter.all false
set_option maxRecDepth 100000
/-! DLj: statements. -/
namespace DL
open PySem PySem.Spec PyProof.Rows L2

inductive Out where
  | nx (ρ : Rho) (h : List Cell)
  | bk (ρ : Rho) (h : List Cell)
  | ct (ρ : Rho) (h : List Cell)
  | rt (r : Rf)
  | exc (c : Str) (fs : List (Str × D)) (ρ : Rho) (h : List Cell)
abbrev Sm := Rho → List Cell → Option Out

/-- what is wanted of what a def hands back -/
def WantR (K : Frag) (F0 H0 : Hp) (Q : VK) : Rf → Prop
  | .val d => ∀ v F' H', Ext F0 H0 F' H' → Rep K F' [] v d → Q v H'
  | .lstF xs => ∀ a vs F' H', Ext F0 H0 F' H' → H0 a = none → F' a = none → H' a = some (.lst vs) → Reps K F' [] vs xs → Q (.ref a) H'
  | .exc _ _ => False
def WantS (K : Frag) (mg : Str → Option Value) (F0 H0 : Hp) (W : WX) (φ : List Addr) (F : Hp) (E : Ends) : Out → Prop
  | .nx ρ h => ∀ φ' F' H' σ', Rn K F0 H0 φ' h F' H' σ' ρ → Up φ F φ' F' → E.nx σ' H'
  | .bk ρ h => ∀ φ' F' H' σ', Rn K F0 H0 φ' h F' H' σ' ρ → Up φ F φ' F' → E.bk σ' H'
  | .ct ρ h => ∀ φ' F' H' σ', Rn K F0 H0 φ' h F' H' σ' ρ → Up φ F φ' F' → E.ct σ' H'
  | .rt r => WantR K F0 H0 E.rt r
  | .exc c fs ρ h => ∀ cls dx φ' F' H' σ', Rn K F0 H0 φ' h F' H' σ' ρ → Up φ F φ' F' → ExcAt K mg F' φ' cls dx c fs → W cls dx σ' H'
def tS (K : Frag) (mg : Str → Option Value) (F0 H0 : Hp) (W : WX) (f : Sm) : TS := fun E σ H => ∃ φ h F ρ o, Rn K F0 H0 φ h F H σ ρ ∧ f ρ h = some o ∧ WantS K mg F0 H0 W φ F E o

section
variable {K : Frag} {mg : Str → Option Value} {F0 H0 F H F' : Hp} {W : WX} {φ φ' : List Addr} {h : List Cell} {σ : St} {ρ : Rho} {E : Ends}
theorem WantS.up (u : Up φ F φ' F') : ∀ {o : Out}, WantS K mg F0 H0 W φ F E o → WantS K mg F0 H0 W φ' F' E o
  | .nx _ _, w => fun p2 F2 H2 s2 r2 u2 => w p2 F2 H2 s2 r2 (u.trans u2)
  | .bk _ _, w => fun p2 F2 H2 s2 r2 u2 => w p2 F2 H2 s2 r2 (u.trans u2)
  | .ct _ _, w => fun p2 F2 H2 s2 r2 u2 => w p2 F2 H2 s2 r2 (u.trans u2)
  | .rt _, w => w
  | .exc _ _ _ _, w => fun c d p2 F2 H2 s2 r2 u2 q => w c d p2 F2 H2 s2 r2 (u.trans u2) q
/-- an expression is read, then the rest goes on -/
def bndS (x : Option ResM) (ρ : Rho) (k : D → List Cell → Option Out) : Option Out := match x with
  | some (.ok d h) => k d h
  | some (.exc c fs h) => some (.exc c fs ρ h)
  | none => none
theorem tMS_step {f : Mx} {k : D → List Cell → Option Out} {o : Out} {Q' : VK} (n : Rn K F0 H0 φ h F H σ ρ) (hb : bndS (f ρ h) ρ k = some o) (want : WantS K mg F0 H0 W φ F E o)
    (go : ∀ d h1 v φ1 F1 H1, Rn K F0 H0 φ1 h1 F1 H1 σ ρ → Up φ F φ1 F1 → Rep K F1 φ1 v d → k d h1 = some o → Q' v H1) : tM K mg F0 H0 W f σ H Q' := by
  cases hf : f ρ h with
  | none => rw [hf] at hb; cases hb
  | some x =>
    rw [hf] at hb
    cases x with
    | ok d h1 => exact ⟨φ, h, F, ρ, .ok d h1, n, hf, fun v p1 F1 H1 n1 u rep => go d h1 v p1 F1 H1 n1 u rep hb⟩
    | exc c fs h1 =>
      cases Option.some.inj (show some (Out.exc c fs ρ h1) = some o from hb)
      exact ⟨φ, h, F, ρ, .exc c fs h1, n, hf, fun cls dx φ' F' H' n1 u x => want cls dx φ' F' H' σ n1 u x⟩
def bndDS (x : Option Res) (ρ : Rho) (h : List Cell) (k : D → Option Out) : Option Out := match x with
  | some (.ok d) => k d
  | some (.exc c fs) => some (.exc c fs ρ h)
  | none => none
theorem tDS_step {f : Sx} {k : D → Option Out} {o : Out} {Q' : VK} (n : Rn K F0 H0 φ h F H σ ρ) (hb : bndDS (f ρ h) ρ h k = some o) (want : WantS K mg F0 H0 W φ F E o)
    (go : ∀ d v F1 H1, Ext F H F1 H1 → Rep K F1 φ v d → k d = some o → Q' v H1) : tD K mg W f σ H Q' := by
  cases hf : f ρ h with
  | none => rw [hf] at hb; cases hb
  | some x =>
    rw [hf] at hb
    cases x with
    | ok d => exact ⟨φ, h, F, ρ, .ok d, n.w, n.e, hf, fun v F1 H1 e rep => go d v F1 H1 e rep hb⟩
    | exc c fs =>
      cases Option.some.inj (show some (Out.exc c fs ρ h) = some o from hb)
      exact ⟨φ, h, F, ρ, .exc c fs, n.w, n.e, hf, fun cls dx F1 H1 e x => want cls dx φ F1 H1 σ (n.ext e) (Up.of e) x⟩
def bndBS (x : Option Res) (ρ : Rho) (h : List Cell) (k : Bool → Option Out) : Option Out := match x with
  | some (.ok (.bl b)) => k b
  | some (.exc c fs) => some (.exc c fs ρ h)
  | _ => none
theorem tTS_step {f : Sx} {k : Bool → Option Out} {o : Out} {Q' : Bool → Hp → Prop} (n : Rn K F0 H0 φ h F H σ ρ) (hb : bndBS (f ρ h) ρ h k = some o) (want : WantS K mg F0 H0 W φ F E o)
    (go : ∀ b F1 H1, Ext F H F1 H1 → k b = some o → Q' b H1) : tT K mg W f σ H Q' := by
  cases hf : f ρ h with
  | none => rw [hf] at hb; cases hb
  | some x =>
    rw [hf] at hb
    cases x with
    | ok d =>
      cases d with
      | bl b => exact ⟨φ, h, F, ρ, .ok (.bl b), n.w, n.e, hf, fun F1 H1 e => go b F1 H1 e hb⟩
      | _ => cases hb
    | exc c fs =>
      cases Option.some.inj (show some (Out.exc c fs ρ h) = some o from hb)
      exact ⟨φ, h, F, ρ, .exc c fs, n.w, n.e, hf, fun cls dx F1 H1 e x => want cls dx φ F1 H1 σ (n.ext e) (Up.of e) x⟩
def bndIS (x : Option ItR) (ρ : Rho) (h : List Cell) (k : (List Cell → Nat → Option D) → Nat → Option Out) : Option Out := match x with
  | some (.ok itm n) => k itm n
  | some (.exc c fs) => some (.exc c fs ρ h)
  | none => none
theorem tIS_step {f : Ix} {k : (List Cell → Nat → Option D) → Nat → Option Out} {o : Out} {R : It → Hp → Prop} (n : Rn K F0 H0 φ h F H σ ρ) (hb : bndIS (f ρ h) ρ h k = some o) (want : WantS K mg F0 H0 W φ F E o)
    (go : ∀ itm m J F1 H1, Ext F H F1 H1 → WalkD K J itm φ F1 → k itm m = some o → R J H1) : tI K mg W f σ H R := by
  cases hf : f ρ h with
  | none => rw [hf] at hb; cases hb
  | some x =>
    rw [hf] at hb
    cases x with
    | ok itm m => exact ⟨φ, h, F, ρ, .ok itm m, n.w, n.e, hf, fun J F1 H1 e wk => go itm m J F1 H1 e wk hb⟩
    | exc c fs =>
      cases Option.some.inj (show some (Out.exc c fs ρ h) = some o from hb)
      exact ⟨φ, h, F, ρ, .exc c fs, n.w, n.e, hf, fun cls dx F1 H1 e x => want cls dx φ F1 H1 σ (n.ext e) (Up.of e) x⟩
end

section
variable {X : Cx} {W : WX} {F0 H0 : Hp} {pos p : Pos} {st : Stmt} {rest sa sb : List Stmt} {e o tg it : Expr} {f g u : Sm} {fm : Mx} {fd fo fi : Sx} {ix : Ix} {gx : Gx} {sl : List Nat}
def sNext : Sm := fun ρ h => some (.nx ρ h)
def sSeq (f g : Sm) : Sm := fun ρ h => match f ρ h with
  | some (.nx ρ h) => g ρ h
  | x => x
theorem dss_nil : PSs X [] (tS X.K X.mg F0 H0 W sNext) := by
  refine pss_nil.weak fun D σ H q => ?_
  obtain ⟨φ, h, F, ρ, o, n, hf, want⟩ := q
  cases Option.some.inj hf
  exact want φ F H σ n .refl
theorem dss_one (h1 : PS X st (tS X.K X.mg F0 H0 W f)) : PSs X [st] (tS X.K X.mg F0 H0 W f) := pss_one h1
theorem dss_cons (h1 : PS X st (tS X.K X.mg F0 H0 W f)) (h2 : PSs X rest (tS X.K X.mg F0 H0 W g)) : PSs X (st :: rest) (tS X.K X.mg F0 H0 W (sSeq f g)) := by
  refine (pss_cons h1 h2).weak fun D σ H q => ?_
  obtain ⟨φ, h, F, ρ, o, n, hf, want⟩ := q
  unfold sSeq at hf
  cases h3 : f ρ h with
  | none => rw [h3] at hf; cases hf
  | some x =>
    rw [h3] at hf
    cases x with
    | nx ρ1 h1 => exact ⟨φ, h, F, ρ, .nx ρ1 h1, n, h3, fun φ1 F1 H1 σ1 n1 u1 => ⟨φ1, h1, F1, ρ1, o, n1, hf, want.up u1⟩⟩
    | bk ρ1 h1 => cases Option.some.inj hf; exact ⟨φ, h, F, ρ, .bk ρ1 h1, n, h3, want⟩
    | ct ρ1 h1 => cases Option.some.inj hf; exact ⟨φ, h, F, ρ, .ct ρ1 h1, n, h3, want⟩
    | rt r => cases Option.some.inj hf; exact ⟨φ, h, F, ρ, .rt r, n, h3, want⟩
    | exc c fs ρ1 h1 => cases Option.some.inj hf; exact ⟨φ, h, F, ρ, .exc c fs ρ1 h1, n, h3, want⟩
def sBreak : Sm := fun ρ h => some (.bk ρ h)
def sCont : Sm := fun ρ h => some (.ct ρ h)
theorem ds_pass : PS X (.Pass pos) (tS X.K X.mg F0 H0 W sNext) := by
  refine ps_pass.weak fun D σ H q => ?_
  obtain ⟨φ, h, F, ρ, o, n, hf, want⟩ := q
  cases Option.some.inj hf
  exact want φ F H σ n .refl
theorem ds_break : PS X (.Break pos) (tS X.K X.mg F0 H0 W sBreak) := by
  refine ps_break.weak fun D σ H q => ?_
  obtain ⟨φ, h, F, ρ, o, n, hf, want⟩ := q
  cases Option.some.inj hf
  exact want φ F H σ n .refl
theorem ds_cont : PS X (.Continue pos) (tS X.K X.mg F0 H0 W sCont) := by
  refine ps_continue.weak fun D σ H q => ?_
  obtain ⟨φ, h, F, ρ, o, n, hf, want⟩ := q
  cases Option.some.inj hf
  exact want φ F H σ n .refl
/-- e alone -/
def sDrop (f : Mx) : Sm := fun ρ h => bndS (f ρ h) ρ fun _ h1 => some (.nx ρ h1)
theorem ds_expr (he : PE X e (tM X.K X.mg F0 H0 W fm)) (hs : noComp e = true) : PS X (.Expr e pos) (tS X.K X.mg F0 H0 W (sDrop fm)) := by
  refine (ps_expr he (swaps_of hs)).weak fun D σ H q => ?_
  obtain ⟨φ, h, F, ρ, o, n, hf, want⟩ := q
  refine tMS_step n hf want fun d h1 v φ1 F1 H1 n1 u1 rv hk => ?_
  cases Option.some.inj hk
  exact want φ1 F1 H1 σ n1 u1
/-- x = e -/
def sSet (i : Nat) (f : Mx) : Sm := fun ρ h => bndS (f ρ h) ρ fun d h1 => some (.nx (ρ.set i (some d)) h1)
theorem ds_set {i : Nat} {x : Str} {pos' : Pos} (hN : X.N.Nodup) (hi : X.N[i]? = some x) (hx : Loc X.env.scope x) (hf : X.fn x = true ∨ X.env.scope.names.lookup x = some .local) (he : PE X e (tM X.K X.mg F0 H0 W fm)) (hs : noComp e = true) :
    PS X (.Assign [.Name x pos'] e pos) (tS X.K X.mg F0 H0 W (sSet i fm)) := by
  refine (ps_set hN hi hx he (swaps_of hs) hf).weak fun D σ H q => ?_
  obtain ⟨φ, h, F, ρ, o, n, hf, want⟩ := q
  refine tMS_step n hf want fun d h1 v φ1 F1 H1 n1 u1 rv hk => ?_
  cases Option.some.inj hk
  exact want φ1 F1 H1 _ (n1.set i rv) u1
/-- a target = e -/
def sAsg (gx : Gx) (f : Mx) : Sm := fun ρ h => bndS (f ρ h) ρ fun d h1 => (match gx d ρ with
  | some ρ1 => some (.nx ρ1 h1)
  | none => none)
theorem ds_asg (he : PE X e (tM X.K X.mg F0 H0 W fm)) (hg : PG X tg (tG X.K sl gx)) (hs : noComp e = true) (ht : noTupT e = true) (hst : noStar tg = true) : PS X (.Assign [tg] e pos) (tS X.K X.mg F0 H0 W (sAsg gx fm)) := by
  refine (ps_asg he hg (swapsSole_of hs) (swapped_ofV ht) (by rw [assignEach_cons hst]; rfl)).weak fun D σ H q => ?_
  obtain ⟨φ, h, F, ρ, o, n, hf, want⟩ := q
  refine tMS_step n hf want fun d h1 v φ1 F1 H1 n1 u1 rv hk => ?_
  cases h2 : gx d ρ with
  | none => rw [h2] at hk; cases hk
  | some ρ1 =>
    rw [h2] at hk
    cases Option.some.inj hk
    exact ⟨φ1, h1, F1, ρ, ρ1, d, n1.w, n1.e, rv, h2, fun σ2 e2 _ => want φ1 F1 H1 σ2 (n1.env e2) u1⟩
/-- o[i] = e -/
def putEnd (x y d : D) (h : List Cell) (ρ : Rho) : Option Out := match cellOfD h x, y with
  | some (n, xs), .int i => (match ixN xs.length i with
    | some j => some (.nx ρ (h.set n (.lst (xs.set j d))))
    | none => none)
  | _, _ => none
def sPut (fo fi : Sx) (f : Mx) : Sm := fun ρ h => bndS (f ρ h) ρ fun d h1 => bndDS (fo ρ h1) ρ h1 fun x => bndDS (fi ρ h1) ρ h1 fun y => putEnd x y d h1 ρ
theorem pg_put {i : Expr} {to ti : TE} {t : TSet} (ho : PE X o to) (hi : PE X i ti) (hs : PSet X t) (hsl : noSlice i = true) : PG X (.Subscript o i pos) (gSub to ti t) := by
  refine pg_sub ho hi hs fun v => ?_
  cases i <;> first | rfl | cases hsl
theorem ds_put {i : Expr} {pos' : Pos} (ho : PE X o (tD X.K X.mg W fo)) (hi : PE X i (tD X.K X.mg W fi)) (he : PE X e (tM X.K X.mg F0 H0 W fm)) (hsl : noSlice i = true) (hs : noComp e = true) :
    PS X (.Assign [.Subscript o i pos'] e pos) (tS X.K X.mg F0 H0 W (sPut fo fi fm)) := by
  refine (ps_asg he (pg_put ho hi set_list hsl) (swapsSole_of hs) (swapped_of rfl) rfl).weak fun D σ H q => ?_
  obtain ⟨φ, h, F, ρ, out, n, hf, want⟩ := q
  refine tMS_step n hf want fun d h1 v φ1 F1 H1 n1 u1 rv hk => ?_
  refine tDS_step n1 hk (want.up u1) fun x xv F2 H2 e2 rx hk => ?_
  have n2 := n1.ext e2
  refine tDS_step n2 hk (want.up (u1.trans (Up.of e2))) fun y yv F3 H3 e3 ry hk3 => ?_
  clear hk
  have n3 := n2.ext e3
  have e23 := e2.trans e3
  unfold putEnd at hk3
  split at hk3
  · rename_i m xs j hc
    obtain ⟨rfl, hh⟩ := cellOfD_inv hc
    split at hk3
    · rename_i k hj
      cases Option.some.inj hk3
      cases rx with
      | @ref a _ hp =>
        obtain ⟨b, vs, q1, q2, q3⟩ := n3.w.cell m xs hh
        rw [hp] at q1; cases q1
        rw [ry.int_inv]
        exact ⟨a, vs, j, k, rfl, rfl, q2, by rw [q3.length]; exact hj, want φ1 F3 _ σ (n3.put hp (Reps.set (rv.up e23.up) k q3)) (u1.trans (Up.of e23))⟩
    · cases hk3
  · cases hk3
/-- if -/
def sIfS (c : Sx) (f g : Sm) : Sm := fun ρ h => bndBS (c ρ h) ρ h fun b => if b = true then f ρ h else g ρ h
theorem ds_if (hc : PT X e (tT X.K X.mg W fd)) (ha : PSs X sa (tS X.K X.mg F0 H0 W f)) (hb : PSs X sb (tS X.K X.mg F0 H0 W g)) : PS X (.If e sa sb pos) (tS X.K X.mg F0 H0 W (sIfS fd f g)) := by
  refine (ps_if hc ha hb).weak fun D σ H q => ?_
  obtain ⟨φ, h, F, ρ, o, n, hf, want⟩ := q
  refine tTS_step n hf want fun b F1 H1 e1 hk => ?_
  cases b with
  | true => rw [if_pos rfl] at hk ⊢; exact ⟨φ, h, F1, ρ, o, n.ext e1, hk, want.up (Up.of e1)⟩
  | false => rw [if_neg Bool.false_ne_true] at hk ⊢; exact ⟨φ, h, F1, ρ, o, n.ext e1, hk, want.up (Up.of e1)⟩
/-- for -/
def loopS (itm : List Cell → Nat → Option D) (gx : Gx) (body els : Sm) : Nat → Nat → Rho → List Cell → Option Out
  | 0, i, ρ, h => (match itm h i with
    | none => els ρ h
    | some _ => none)
  | n + 1, i, ρ, h => (match itm h i with
    | none => els ρ h
    | some d => (match gx d ρ with
      | none => none
      | some ρ1 => (match body ρ1 h with
        | some (.nx ρ2 h2) => loopS itm gx body els n (i + 1) ρ2 h2
        | some (.ct ρ2 h2) => loopS itm gx body els n (i + 1) ρ2 h2
        | some (.bk ρ2 h2) => some (.nx ρ2 h2)
        | x => x)))
def sFor (ix : Ix) (gx : Gx) (body els : Sm) : Sm := fun ρ h => bndIS (ix ρ h) ρ h fun itm n => loopS itm gx body els n 0 ρ h
theorem ds_for (hp : PassesOwn (model X.prog X.w) X.A X.env X.xe) (hc : X.calm = true) (hi : PI X tg it (tI X.K X.mg W ix)) (hg : PG X tg (tG X.K sl gx)) (hb : PSs X sa (tS X.K X.mg F0 H0 W f)) (ho : PSs X sb (tS X.K X.mg F0 H0 W u)) (hs : noSetE it = true) :
    PS X (.For tg it sa sb pos) (tS X.K X.mg F0 H0 W (sFor ix gx f u)) := by
  refine (ps_forE hp hc hi hg hb ho (foldedSet_of hs)).weak fun D σ H q => ?_
  obtain ⟨φ, h, F, ρ, o, n, hf, want⟩ := q
  refine tIS_step n hf want fun itm m J F1 H1 e1 wk hk => ?_
  have n1 := n.ext e1
  refine ⟨fun i m σ H => ∃ φ' h F' ρ, Rn X.K F0 H0 φ' h F' H σ ρ ∧ Up φ F1 φ' F' ∧ loopS itm gx f u m i ρ h = some o, ⟨m, φ, h, F1, ρ, n1, .refl, hk⟩, ?_⟩
  replace want := want.up (Up.of e1)
  clear hk hf e1 n1 n
  rintro i m σ H ⟨φ', h, F', ρ, n, up, hk⟩
  have stop : itm h i = none → u ρ h = some o → (J.stop i H ∧ tS X.K X.mg F0 H0 W u D σ H) := fun h1 h2 => ⟨wk.stop n.w up h1, φ', h, F', ρ, o, n, h2, want.up up⟩
  cases m with
  | zero =>
    unfold loopS at hk
    cases h1 : itm h i with
    | none => rw [h1] at hk; exact .inl (stop h1 hk)
    | some d => rw [h1] at hk; cases hk
  | succ m =>
    unfold loopS at hk
    cases h1 : itm h i with
    | none => rw [h1] at hk; exact .inl (stop h1 hk)
    | some d =>
      rw [h1] at hk
      dsimp only at hk
      cases h2 : gx d ρ with
      | none => rw [h2] at hk; cases hk
      | some ρ1 =>
        rw [h2] at hk
        dsimp only at hk
        obtain ⟨go, yld⟩ := wk.go n.w up h1
        refine .inr ⟨go, fun σ' H' => ∃ m', m' < m + 1 ∧ ∃ φ' h F' ρ, Rn X.K F0 H0 φ' h F' H' σ' ρ ∧ Up φ F1 φ' F' ∧ loopS itm gx f u m' (i + 1) ρ h = some o, fun σ' H' q => q, fun x H' y => ?_⟩
        obtain ⟨F2, e2, rx⟩ := yld x H' y
        have n2 := n.ext e2
        refine ⟨φ', h, F2, ρ, ρ1, d, n2.w, n2.e, rx, h2, fun σ3 e3 _ => ?_⟩
        have n3 := n2.env e3
        have up2 : Up φ F1 φ' F2 := up.trans (Up.of e2)
        cases h3 : f ρ1 h with
        | none => rw [h3] at hk; cases hk
        | some x =>
          rw [h3] at hk
          cases x with
          | nx ρ4 h4 => exact ⟨φ', h, F2, ρ1, .nx ρ4 h4, n3, h3, fun φ4 F4 H4 σ4 n4 u4 => ⟨m, Nat.lt_succ_self m, φ4, h4, F4, ρ4, n4, up2.trans u4, hk⟩⟩
          | ct ρ4 h4 => exact ⟨φ', h, F2, ρ1, .ct ρ4 h4, n3, h3, fun φ4 F4 H4 σ4 n4 u4 => ⟨m, Nat.lt_succ_self m, φ4, h4, F4, ρ4, n4, up2.trans u4, hk⟩⟩
          | bk ρ4 h4 =>
            cases Option.some.inj hk
            exact ⟨φ', h, F2, ρ1, .bk ρ4 h4, n3, h3, want.up up2⟩
          | rt r =>
            cases Option.some.inj hk
            exact ⟨φ', h, F2, ρ1, .rt r, n3, h3, want⟩
          | exc c fs ρ4 h4 =>
            cases Option.some.inj hk
            exact ⟨φ', h, F2, ρ1, .exc c fs ρ4 h4, n3, h3, want.up up2⟩
/-- while -/
def loopW (c : Sx) (body els : Sm) : Nat → Rho → List Cell → Option Out
  | 0, _, _ => none
  | n + 1, ρ, h => bndBS (c ρ h) ρ h fun b => if b = true then (match body ρ h with
      | some (.nx ρ2 h2) => loopW c body els n ρ2 h2
      | some (.ct ρ2 h2) => loopW c body els n ρ2 h2
      | some (.bk ρ2 h2) => some (.nx ρ2 h2)
      | x => x) else els ρ h
theorem ds_while (fuel : Nat) (hp : PassesOwn (model X.prog X.w) X.A X.env X.xe) (hc : PT X e (tT X.K X.mg W fd)) (hb : PSs X sa (tS X.K X.mg F0 H0 W f)) (ho : PSs X sb (tS X.K X.mg F0 H0 W u)) :
    PS X (.While e sa sb pos) (tS X.K X.mg F0 H0 W (loopW fd f u fuel)) := by
  refine (ps_whileE hp hc hb ho).weak fun D σ H q => ?_
  obtain ⟨φ, h, F, ρ, o, n, hf, want⟩ := q
  refine ⟨fun m σ H => ∃ φ' h F' ρ, Rn X.K F0 H0 φ' h F' H σ ρ ∧ Up φ F φ' F' ∧ loopW fd f u m ρ h = some o, ⟨fuel, φ, h, F, ρ, n, .refl, hf⟩, ?_⟩
  clear hf n
  rintro m σ H ⟨φ', h, F', ρ, n, up, hk⟩
  cases m with
  | zero => cases hk
  | succ m =>
    refine tTS_step n hk (want.up up) fun b F1 H1 e1 hk => ?_
    have n1 := n.ext e1
    have up1 := up.trans (Up.of e1)
    dsimp only
    cases b with
    | false =>
      rw [if_neg Bool.false_ne_true] at hk ⊢
      exact ⟨φ', h, F1, ρ, o, n1, hk, want.up up1⟩
    | true =>
      rw [if_pos rfl] at hk ⊢
      refine ⟨fun σ' H' => ∃ m', m' < m + 1 ∧ ∃ φ' h F' ρ, Rn X.K F0 H0 φ' h F' H' σ' ρ ∧ Up φ F φ' F' ∧ loopW fd f u m' ρ h = some o, fun σ' H' q => q, ?_⟩
      cases h3 : f ρ h with
      | none => rw [h3] at hk; cases hk
      | some x =>
        rw [h3] at hk
        cases x with
        | nx ρ4 h4 => exact ⟨φ', h, F1, ρ, .nx ρ4 h4, n1, h3, fun φ4 F4 H4 σ4 n4 u4 => ⟨m, Nat.lt_succ_self m, φ4, h4, F4, ρ4, n4, up1.trans u4, hk⟩⟩
        | ct ρ4 h4 => exact ⟨φ', h, F1, ρ, .ct ρ4 h4, n1, h3, fun φ4 F4 H4 σ4 n4 u4 => ⟨m, Nat.lt_succ_self m, φ4, h4, F4, ρ4, n4, up1.trans u4, hk⟩⟩
        | bk ρ4 h4 =>
          cases Option.some.inj hk
          exact ⟨φ', h, F1, ρ, .bk ρ4 h4, n1, h3, want.up up1⟩
        | rt r =>
          cases Option.some.inj hk
          exact ⟨φ', h, F1, ρ, .rt r, n1, h3, want⟩
        | exc c fs ρ4 h4 =>
          cases Option.some.inj hk
          exact ⟨φ', h, F1, ρ, .exc c fs ρ4 h4, n1, h3, want.up up1⟩

/-! ### return: the frame's own things are frozen -/
def deepD (h : List Cell) (skip : Nat) : Nat → D → Option D
  | 0, _ => none
  | f + 1, .ref n => if n = skip then none else (match h[n]? with
    | some (.lst xs) => (xs.mapM (deepD h skip f)).map .lst
    | none => none)
  | f + 1, .tup xs => (xs.mapM (deepD h skip f)).map .tup
  | f + 1, .lst xs => (xs.mapM (deepD h skip f)).map .lst
  | _ + 1, d => some d
/-- all of φ but what stands at n frozen -/
def frz (φ : List Addr) (skip : Nat) (F H : Hp) : Hp := fun a => match F a with
  | some o => some o
  | none => if a ∈ φ ∧ φ[skip]? ≠ some a then H a else none
theorem mapM_reps {K : Frag} {F F' : Hp} {φ φ' : List Addr} {f : D → Option D} (hf : ∀ v d d', Rep K F φ v d → f d = some d' → Rep K F' φ' v d') : ∀ {vs : List V} {ds ds' : List D}, Reps K F φ vs ds → ds.mapM f = some ds' → Reps K F' φ' vs ds'
  | _, _, _, .nil, e => by
    simp at e; subst e; exact .nil
  | _, _, _, .cons (d := d) (ds := ds) r t, e => by
    rw [List.mapM_cons] at e
    cases h1 : f d with
    | none => rw [h1] at e; cases e
    | some d1 =>
      cases h2 : ds.mapM f with
      | none => rw [h1, h2] at e; cases e
      | some ds1 =>
        rw [h1, h2] at e
        cases Option.some.inj (show some (d1 :: ds1) = some _ from e)
        exact .cons (hf _ _ _ r h1) (mapM_reps hf t h2)
theorem deep_ok {K : Frag} {φ : List Addr} {h : List Cell} {F H : Hp} {skip : Nat} (w : Wd K φ h F H) : ∀ (f : Nat) (v : V) (d d' : D), Rep K F φ v d → deepD h skip f d = some d' → Rep K (frz φ skip F H) [] v d' := by
  have up : ∀ a o, F a = some o → frz φ skip F H a = some o := fun a o e => by unfold frz; rw [e]
  intro f
  induction f with
  | zero => intro v d d' r e; cases e
  | succ f ih =>
    intro v d d' r e
    cases r with
    | non => cases Option.some.inj e; exact .non
    | bl b => cases Option.some.inj e; exact .bl b
    | int b => cases Option.some.inj e; exact .int b
    | str b => cases Option.some.inj e; exact .str b
    | scr q => cases Option.some.inj e; exact .scr (SqL.mono up q)
    | tup q t =>
      obtain ⟨ds, h1, rfl⟩ := Option.map_eq_some_iff.mp e
      exact .tup (SqT.mono up q) (mapM_reps ih t h1)
    | lst q t =>
      obtain ⟨ds, h1, rfl⟩ := Option.map_eq_some_iff.mp e
      exact .lst (up _ _ q) (mapM_reps ih t h1)
    | @ref a n hp =>
      have e : (if n = skip then none else (match h[n]? with | some (.lst xs) => (xs.mapM (deepD h skip f)).map D.lst | none => none)) = some d' := e
      split at e
      · cases e
      · rename_i hn
        split at e
        · rename_i xs hc
          obtain ⟨ds, h1, rfl⟩ := Option.map_eq_some_iff.mp e
          obtain ⟨b, vs, q1, q2, q3⟩ := w.cell n xs hc
          rw [hp] at q1; cases q1
          have ha : a ∈ φ := List.mem_of_getElem? hp
          refine .lst ?_ (mapM_reps ih q3 h1)
          have ne : φ[skip]? ≠ some a := fun z => hn (by
            obtain ⟨k1, e1⟩ := List.getElem?_eq_some_iff.mp hp
            obtain ⟨k2, e2⟩ := List.getElem?_eq_some_iff.mp z
            exact (List.getElem_inj w.nd).mp (e1.trans e2.symm))
          unfold frz
          rw [w.own a ha]
          show (if a ∈ φ ∧ φ[skip]? ≠ some a then H a else none) = _
          rw [if_pos ⟨ha, ne⟩]
          exact q2
        · cases e
theorem frz_ext {K : Frag} {F0 H0 F H : Hp} {φ : List Addr} {h : List Cell} {σ : St} {ρ : Rho} (n : Rn K F0 H0 φ h F H σ ρ) (skip : Nat) : Ext F0 H0 (frz φ skip F H) H := by
  refine ⟨n.x.keep, fun a o e => ?_, fun a o e1 e2 => ?_, fun a o e => ?_, fun a o e => ?_⟩
  · unfold frz; rw [n.x.up a o e]
  · unfold frz
    rw [n.x.no a o e1 e2]
    show (if a ∈ φ ∧ φ[skip]? ≠ some a then H a else none) = none
    rw [if_neg]
    rintro ⟨ha, _⟩
    rw [n.own a ha] at e1; cases e1
  · unfold frz at e
    cases q : F a with
    | some u => rw [q] at e; cases e; exact n.w.sub a _ q
    | none =>
      rw [q] at e
      have e : (if a ∈ φ ∧ φ[skip]? ≠ some a then H a else none) = some o := e
      split at e
      · exact e
      · cases e
  · rcases n.x.full a o e with z | z | z
    · exact .inl z
    · refine .inr (.inl ?_); unfold frz; rw [z]
    · exact .inr (.inr z)
def depthD : Nat := 64
/-- what return hands back -/
def retD (h : List Cell) (d : D) : Option Out := match d with
  | .ref n => (match h[n]? with
    | some (.lst xs) => (match xs.mapM (deepD h n depthD) with
      | some ds => some (.rt (.lstF ds))
      | none => none)
    | none => none)
  | d => (match deepD h h.length depthD d with
    | some d' => some (.rt (.val d'))
    | none => none)
theorem ret_ok {K : Frag} {mg : Str → Option Value} {W : WX} {E : Ends} {φ φ0 : List Addr} {h : List Cell} {F F1 H : Hp} {σ : St} {ρ : Rho} {v : V} {d : D} {o : Out} (n : Rn K F0 H0 φ h F H σ ρ) (rv : Rep K F φ v d) (hk : retD h d = some o) (want : WantS K mg F0 H0 W φ0 F1 E o) : E.rt v H := by
  have plain : ∀ {d : D}, Rep K F φ v d → (match deepD h h.length depthD d with | some d' => some (Out.rt (.val d')) | none => none) = some o → E.rt v H := fun {d} rv hk => by
    split at hk
    · rename_i d' hd
      cases Option.some.inj hk
      exact want v _ H (frz_ext n h.length) (deep_ok n.w depthD v d d' rv hd)
    · cases hk
  cases d with
  | ref m =>
    have hk : (match h[m]? with | some (.lst xs) => (match xs.mapM (deepD h m depthD) with | some ds => some (Out.rt (.lstF ds)) | none => none) | none => none) = some o := hk
    split at hk
    · rename_i xs hc
      split at hk
      · rename_i ds hd
        cases Option.some.inj hk
        cases rv with
        | @ref a _ hp =>
          obtain ⟨b, vs, q1, q2, q3⟩ := n.w.cell m xs hc
          rw [hp] at q1; cases q1
          have ha : a ∈ φ := List.mem_of_getElem? hp
          refine want a vs _ H (frz_ext n m) (n.own a ha) ?_ q2 (mapM_reps (deep_ok n.w depthD) q3 hd)
          unfold frz
          rw [n.w.own a ha]
          show (if a ∈ φ ∧ φ[m]? ≠ some a then H a else none) = none
          rw [if_neg]
          rintro ⟨_, z⟩
          exact z hp
      · cases hk
    · cases hk
  | non => exact plain rv hk
  | bl b => exact plain rv hk
  | int b => exact plain rv hk
  | str b => exact plain rv hk
  | tup b => exact plain rv hk
  | lst b => exact plain rv hk
  | scr b => exact plain rv hk
  | dct b => exact plain rv hk
  | obj b c => exact plain rv hk
def sRet (f : Mx) : Sm := fun ρ h => bndS (f ρ h) ρ fun d h1 => retD h1 d
theorem ds_ret (he : PE X e (tM X.K X.mg F0 H0 W fm)) : PS X (.Return (some e) pos) (tS X.K X.mg F0 H0 W (sRet fm)) := by
  refine (ps_ret he).weak fun D σ H q => ?_
  obtain ⟨φ, h, F, ρ, o, n, hf, want⟩ := q
  refine tMS_step n hf want fun d h1 v φ1 F1 H1 n1 u1 rv hk => ?_
  exact ret_ok n1 rv hk want
def sRetN : Sm := fun _ _ => some (.rt (.val .non))
theorem ds_retN : PS X (.Return none pos) (tS X.K X.mg F0 H0 W sRetN) := by
  refine ps_retN.weak fun D σ H q => ?_
  obtain ⟨φ, h, F, ρ, o, n, hf, want⟩ := q
  cases Option.some.inj hf
  exact want .non F H n.x .non
end
end DL

set_option Elab.async false
set_option linter.all false
set_option maxRecDepth 100000
/-! DLu: list comprehensions whose parts may raise. -/
namespace DL
open PySem PySem.Spec PyProof.Rows L2

section
variable {X : Cx} {W : WX}
/-- the block's context with its wish -/
abbrev blkX (X : Cx) (s : Shared) (H : Hp) (scope : Scope) (C : Addr) (cl : List (Str × Addr)) (fp : List Addr) (xe : Value → Shared → Prop) : Cx := (X.blk s H scope (compEnvC scope cl C X.env) fp).wish xe
/-- [elt for target in iter if ..]: D the new list; I by the turn, a measure and the heap; N what a turn is to reach -/
def tLx (wi : TI) (g : TG) (tt : TT) (te : TE) (vs : List Nat) : TE := fun σ H Q => wi σ H fun J H1 => ∀ D, H1 D = none → ∃ I : Nat → Nat → Hp → Prop, (∃ m, I 0 m (upd H1 D (.lst []))) ∧ ∀ i m H, I i m H →
  (J.stop i H ∧ Q (.ref D) H) ∨ (J.go i H ∧ ∃ N : Hp → Prop, (∀ H', N H' → ∃ m', m' < m ∧ I (i + 1) m' H') ∧ ∀ x H', J.yld i H x H' → g x (L2.wipe σ vs) H' fun σ2 H2 => L2.wipe σ2 vs = L2.wipe σ vs ∧ tt σ2 H2 fun b H3 =>
    if b = true then te σ2 H3 fun y H4 => ∃ acc, H4 D = some (.lst acc) ∧ acc.length < sizeLine ∧ N (upd H4 D (.lst (acc ++ [y]))) else N H3)
/-- a part of the block: in every context that may be it -/
def InBlk (X : Cx) (W : WX) (scope : Scope) (σ : L2.St) (P : Cx → WX → Prop) : Prop := ∀ (s : Shared) (H : Hp) (C : Addr) (cl : List (Str × Addr)) (fp : List Addr) (xe : Value → Shared → Prop),
  Tk (blkX X s H scope C cl fp xe) (fun c d _ H => W c d σ H) → P (blkX X s H scope C cl fp xe) (fun c d _ H => W c d σ H)

theorem lx_core {pins : List (Addr × Obj)} {s : Shared} {σ : L2.St} {H : Hp} {Q : VK} {elt tg iter : Expr} {ifs : List Expr} {scope : Scope} {own : List (Str × Nat)} {pos pos' : Pos} {wi : TI} {g : TG} {tt : TT} {te : TE} {use : Option (Value → Sem Unit)} {Qf : Value → Shared → Prop}
    (tk : Tk X W) (hc : X.calm = true) (hN : X.N.Nodup) (I : Inv X pins σ H s) (hi : PI X tg iter wi) (ok : BlkOk X.N X.env.scope scope own)
    (hg : InBlk X W scope σ fun B _ => PG B tg g) (ht : InBlk X W scope σ fun B _ => PTs B ifs tt) (he : InBlk X W scope σ fun B _ => PE B elt te) (hs : ∀ x, foldedSetIterable iter X.env x = pure x)
    (h : tLx wi g tt te (own.map (·.2)) σ H Q)
    (hRR : ∀ D (ce : Env) s' m H', Inv X pins σ H' s' → Q (.ref D) H' → s'.heap.Ns ce.locals m → FpOk X pins H' ce.locals → cPost (model X.prog X.w) X.A X.xe use Qf (.ref D) ce (.ok .next) s') :
    wpAny (model X.prog X.w) X.A (comprehension (.ListComp elt [⟨tg, iter, ifs, 0⟩] scope pos) scope X.env pos' (newList []) false (eval iter X.env) use) Qf X.xe s := by
  have hfree : ∀ y ∈ scope.names, y.2 = .free → ∃ c, X.env.cells.lookup y.1 = some c := fun y hy e => (ok.free y hy e).elim (fun k => I.ok.has _ (.inl k)) fun k => I.ok.has _ (.inr k)
  refine comp_go (use := use) rfl hs (closure_ok hfree) ok.kind (fun y hy e => by rw [ok.uniq y hy, e]) (thn (hi.run pins s σ H _ I h) fun xv s1 hx => thn hx fun itv s2 h2 => ?_)
  obtain ⟨it, fp, tn, J, H2, rfl, I2, T, st2, f2, q⟩ := h2
  refine wpAny_newObj_type (newEnv_comp ?_) (by show 0 ≤ sizeLine; decide)
  generalize hD : s2.heap.objs.size = D
  have hDn : H2 D = none := I2.hok.fresh (Nat.le_of_eq hD)
  obtain ⟨Iv, ⟨m0, w0⟩, turn⟩ := q D hDn
  -- the new list stands
  generalize hs3 : ({ s2 with heap := s2.heap.push { cls := .type "list", data := .seq ([] : List Value).toArray } } : Shared) = s3
  have h3 : s3.heap = s2.heap.push { cls := .type "list", data := .seq ([] : List Value).toArray } := by rw [← hs3]
  have I3 : Inv X pins σ (upd H2 D (.lst [])) s3 := by
    rw [← hs3]
    refine I2.laid (t' := s2.toks) (fun b o e => Heap.get?_push_of_some _ e) (Nat.le_of_eq hD) ⟨Nat.zero_le _, [], 0, .nil, ?_⟩
    rw [← hD]
    exact Heap.get?_push_size _ rfl
  have f3 : ∀ b ∈ fp, FpOk X pins (upd H2 D (.lst [])) b ∧ b < s3.heap.objs.size := fun b hb => by
    obtain ⟨o, e, _⟩ := T.obj _ _ st2 b hb
    have hlt := Heap.lt_size e
    refine ⟨⟨?_, (f2 b hb).2⟩, by rw [h3, Heap.size_push]; exact Nat.lt_succ_of_lt hlt⟩
    rw [upd_ne (by rw [← hD]; exact Nat.ne_of_lt hlt)]
    exact (f2 b hb).1
  have st3 : tn 0 s3.heap := T.keep _ _ _ st2 fun b _ o e => by rw [h3]; exact Heap.get?_push_of_some _ e
  have I4' := block_start I3 ok hN f3
  generalize hcl : cellsFrom (s3.heap.objs.size + 1) scope.names (cloFrom X.env.cells scope.names []) = cl at I4'
  show codeAny _ _ (.compStart (.ListComp elt [⟨tg, iter, ifs, 0⟩] scope pos) 0 (.ref it) (.ref D) (compEnvC scope cl s3.heap.objs.size X.env))
    (cPost (model X.prog X.w) X.A X.xe use Qf (.ref D) (compEnvC scope cl s3.heap.objs.size X.env)) { s3 with heap := pushCells (s3.heap.push { cls := .type "dict", data := .dict #[] }) scope.names }
  have bt := blkTk (scope := scope) (cl := cl) tk I3 f3 use Qf (.ref D)
  have pg : PG ((X.blk s3 (upd H2 D (.lst [])) scope (compEnvC scope cl s3.heap.objs.size X.env) fp).wish (xeB X use Qf (.ref D) (compEnvC scope cl s3.heap.objs.size X.env))) tg g := hg s3 (upd H2 D (.lst [])) s3.heap.objs.size cl fp _ bt
  have pt : PTs ((X.blk s3 (upd H2 D (.lst [])) scope (compEnvC scope cl s3.heap.objs.size X.env) fp).wish (xeB X use Qf (.ref D) (compEnvC scope cl s3.heap.objs.size X.env))) ifs tt := ht s3 (upd H2 D (.lst [])) s3.heap.objs.size cl fp _ bt
  have pe : PE ((X.blk s3 (upd H2 D (.lst [])) scope (compEnvC scope cl s3.heap.objs.size X.env) fp).wish (xeB X use Qf (.ref D) (compEnvC scope cl s3.heap.objs.size X.env))) elt te := he s3 (upd H2 D (.lst [])) s3.heap.objs.size cl fp _ bt
  have nfp : ∀ b ∈ fp, (upd H2 D (.lst [])) b = none := fun b hb => (f3 b hb).1.1
  generalize hce : compEnvC scope cl s3.heap.objs.size X.env = ce at I4' pg pt pe ⊢
  have cL : ce.locals = s3.heap.objs.size := by subst hce; rfl
  generalize hH3 : upd H2 D (.lst []) = H3 at I3 I4' pg pt pe w0 nfp f3
  generalize hs4 : ({ s3 with heap := pushCells (s3.heap.push { cls := .type "dict", data := .dict #[] }) scope.names } : Shared) = s4 at I4' ⊢
  have st4 : tn 0 s4.heap := T.keep _ _ _ st3 fun b _ o e => by rw [← hs4]; exact pushCells_keeps _ _ _ _ (Heap.get?_push_of_some _ e)
  generalize hxe : xeB X use Qf (.ref D) ce = xe at pg pt pe
  have I4 : Inv ((X.blk s3 H3 scope ce fp).wish xe) [] (L2.wipe σ (own.map (·.2))) H3 s4 := I4'.wish xe
  generalize hY : (X.blk s3 H3 scope ce fp).wish xe = Y at I4 pg pt pe
  have Ye : Y.xe = notedBy (model X.prog X.w) X.A ce fun e s' => cPost (model X.prog X.w) X.A X.xe use Qf (.ref D) ce (.error e) s' := by rw [← hY, ← hxe]; rfl
  have Yp : Y.prog = X.prog := by rw [← hY]
  have Yw : Y.w = X.w := by rw [← hY]
  have YK : Y.K = X.K := by rw [← hY]
  have YA : Y.A = X.A := by rw [← hY]
  have Yc : Y.calm = true := by rw [← hY]; exact hc
  have Yn : Y.env = ce := by rw [← hY]
  have stat : ∀ {σ' : L2.St} {H' : Hp} {s' : Shared}, Inv Y [] σ' H' s' → (∀ b ∈ fp, H' b = none) → ∀ b ∈ fp, FpOk Y [] H' b := fun {σ' H' s'} I' hn b hb => by
    have hx : Y.ex = fp := by rw [← hY]
    have hp : Y.pn = [] := by rw [← hY]
    have hb' : b ∈ Y.ex := by rw [hx]; exact hb
    exact ⟨hn b hb, (I'.ok.exf b hb').1, I'.ok.exfs b hb', .inl hb', fun x c e => (I'.ok.exf b hb').2 x c e, fun p hp' => by rw [hp] at hp'; exact absurd hp' (by simp)⟩
  have loop : codeAny (model X.prog X.w) X.A (.compLoop (.ListComp elt [⟨tg, iter, ifs, 0⟩] scope pos) 0 (.ref it) (.ref D) ce) (cPost (model X.prog X.w) X.A X.xe use Qf (.ref D) ce) s4 := by
    refine compLoop_any (fun n s' => ∃ i H', Inv Y [] (L2.wipe σ (own.map (·.2))) H' s' ∧ tn i s'.heap ∧ (∀ b ∈ fp, H' b = none) ∧ Iv i n H') ?_ m0 ⟨0, H3, I4, st4, nfp, w0⟩
    rintro n s5 ⟨i, H5, I5, st5, n5, w5⟩
    rw [← Ye]
    rcases turn i n H5 w5 with ⟨stop, qq⟩ | ⟨go, Nx, hNx, step⟩
    · have td := T.done Y Yp Yw YK Yc i [] s5 _ H5 Y.xe I5 (stat I5 n5) st5 stop
      rw [YA] at td
      refine thn td fun r s6 ⟨hr, I6⟩ => ?_
      subst hr
      subst hY
      have I7 : Inv X pins σ H5 s6 := I3.call' (ch := fp) I6.os I6.base I6.hok I6.bare fun b hb => ⟨(f3 b hb).1.2.2.2.1, (f3 b hb).1.2.1, (f3 b hb).1.2.2.2.2.1, (f3 b hb).1.2.2.2.2.2⟩
      have nL : H5 ce.locals = none := I6.free
      obtain ⟨m, hn, _⟩ := I6.loc
      have hn : s6.heap.Ns ce.locals m := hn
      exact hRR D ce s6 m H5 I7 qq hn (I3.fpOk (Nat.le_of_eq cL.symm) nL)
    · have ti := T.item Y Yp Yw YK Yc i [] s5 _ H5 Y.xe I5 (stat I5 n5) st5 go
      rw [YA] at ti
      refine thn ti fun r s6 ⟨u, hr, h6⟩ => ?_
      subst hr
      refine thn h6 fun _ s7 ⟨x, H7, I7, r7, y7, st7, n7⟩ => ?_
      have I7' := I7.pinned (stat I7 n7) (T.obj _ _ st7)
      have run1 := pg.run _ s7 _ H7 x u _ I7' r7 (step x H7 y7)
      rw [Yp, Yw, YA, Yn] at run1
      refine thn run1 fun _ s8 ⟨σ8, H8, I8, hw8, q8⟩ => ?_
      have run2 := pt.run _ s8 σ8 H8 _ I8 q8
      rw [Yp, Yw, YA, Yn] at run2
      refine thn run2 fun b s9 ⟨H9, I9, q9⟩ => ?_
      have fin : ∀ {s' : Shared} {H' : Hp}, Inv Y ([] ++ pinsAt fp s7.heap) σ8 H' s' → Nx H' → ∃ m, m < n ∧ ∃ i H', Inv Y [] (L2.wipe σ (own.map (·.2))) H' s' ∧ tn i s'.heap ∧ (∀ b ∈ fp, H' b = none) ∧ Iv i m H' := fun {s' H'} I' nx => by
        obtain ⟨m', hm, w'⟩ := hNx H' nx
        have pin' : ∀ b ∈ fp, ∀ o, s7.heap.get? b = some o → s'.heap.get? b = some o ∧ H' b = none := fun b hb o e =>
          let z := I'.pin (b, o) (List.mem_append_right _ (List.mem_append_right _ (mem_pinsAt hb e)))
          ⟨z.1, z.2.1⟩
        have hl : (L2.wipe σ (own.map (·.2))).length = σ8.length := by rw [← hw8, L2.wipe_length]
        refine ⟨m', hm, i + 1, H', (I'.unpinned (pins := [])).weak hl (fun j v e => ?_), T.keep _ _ _ st7 fun b hb o e => (pin' b hb o e).1, fun b hb => ?_, w'⟩
        · rw [← hw8] at e
          exact (wipe_some e).1
        · obtain ⟨o, e, _⟩ := T.obj _ _ st7 b hb
          exact (pin' b hb o e).2
      cases b with
      | false =>
        simp only [Bool.false_eq_true, if_false] at q9 ⊢
        exact fin I9 q9
      | true =>
        simp only [if_true] at q9 ⊢
        have run3 := pe.run _ s9 σ8 H9 _ I9 q9
        rw [Yp, Yw, YA, Yn] at run3
        refine thn run3 fun z s10 ⟨yv, H10, I10, r10, acc, hD10, hz10, nx⟩ => ?_
        have ap := app_ok (E := Y.xe) (Q := fun _ s5 => ∃ m, m < n ∧ ∃ i H', Inv Y [] (L2.wipe σ (own.map (·.2))) H' s5 ∧ tn i s5.heap ∧ (∀ b ∈ fp, H' b = none) ∧ Iv i m H') I10 hD10 hz10 r10 fun s11 I11 => fin I11 nx
        rw [Yp, Yw, YA] at ap
        exact ap
  exact codeAny_compStart_list loop (T.self X.A 0 _ _ _ st4 loop)
/-- as a value -/
theorem pe_lx {elt tg iter : Expr} {ifs : List Expr} {scope : Scope} {own : List (Str × Nat)} {pos : Pos} {wi : TI} {g : TG} {tt : L2.St → TT} {te : L2.St → TE} (tk : Tk X W) (hc : X.calm = true) (hN : X.N.Nodup) (hi : PI X tg iter wi) (ok : BlkOk X.N X.env.scope scope own)
    (hg : ∀ σ, InBlk X W scope σ fun B _ => PG B tg g) (ht : ∀ σ, InBlk X W scope σ fun B _ => PTs B ifs (tt σ)) (he : ∀ σ, InBlk X W scope σ fun B _ => PE B elt (te σ)) (hs : ∀ x, foldedSetIterable iter X.env x = pure x) :
    PE X (.ListComp elt [⟨tg, iter, ifs, 0⟩] scope pos) (fun σ H Q => tLx wi g (tt σ) (te σ) (own.map (·.2)) σ H Q) := by
  refine ⟨fun pins s σ H Q I h => ?_⟩
  rw [eval_ListComp]
  refine lx_core tk hc hN I hi ok (hg σ) (ht σ) (he σ) hs h fun D ce s' m H' I' q hn f => ⟨m, hn, fun h'' sb => ?_⟩
  obtain ⟨f0, f1, f2, f3, f4, f5⟩ := f
  exact ⟨.ref D, H', I'.turned (t' := s'.toks) (fun b o hb e => (sb.2 b hb).trans e) f0 f1 f3 f4 f5, rfl, q⟩
/-- name = [..] on one line, the name a local -/
theorem ps_setLx {i : Nat} {y : Str} {py : Pos} {elt tg iter : Expr} {ifs : List Expr} {scope : Scope} {own : List (Str × Nat)} {pos spos : Pos} {wi : TI} {g : TG} {tt : L2.St → TT} {te : L2.St → TE} (tk : Tk X W) (hc : X.calm = true) (hN : X.N.Nodup) (hy : X.N[i]? = some y) (hyl : X.env.scope.names.lookup y = some .local)
    (hsw : swapsWith (.ListComp elt [⟨tg, iter, ifs, 0⟩] scope pos) (some (.Name y py)) spos.line X.env = pure true) (hi : PI X tg iter wi) (ok : BlkOk X.N X.env.scope scope own)
    (hg : ∀ σ, InBlk X W scope σ fun B _ => PG B tg g) (ht : ∀ σ, InBlk X W scope σ fun B _ => PTs B ifs (tt σ)) (he : ∀ σ, InBlk X W scope σ fun B _ => PE B elt (te σ)) (hs : ∀ x, foldedSetIterable iter X.env x = pure x) :
    PS X (.Assign [.Name y py] (.ListComp elt [⟨tg, iter, ifs, 0⟩] scope pos) spos) (fun D σ H => tLx wi g (tt σ) (te σ) (own.map (·.2)) σ H fun x H1 => gName i x σ H1 D.nx) := by
  refine ⟨fun pins s σ H D I h => ?_⟩
  rw [exec_Assign_Name_used _ _ _ _ hsw]
  refine wpAny_bind (wpAny_standAt (wpAny_bind ?_))
  show wpAny _ X.A (do let _ ← comprehension (.ListComp elt [⟨tg, iter, ifs, 0⟩] scope pos) scope X.env (firstIterPos [⟨tg, iter, ifs, 0⟩] pos) (newList []) false (eval iter X.env) (some (assign (.Name y py) X.env))) _ _ s
  refine wpAny_bind (thn (lx_core (Qf := fun _ s' => SP X pins D .next s') tk hc hN I hi ok (hg σ) (ht σ) (he σ) hs h fun L ce s' m H' I' q hn f => ?_) fun _ s' hq => wpAny_pure (wpAny_pure hq))
  show wpAny _ _ (assign (.Name y py) X.env (.ref L)) _ _ _
  refine wpAny_assign_Name (store_ok2 (v := V.ref L) I' hN hy (.inl hyl) rfl (fun s2 I2 ⟨a, sb, ha⟩ => ?_) (.inr hyl))
  obtain ⟨f0, f1, f2, f3, f4, f5⟩ := f
  have haC : ce.locals ≠ a := by
    rcases ha with z | z
    · rw [z]; exact f1
    · exact fun e => f4 y a z e.symm
  refine ⟨m, hn.sameBut sb haC, fun h3 sb3 => ?_⟩
  exact ⟨_, H', I2.turned (t' := s2.toks) (fun b o hb e => (sb3.2 b hb).trans e) f0 f1 f3 f4 f5, q⟩
end
end DL

set_option Elab.async false
set_option linter.all false
set_option maxRecDepth 100000
/-! DLk: comprehensions over data; own lists by calls. -/
namespace DL
open PySem PySem.Spec PyProof.Rows L2

/-- a clause's tests -/
def sYes : Sx := fun _ _ => some (.ok (.bl true))
def tTs (K : Frag) (mg : Str → Option Value) (W : WX) (f : Sx) : TT := tT K mg W f
section
variable {X : Cx} {W : WX} {c : Expr} {f : Sx}
theorem _root_.L2.PTs.weak {X : Cx} {ifs : List Expr} {t t' : TT} (p : PTs X ifs t) (k : ∀ σ H Q, t' σ H Q → t σ H Q) : PTs X ifs t' := ⟨fun pins s σ H Q I q => p.run pins s σ H Q I (k σ H Q q)⟩
theorem dts_nil : PTs X [] (tT X.K X.mg W sYes) := by
  refine pts_nil.weak fun σ H Q q => ?_
  obtain ⟨φ, h, F, ρ, r, w, e, hf, want⟩ := q
  cases Option.some.inj hf
  exact want F H (Ext.refl w.sub)
theorem dts_one (h : PT X c (tT X.K X.mg W f)) : PTs X [c] (tT X.K X.mg W f) := pts_one h
end

/-- the items that a comprehension gathers; ρ: the names at its start -/
def compD (itm : List Cell → Nat → Option D) (gx : Gx) (tst elt : Sx) (ρ : Rho) (h : List Cell) : Nat → Nat → Option ResL
  | 0, i => (match itm h i with
    | none => some (.ok [])
    | some _ => none)
  | n + 1, i => (match itm h i with
    | none => some (.ok [])
    | some d => (match gx d ρ with
      | none => none
      | some ρ1 => (match tst ρ1 h with
        | some (.ok (.bl true)) => consL (elt ρ1 h) (compD itm gx tst elt ρ h n (i + 1))
        | some (.ok (.bl false)) => compD itm gx tst elt ρ h n (i + 1)
        | some (.exc c fs) => some (.exc c fs)
        | _ => none)))
def bndIR (x : Option ItR) (k : (List Cell → Nat → Option D) → Nat → Option ResL) : Option ResL := match x with
  | some (.ok itm n) => k itm n
  | some (.exc c fs) => some (.exc c fs)
  | none => none
/-- .. of all its turns -/
def compR (vs : List Nat) (ix : Ix) (gx : Gx) (tst elt : Sx) : Lx := fun ρ h => bndIR (ix ρ h) fun itm n => if n ≤ sizeLine then compD itm gx tst elt (wipeR ρ vs) h n 0 else none
def sComp (vs : List Nat) (ix : Ix) (gx : Gx) (tst elt : Sx) : Sx := fun ρ h => bndL (compR vs ix gx tst elt ρ h) fun ds => some (.ok (.lst ds))
def mComp (vs : List Nat) (ix : Ix) (gx : Gx) (tst elt : Sx) : Mx := fun ρ h => bndLM (compR vs ix gx tst elt ρ h) h fun ds => some (.ok (.ref h.length) (h ++ [.lst ds]))

section
variable {K : Frag} {mg : Str → Option Value} {W : WX} {φ : List Addr} {h : List Cell} {F H : Hp} {σ : St} {ρ : Rho}
/-- what the walk of a comprehension wants at its end: the list at D, fresh, not frozen -/
theorem comp_walk {itm : List Cell → Nat → Option D} {gx : Gx} {tst elt : Sx} {sl vs : List Nat} {J : It} {n : Nat} {rl : ResL} {Q : VK} (hsl : ∀ i ∈ sl, i ∈ vs) (w : Wd K φ h F H) (e : Env1 K F φ σ ρ) (wk : WalkD K J itm φ F)
    (hk : compD itm gx tst elt (wipeR ρ vs) h n 0 = some rl) (hlen : n ≤ sizeLine)
    (wantO : ∀ ds, rl = .ok ds → ∀ D us F' H', Ext F H F' H' → H D = none → F' D = none → H' D = some (.lst us) → Reps K F' φ us ds → Q (.ref D) H')
    (wantX : ∀ c fs, rl = .exc c fs → Want K mg W φ F H σ (fun _ _ => False) (.exc c fs)) :
    ∀ D, H D = none → ∃ I : Nat → Nat → Hp → Prop, (∃ m, I 0 m (upd H D (.lst []))) ∧ ∀ i m H, I i m H →
      (J.stop i H ∧ Q (.ref D) H) ∨ (J.go i H ∧ ∃ N : Hp → Prop, (∀ H', N H' → ∃ m', m' < m ∧ I (i + 1) m' H') ∧ ∀ x H', J.yld i H x H' → tG K sl gx x (L2.wipe σ vs) H' fun σ2 H2 => L2.wipe σ2 vs = L2.wipe σ vs ∧ tT K mg (fun c d _ H => W c d σ H) tst σ2 H2 fun b H3 =>
        if b = true then tD K mg (fun c d _ H => W c d σ H) elt σ2 H3 fun y H4 => ∃ acc, H4 D = some (.lst acc) ∧ acc.length < sizeLine ∧ N (upd H4 D (.lst (acc ++ [y]))) else N H3) := by
  intro D hD
  have nF : F D = none := by
    cases q : F D with
    | none => rfl
    | some u => have := w.sub D u q; rw [hD] at this; cases this
  let Inv' : Nat → Nat → Hp → Prop := fun i m H5 => ∃ F5 us ds r, us.length ≤ i ∧ i + m ≤ n ∧ Ext F H F5 H5 ∧ F5 D = none ∧ H5 D = some (.lst us) ∧ Reps K F5 φ us ds ∧ compD itm gx tst elt (wipeR ρ vs) h m i = some r ∧
    ((∃ es, r = .ok es ∧ rl = .ok (ds ++ es)) ∨ (∃ c fs, r = .exc c fs ∧ rl = .exc c fs))
  refine ⟨Inv', ⟨n, F, [], [], rl, Nat.zero_le _, by omega, Ext.newOwn w.sub hD trivial, nF, upd_same, .nil, hk, ?_⟩, ?_⟩
  · cases rl with
    | ok es => exact .inl ⟨es, rfl, rfl⟩
    | exc c fs => exact .inr ⟨c, fs, rfl, rfl⟩
  rintro i m H5 ⟨F5, us, ds, r, len1, len2, ex, nD, hD5, rs, hr, hw⟩
  have w5 := w.ext ex
  have stop : itm h i = none → r = .ok [] → (J.stop i H5 ∧ Q (.ref D) H5) := fun h1 h2 => by
    refine ⟨wk.stop w5 (Up.of ex) h1, ?_⟩
    subst h2
    rcases hw with ⟨es, h3, h4⟩ | ⟨c, fs, h3, _⟩
    · cases h3
      rw [List.append_nil] at h4
      exact wantO ds h4 D us F5 H5 ex hD nD hD5 rs
    · cases h3
  have raise : ∀ c fs, r = .exc c fs → ∀ {F6 H6 : Hp}, Ext F H F6 H6 → ∀ σ2 : St, Want K mg (fun c d _ H => W c d σ H) φ F6 H6 σ2 (fun _ _ => False) (.exc c fs) := fun c fs h2 F6 H6 e6 σ2 cls dx F7 H7 e7 x => by
    subst h2
    rcases hw with ⟨es, h3, _⟩ | ⟨c', fs', h3, h4⟩
    · cases h3
    · cases h3
      exact wantX c fs h4 cls dx F7 H7 (e6.trans e7) x
  cases m with
  | zero =>
    unfold compD at hr
    cases h1 : itm h i with
    | none => rw [h1] at hr; exact .inl (stop h1 (Option.some.inj hr).symm)
    | some d => rw [h1] at hr; cases hr
  | succ m =>
    unfold compD at hr
    cases h1 : itm h i with
    | none => rw [h1] at hr; exact .inl (stop h1 (Option.some.inj hr).symm)
    | some d =>
      rw [h1] at hr
      dsimp only at hr
      cases h2 : gx d (wipeR ρ vs) with
      | none => rw [h2] at hr; cases hr
      | some ρ1 =>
        rw [h2] at hr
        dsimp only at hr
        obtain ⟨go, yld⟩ := wk.go w5 (Up.of ex) h1
        refine .inr ⟨go, fun H' => ∃ m', m' < m + 1 ∧ Inv' (i + 1) m' H', fun H' q => q, fun x H' y => ?_⟩
        obtain ⟨F6, e6, rx⟩ := yld x H' y
        have ex6 := ex.trans e6
        have w6 := w.ext ex6
        refine ⟨φ, h, F6, wipeR ρ vs, ρ1, d, w6, (e.up ex6.up).wipe vs, rx, h2, fun σ2 en2 same => ⟨?_, ?_⟩⟩
        · have := same.wipe hsl
          rw [this]
          exact wipe_eq (L2.wipe_length σ vs) fun j hj => by rw [wipe_get]; simp [hj]
        have nD6 : F6 D = none := e6.no D _ hD5 nD
        have hD6 : H' D = some (.lst us) := e6.keep D _ hD5
        cases h3 : tst ρ1 h with
        | none => rw [h3] at hr; cases hr
        | some x =>
          rw [h3] at hr
          cases x with
          | exc c fs =>
            cases Option.some.inj (show some (ResL.exc c fs) = some r from hr)
            exact ⟨φ, h, F6, ρ1, .exc c fs, w6, en2, h3, raise c fs rfl ex6 σ2⟩
          | ok dk =>
            cases dk with
            | bl b =>
              refine ⟨φ, h, F6, ρ1, .ok (.bl b), w6, en2, h3, fun F7 H7 e7 => ?_⟩
              have ex7 := ex6.trans e7
              have nD7 : F7 D = none := e7.no D _ hD6 nD6
              have hD7 : H7 D = some (.lst us) := e7.keep D _ hD6
              cases b with
              | false =>
                show ∃ m', m' < m + 1 ∧ Inv' (i + 1) m' H7
                exact ⟨m, Nat.lt_succ_self m, F7, us, ds, r, by omega, by omega, ex7, nD7, hD7, (rs.up e6.up).up e7.up, hr, hw⟩
              | true =>
                show tD K mg (fun c d _ H => W c d σ H) elt σ2 H7 _
                have hr : consL (elt ρ1 h) (compD itm gx tst elt (wipeR ρ vs) h m (i + 1)) = some r := hr
                unfold consL at hr
                cases h4 : elt ρ1 h with
                | none => rw [h4] at hr; cases hr
                | some y =>
                  rw [h4] at hr
                  cases y with
                  | exc c fs =>
                    cases Option.some.inj (show some (ResL.exc c fs) = some r from hr)
                    exact ⟨φ, h, F7, ρ1, .exc c fs, w.ext ex7, en2.up e7.up, h4, raise c fs rfl ex7 σ2⟩
                  | ok dy =>
                    dsimp only at hr
                    refine ⟨φ, h, F7, ρ1, .ok dy, w.ext ex7, en2.up e7.up, h4, fun v F8 H8 e8 rv => ?_⟩
                    have ex8 := ex7.trans e8
                    have nD8 : F8 D = none := e8.no D _ hD7 nD7
                    have hD8 : H8 D = some (.lst us) := e8.keep D _ hD7
                    cases h5 : compD itm gx tst elt (wipeR ρ vs) h m (i + 1) with
                    | none => rw [h5] at hr; cases hr
                    | some r' =>
                      rw [h5] at hr
                      have exD : Ext F H F8 (upd H8 D (.lst (us ++ [v]))) := by
                        refine ⟨fun a o q => ?_, ex8.up, ex8.no, fun a o q => ?_, fun a o q => ?_⟩
                        · rw [upd_ne (ne_of_none q hD)]; exact ex8.keep a o q
                        · rw [upd_ne (ne_of_none q nD8)]; exact ex8.sub a o q
                        · by_cases hb : a = D
                          · subst hb; rw [upd_same] at q; cases q; exact .inr (.inr trivial)
                          · rw [upd_ne hb] at q; exact ex8.full a o q
                      have rs8 := (((rs.up e6.up).up e7.up).up e8.up).append (.cons rv .nil)
                      have last : (∃ es, r' = .ok es ∧ rl = .ok ((ds ++ [dy]) ++ es)) ∨ (∃ c fs, r' = .exc c fs ∧ rl = .exc c fs) := by
                        cases r' with
                        | ok es =>
                          cases Option.some.inj (show some (ResL.ok (dy :: es)) = some r from hr)
                          rcases hw with ⟨es', h6, h7⟩ | ⟨c, fs, h6, _⟩
                          · cases h6
                            exact .inl ⟨es, rfl, by rw [h7, List.append_assoc]; rfl⟩
                          · cases h6
                        | exc c fs =>
                          cases Option.some.inj (show some (ResL.exc c fs) = some r from hr)
                          rcases hw with ⟨es', h6, _⟩ | ⟨c', fs', h6, h7⟩
                          · cases h6
                          · cases h6; exact .inr ⟨c, fs, rfl, h7⟩
                      exact ⟨us, hD8, by omega, m, Nat.lt_succ_self m, F8, us ++ [v], ds ++ [dy], r', by rw [List.length_append, List.length_singleton]; omega, by omega, exD, nD8, upd_same, rs8, h5, last⟩
            | _ => cases hr
end

theorem okC {x : Option ResL} {r : Res} (e : bndL x (fun ds => some (.ok (.lst ds))) = some r) : ∃ rl, x = some rl ∧ ((∃ ds, rl = .ok ds ∧ r = .ok (.lst ds)) ∨ ∃ c fs, rl = .exc c fs ∧ r = .exc c fs) := by
  cases x with
  | none => cases e
  | some y =>
    cases y with
    | ok ds => exact ⟨.ok ds, rfl, .inl ⟨ds, rfl, (Option.some.inj e).symm⟩⟩
    | exc c fs => exact ⟨.exc c fs, rfl, .inr ⟨c, fs, rfl, (Option.some.inj e).symm⟩⟩
theorem okM {x : Option ResL} {h : List Cell} {k : List D → Option ResM} {r : ResM} (e : bndLM x h k = some r) : ∃ rl, x = some rl ∧ ((∃ ds, rl = .ok ds ∧ k ds = some r) ∨ ∃ c fs, rl = .exc c fs ∧ r = .exc c fs h) := by
  cases x with
  | none => cases e
  | some y =>
    cases y with
    | ok ds => exact ⟨.ok ds, rfl, .inl ⟨ds, rfl, e⟩⟩
    | exc c fs => exact ⟨.exc c fs, rfl, .inr ⟨c, fs, rfl, (Option.some.inj e).symm⟩⟩
section
variable {X : Cx} {W : WX} {F0 H0 : Hp} {elt tg iter : Expr} {ifs : List Expr} {scope : Scope} {own : List (Str × Nat)} {pos : Pos} {ix : Ix} {gx : Gx} {tst el : Sx} {sl : List Nat}
/-- the walk is read -/
theorem comp_read {K : Frag} {mg : Str → Option Value} {φ : List Addr} {h : List Cell} {F H : Hp} {σ : St} {ρ : Rho} {vs : List Nat} {rl : ResL} {Q : VK} (hsl : ∀ i ∈ sl, i ∈ vs) (w : Wd K φ h F H) (e : Env1 K F φ σ ρ) (hk : compR vs ix gx tst el ρ h = some rl)
    (wantO : ∀ ds, rl = .ok ds → ∀ D us F' H', Ext F H F' H' → H D = none → F' D = none → H' D = some (.lst us) → Reps K F' φ us ds → Q (.ref D) H')
    (wantX : ∀ c fs, rl = .exc c fs → Want K mg W φ F H σ (fun _ _ => False) (.exc c fs)) :
    tLx (tI K mg W ix) (tG K sl gx) (tT K mg (fun c d _ H => W c d σ H) tst) (tD K mg (fun c d _ H => W c d σ H) el) vs σ H Q := by
  unfold compR at hk
  cases h1 : ix ρ h with
  | none => rw [h1] at hk; cases hk
  | some ir =>
    rw [h1] at hk
    cases ir with
    | exc c fs =>
      cases Option.some.inj (show some (ResL.exc c fs) = some rl from hk)
      exact ⟨φ, h, F, ρ, .exc c fs, w, e, h1, wantX c fs rfl⟩
    | ok itm n =>
      have hk : (if n ≤ sizeLine then compD itm gx tst el (wipeR ρ vs) h n 0 else none) = some rl := hk
      split at hk
      · rename_i hn
        refine ⟨φ, h, F, ρ, .ok itm n, w, e, h1, fun J F1 H1 e1 wk => ?_⟩
        refine comp_walk hsl (w.ext e1) (e.up e1.up) wk hk hn (fun ds hd D us F' H' ex n1 n2 n3 rs => wantO ds hd D us F' H' (e1.trans ex) ?_ n2 n3 rs) fun c fs hx cls dx F' H' ex x => wantX c fs hx cls dx F' H' (e1.trans ex) x
        cases q : H D with
        | none => rfl
        | some u => have := e1.keep D u q; rw [n1] at this; cases this
      · cases hk
theorem de_read {K : Frag} {mg : Str → Option Value} {vs : List Nat} {σ : St} {H : Hp} {Q : VK} (hsl : ∀ i ∈ sl, i ∈ vs) (q : tD K mg W (sComp vs ix gx tst el) σ H Q) :
    tLx (tI K mg W ix) (tG K sl gx) (tT K mg (fun c d _ H => W c d σ H) tst) (tD K mg (fun c d _ H => W c d σ H) el) vs σ H Q := by
  obtain ⟨φ, h, F, ρ, r, w, en, hf, want⟩ := q
  obtain ⟨rl, h1, h2⟩ := okC hf
  refine comp_read hsl w en h1 (fun ds hd D us F' H' ex n1 n2 n3 rs => ?_) fun c fs hx => ?_
  · rcases h2 with ⟨ds', h3, rfl⟩ | ⟨c, fs, h3, _⟩
    · rw [h3] at hd; cases hd
      -- the list is frozen
      have ex2 : Ext F H (upd F' D (.lst us)) H' := by
        refine ⟨ex.keep, fun a o q => ?_, fun a o q q2 => ?_, fun a o q => ?_, fun a o q => ?_⟩
        · rw [upd_ne (ne_of_none (ex.up a o q) n2)]; exact ex.up a o q
        · rw [upd_ne (ne_of_none q n1)]; exact ex.no a o q q2
        · by_cases hb : a = D
          · subst hb; rw [upd_same] at q; cases q; exact n3
          · rw [upd_ne hb] at q; exact ex.sub a o q
        · by_cases hb : a = D
          · subst hb; rw [n3] at q; cases q; exact .inr (.inr trivial)
          · rw [upd_ne hb]; exact ex.full a o q
      exact want _ _ H' ex2 (.lst upd_same (rs.up fun a o q => by rw [upd_ne (ne_of_none q n2)]; exact q))
    · rw [h3] at hd; cases hd
  · rcases h2 with ⟨ds', h3, _⟩ | ⟨c', fs', h3, rfl⟩
    · rw [h3] at hx; cases hx
    · rw [h3] at hx; cases hx; exact want
theorem de_comp (tk : Tk X W) (hc : X.calm = true) (hN : X.N.Nodup) (hi : PI X tg iter (tI X.K X.mg W ix)) (ok : BlkOk X.N X.env.scope scope own) (hsl : ∀ i ∈ sl, i ∈ own.map (·.2))
    (hg : ∀ σ, InBlk X W scope σ fun B _ => PG B tg (tG B.K sl gx)) (ht : ∀ σ, InBlk X W scope σ fun B V => PTs B ifs (tT B.K B.mg V tst)) (he : ∀ σ, InBlk X W scope σ fun B V => PE B elt (tD B.K B.mg V el)) (hs : noSetE iter = true) :
    PE X (.ListComp elt [⟨tg, iter, ifs, 0⟩] scope pos) (tD X.K X.mg W (sComp (own.map (·.2)) ix gx tst el)) :=
  (pe_lx (g := tG X.K sl gx) (tt := fun σ => tT X.K X.mg (fun c d _ H => W c d σ H) tst) (te := fun σ => tD X.K X.mg (fun c d _ H => W c d σ H) el) tk hc hN hi ok (fun σ s H C cl fp xe t => hg σ s H C cl fp xe t) (fun σ s H C cl fp xe t => ht σ s H C cl fp xe t) (fun σ s H C cl fp xe t => he σ s H C cl fp xe t) (foldedSet_of hs)).weak fun σ H Q q => de_read hsl q
theorem dm_read {φ : List Addr} {h : List Cell} {F H : Hp} {σ : St} {ρ : Rho} {vs : List Nat} {r : ResM} {Q : VK} (hsl : ∀ i ∈ sl, i ∈ vs) (n : Rn X.K F0 H0 φ h F H σ ρ) (hf : mComp vs ix gx tst el ρ h = some r) (want : WantM X.K X.mg F0 H0 W σ ρ φ F Q r) :
    tLx (tI X.K X.mg W ix) (tG X.K sl gx) (tT X.K X.mg (fun c d _ H => W c d σ H) tst) (tD X.K X.mg (fun c d _ H => W c d σ H) el) vs σ H Q := by
  obtain ⟨rl, h1, h2⟩ := okM hf
  refine comp_read hsl n.w n.e h1 (fun ds hd D us F' H' ex n1 n2 n3 rs => ?_) fun c fs hx => ?_
  · rcases h2 with ⟨ds', h3, h4⟩ | ⟨c, fs, h3, _⟩
    · rw [h3] at hd; cases hd
      cases Option.some.inj h4
      obtain ⟨n5, u5, r5⟩ := n.take ex n1 n2 n3 rs
      exact want _ _ _ _ n5 u5 r5
    · rw [h3] at hd; cases hd
  · rcases h2 with ⟨ds', h3, _⟩ | ⟨c', fs', h3, rfl⟩
    · rw [h3] at hx; cases hx
    · rw [h3] at hx; cases hx
      exact fun cls dx F' H' ex x => want cls dx φ F' H' (n.ext ex) (Up.of ex) x
theorem dm_comp (tk : Tk X W) (hc : X.calm = true) (hN : X.N.Nodup) (hi : PI X tg iter (tI X.K X.mg W ix)) (ok : BlkOk X.N X.env.scope scope own) (hsl : ∀ i ∈ sl, i ∈ own.map (·.2))
    (hg : ∀ σ, InBlk X W scope σ fun B _ => PG B tg (tG B.K sl gx)) (ht : ∀ σ, InBlk X W scope σ fun B V => PTs B ifs (tT B.K B.mg V tst)) (he : ∀ σ, InBlk X W scope σ fun B V => PE B elt (tD B.K B.mg V el)) (hs : noSetE iter = true) :
    PE X (.ListComp elt [⟨tg, iter, ifs, 0⟩] scope pos) (tM X.K X.mg F0 H0 W (mComp (own.map (·.2)) ix gx tst el)) := by
  refine (pe_lx (g := tG X.K sl gx) (tt := fun σ => tT X.K X.mg (fun c d _ H => W c d σ H) tst) (te := fun σ => tD X.K X.mg (fun c d _ H => W c d σ H) el) tk hc hN hi ok (fun σ s H C cl fp xe t => hg σ s H C cl fp xe t) (fun σ s H C cl fp xe t => ht σ s H C cl fp xe t) (fun σ s H C cl fp xe t => he σ s H C cl fp xe t) (foldedSet_of hs)).weak fun σ H Q q => ?_
  obtain ⟨φ, h, F, ρ, r, n, hf, want⟩ := q
  exact dm_read hsl n hf want
/-- name = [..] -/
theorem ds_setComp {i : Nat} {y : Str} {py spos : Pos} (tk : Tk X W) (hc : X.calm = true) (hN : X.N.Nodup) (hy : X.N[i]? = some y) (hyl : X.env.scope.names.lookup y = some .local) (hsw : swapsWith (.ListComp elt [⟨tg, iter, ifs, 0⟩] scope pos) (some (.Name y py)) spos.line X.env = pure true)
    (hi : PI X tg iter (tI X.K X.mg W ix)) (ok : BlkOk X.N X.env.scope scope own) (hsl : ∀ i ∈ sl, i ∈ own.map (·.2))
    (hg : ∀ σ, InBlk X W scope σ fun B _ => PG B tg (tG B.K sl gx)) (ht : ∀ σ, InBlk X W scope σ fun B V => PTs B ifs (tT B.K B.mg V tst)) (he : ∀ σ, InBlk X W scope σ fun B V => PE B elt (tD B.K B.mg V el)) (hs : noSetE iter = true) :
    PS X (.Assign [.Name y py] (.ListComp elt [⟨tg, iter, ifs, 0⟩] scope pos) spos) (tS X.K X.mg F0 H0 W (sSet i (liftM (sComp (own.map (·.2)) ix gx tst el)))) ∧
    PS X (.Assign [.Name y py] (.ListComp elt [⟨tg, iter, ifs, 0⟩] scope pos) spos) (tS X.K X.mg F0 H0 W (sSet i (mComp (own.map (·.2)) ix gx tst el))) := by
  have base := ps_setLx (g := tG X.K sl gx) (tt := fun σ => tT X.K X.mg (fun c d _ H => W c d σ H) tst) (te := fun σ => tD X.K X.mg (fun c d _ H => W c d σ H) el) tk hc hN hy hyl hsw hi ok (fun σ s H C cl fp xe t => hg σ s H C cl fp xe t) (fun σ s H C cl fp xe t => ht σ s H C cl fp xe t) (fun σ s H C cl fp xe t => he σ s H C cl fp xe t) (foldedSet_of hs)
  have key : ∀ {fm : Mx}, (∀ σ H Q, tM X.K X.mg F0 H0 W fm σ H Q → tLx (tI X.K X.mg W ix) (tG X.K sl gx) (tT X.K X.mg (fun c d _ H => W c d σ H) tst) (tD X.K X.mg (fun c d _ H => W c d σ H) el) (own.map (·.2)) σ H Q) →
      PS X (.Assign [.Name y py] (.ListComp elt [⟨tg, iter, ifs, 0⟩] scope pos) spos) (tS X.K X.mg F0 H0 W (sSet i fm)) := fun {fm} kk => by
    refine base.weak fun D σ H q => ?_
    obtain ⟨φ, h, F, ρ, o, n, hf, want⟩ := q
    refine kk σ H _ (tMS_step n hf want fun d h1 v φ1 F1 H1 n1 u1 rv hk => ?_)
    cases Option.some.inj hk
    exact want φ1 F1 H1 _ (n1.set i rv) u1
  refine ⟨key fun σ H Q q => ?_, key fun σ H Q q => ?_⟩
  · exact de_read hsl (tD_lift q)
  · obtain ⟨φ, h, F, ρ, r, n, hf, want⟩ := q
    exact dm_read hsl n hf want
end

/-! ### a comprehension whose items are things of the frame's own -/
def compM (itm : List Cell → Nat → Option D) (gx : Gx) (tst : Sx) (elt : Mx) (ρ : Rho) (n0 : Nat) : Nat → Nat → List Cell → Option ResM
  | 0, i, h => (match itm h i with
    | none => some (.ok (.ref n0) h)
    | some _ => none)
  | n + 1, i, h => (match itm h i with
    | none => some (.ok (.ref n0) h)
    | some d => (match gx d ρ with
      | none => none
      | some ρ1 => (match tst ρ1 h with
        | some (.ok (.bl true)) => bndM (elt ρ1 h) fun d1 h1 => (match h1[n0]? with
          | some (.lst xs) => if xs.length < sizeLine then compM itm gx tst elt ρ n0 n (i + 1) (h1.set n0 (.lst (xs ++ [d1]))) else none
          | none => none)
        | some (.ok (.bl false)) => compM itm gx tst elt ρ n0 n (i + 1) h
        | some (.exc c fs) => some (.exc c fs h)
        | _ => none)))
def bndIM (x : Option ItR) (h : List Cell) (k : (List Cell → Nat → Option D) → Nat → Option ResM) : Option ResM := match x with
  | some (.ok itm n) => k itm n
  | some (.exc c fs) => some (.exc c fs h)
  | none => none
def mCompM (vs : List Nat) (ix : Ix) (gx : Gx) (tst : Sx) (elt : Mx) : Mx := fun ρ h => bndIM (ix ρ h) h fun itm n => compM itm gx tst elt (wipeR ρ vs) h.length n 0 (h ++ [.lst []])
section
variable {K : Frag} {mg : Str → Option Value} {W : WX} {F0 H0 : Hp} {φ : List Addr} {h : List Cell} {F H : Hp} {σ : St} {ρ : Rho} {itm : List Cell → Nat → Option D} {gx : Gx} {tst : Sx} {elt : Mx} {sl vs : List Nat} {J : It} {n : Nat} {r : ResM} {Q : VK} {ix : Ix}
theorem Rn.back {φ' : List Addr} {h' : List Cell} {F' H' : Hp} {σ2 : St} {ρ2 : Rho} (n : Rn K F0 H0 φ h F H σ ρ) (n2 : Rn K F0 H0 φ' h' F' H' σ2 ρ2) (u : Up φ F φ' F') : Rn K F0 H0 φ' h' F' H' σ ρ := n2.env (n.e.mono u.f u.p)
theorem compM_walk (hsl : ∀ i ∈ sl, i ∈ vs) (n0 : Rn K F0 H0 φ h F H σ ρ) (wk : WalkD K J itm φ F) (hk : compM itm gx tst elt (wipeR ρ vs) h.length n 0 (h ++ [.lst []]) = some r) (want : WantM K mg F0 H0 W σ ρ φ F Q r) :
    ∀ D, H D = none → ∃ I : Nat → Nat → Hp → Prop, (∃ m, I 0 m (upd H D (.lst []))) ∧ ∀ i m H, I i m H →
      (J.stop i H ∧ Q (.ref D) H) ∨ (J.go i H ∧ ∃ N : Hp → Prop, (∀ H', N H' → ∃ m', m' < m ∧ I (i + 1) m' H') ∧ ∀ x H', J.yld i H x H' → tG K sl gx x (L2.wipe σ vs) H' fun σ2 H2 => L2.wipe σ2 vs = L2.wipe σ vs ∧ tT K mg (fun c d _ H => W c d σ H) tst σ2 H2 fun b H3 =>
        if b = true then tM K mg F0 H0 (fun c d _ H => W c d σ H) elt σ2 H3 fun y H4 => ∃ acc, H4 D = some (.lst acc) ∧ acc.length < sizeLine ∧ N (upd H4 D (.lst (acc ++ [y]))) else N H3) := by
  intro D hD
  obtain ⟨n1, u1, r1⟩ := n0.new hD (.nil : Reps K F φ [] [])
  have pD : (φ ++ [D])[h.length]? = some D := by rw [← n0.w.len, List.getElem?_append_right (Nat.le_refl _), Nat.sub_self]; rfl
  let Inv' : Nat → Nat → Hp → Prop := fun i m H5 => ∃ φ5 h5 F5, Rn K F0 H0 φ5 h5 F5 H5 σ ρ ∧ Up φ F φ5 F5 ∧ φ5[h.length]? = some D ∧ compM itm gx tst elt (wipeR ρ vs) h.length m i h5 = some r
  refine ⟨Inv', ⟨n, _, _, F, n1, u1, pD, hk⟩, ?_⟩
  rintro i m H5 ⟨φ5, h5, F5, n5, u5, p5, hr⟩
  have stop : itm h5 i = none → r = .ok (.ref h.length) h5 → (J.stop i H5 ∧ Q (.ref D) H5) := fun h1 h2 => by
    subst h2
    exact ⟨wk.stop n5.w u5 h1, want _ _ _ _ n5 u5 (.ref p5)⟩
  cases m with
  | zero =>
    unfold compM at hr
    cases h1 : itm h5 i with
    | none => rw [h1] at hr; exact .inl (stop h1 (Option.some.inj hr).symm)
    | some d => rw [h1] at hr; cases hr
  | succ m =>
    unfold compM at hr
    cases h1 : itm h5 i with
    | none => rw [h1] at hr; exact .inl (stop h1 (Option.some.inj hr).symm)
    | some d =>
      rw [h1] at hr
      dsimp only at hr
      cases h2 : gx d (wipeR ρ vs) with
      | none => rw [h2] at hr; cases hr
      | some ρ1 =>
        rw [h2] at hr
        dsimp only at hr
        obtain ⟨go, yld⟩ := wk.go n5.w u5 h1
        refine .inr ⟨go, fun H' => ∃ m', m' < m + 1 ∧ Inv' (i + 1) m' H', fun H' q => q, fun x H' y => ?_⟩
        obtain ⟨F6, e6, rx⟩ := yld x H' y
        have n6 := n5.ext e6
        have u6 := u5.trans (Up.of e6 (φ := φ5))
        refine ⟨φ5, h5, F6, wipeR ρ vs, ρ1, d, n6.w, n6.e.wipe vs, rx, h2, fun σ2 en2 same => ⟨?_, ?_⟩⟩
        · rw [same.wipe hsl]
          exact wipe_eq (L2.wipe_length σ vs) fun j hj => by rw [wipe_get]; simp [hj]
        cases h3 : tst ρ1 h5 with
        | none => rw [h3] at hr; cases hr
        | some x =>
          rw [h3] at hr
          cases x with
          | exc c fs =>
            cases Option.some.inj (show some (ResM.exc c fs h5) = some r from hr)
            exact ⟨φ5, h5, F6, ρ1, .exc c fs, n6.w, en2, h3, fun cls dx F7 H7 e7 x => want cls dx φ5 F7 H7 (n6.ext e7) (u6.trans (Up.of e7)) x⟩
          | ok dk =>
            cases dk with
            | bl b =>
              refine ⟨φ5, h5, F6, ρ1, .ok (.bl b), n6.w, en2, h3, fun F7 H7 e7 => ?_⟩
              have n7 := n6.ext e7
              have u7 := u6.trans (Up.of e7 (φ := φ5))
              cases b with
              | false =>
                show ∃ m', m' < m + 1 ∧ Inv' (i + 1) m' H7
                exact ⟨m, Nat.lt_succ_self m, φ5, h5, F7, n7, u7, p5, hr⟩
              | true =>
                show tM K mg F0 H0 (fun c d _ H => W c d σ H) elt σ2 H7 _
                have hr : bndM (elt ρ1 h5) (fun d1 h1 => (match h1[h.length]? with
                  | some (.lst xs) => if xs.length < sizeLine then compM itm gx tst elt (wipeR ρ vs) h.length m (i + 1) (h1.set h.length (.lst (xs ++ [d1]))) else none
                  | none => none)) = some r := hr
                have n7b : Rn K F0 H0 φ5 h5 F7 H7 σ2 ρ1 := n7.env (en2.up e7.up)
                have wb : ∀ c fs h', r = .exc c fs h' → ∀ cls dx φ' F' H', Rn K F0 H0 φ' h' F' H' σ2 ρ1 → Up φ5 F7 φ' F' → ExcAt K mg F' φ' cls dx c fs → W cls dx σ H' := fun c fs h' hrr cls dx φ' F' H' nn uu x => by
                  subst hrr
                  exact want cls dx φ' F' H' (n7.back nn uu) (u7.trans uu) x
                cases h4 : elt ρ1 h5 with
                | none => rw [h4] at hr; cases hr
                | some y =>
                  rw [h4] at hr
                  cases y with
                  | exc c fs h' =>
                    cases Option.some.inj (show some (ResM.exc c fs h') = some r from hr)
                    exact ⟨φ5, h5, F7, ρ1, .exc c fs h', n7b, h4, wb c fs h' rfl⟩
                  | ok d1 h8 =>
                    refine ⟨φ5, h5, F7, ρ1, .ok d1 h8, n7b, h4, fun v φ8 F8 H8 n8 u8 rv => ?_⟩
                    have hr : (match h8[h.length]? with
                      | some (.lst xs) => if xs.length < sizeLine then compM itm gx tst elt (wipeR ρ vs) h.length m (i + 1) (h8.set h.length (.lst (xs ++ [d1]))) else none
                      | none => none) = some r := hr
                    split at hr
                    · rename_i xs hc
                      split at hr
                      · rename_i hz
                        have p8 := u8.p _ _ p5
                        obtain ⟨b, us, q1, q2, q3⟩ := n8.w.cell h.length xs hc
                        rw [p8] at q1; cases q1
                        exact ⟨us, q2, by rw [q3.length]; exact hz, m, Nat.lt_succ_self m, φ8, _, F8, (n7.back n8 u8).put p8 (q3.append (.cons rv .nil)), u7.trans u8, p8, hr⟩
                      · cases hr
                    · cases hr
            | _ => cases hr
theorem dmM_read (hsl : ∀ i ∈ sl, i ∈ vs) (q : tM K mg F0 H0 W (mCompM vs ix gx tst elt) σ H Q) :
    tLx (tI K mg W ix) (tG K sl gx) (tT K mg (fun c d _ H => W c d σ H) tst) (tM K mg F0 H0 (fun c d _ H => W c d σ H) elt) vs σ H Q := by
  obtain ⟨φ, h, F, ρ, r, n, hf, want⟩ := q
  unfold mCompM at hf
  cases h1 : ix ρ h with
  | none => rw [h1] at hf; cases hf
  | some ir =>
    rw [h1] at hf
    cases ir with
    | exc c fs =>
      cases Option.some.inj (show some (ResM.exc c fs h) = some r from hf)
      exact ⟨φ, h, F, ρ, .exc c fs, n.w, n.e, h1, fun cls dx F' H' ex x => want cls dx φ F' H' (n.ext ex) (Up.of ex) x⟩
    | ok itm m => exact ⟨φ, h, F, ρ, .ok itm m, n.w, n.e, h1, fun J F1 H1 e1 wk => compM_walk hsl (n.ext e1) wk hf (want.up (Up.of e1))⟩
end
section
variable {X : Cx} {W : WX} {F0 H0 : Hp} {elt tg iter : Expr} {ifs : List Expr} {scope : Scope} {own : List (Str × Nat)} {pos : Pos} {ix : Ix} {gx : Gx} {tst : Sx} {el : Mx} {sl : List Nat}
theorem dm_compM (tk : Tk X W) (hc : X.calm = true) (hN : X.N.Nodup) (hi : PI X tg iter (tI X.K X.mg W ix)) (ok : BlkOk X.N X.env.scope scope own) (hsl : ∀ i ∈ sl, i ∈ own.map (·.2))
    (hg : ∀ σ, InBlk X W scope σ fun B _ => PG B tg (tG B.K sl gx)) (ht : ∀ σ, InBlk X W scope σ fun B V => PTs B ifs (tT B.K B.mg V tst)) (he : ∀ σ, InBlk X W scope σ fun B V => PE B elt (tM B.K B.mg F0 H0 V el)) (hs : noSetE iter = true) :
    PE X (.ListComp elt [⟨tg, iter, ifs, 0⟩] scope pos) (tM X.K X.mg F0 H0 W (mCompM (own.map (·.2)) ix gx tst el)) :=
  (pe_lx (g := tG X.K sl gx) (tt := fun σ => tT X.K X.mg (fun c d _ H => W c d σ H) tst) (te := fun σ => tM X.K X.mg F0 H0 (fun c d _ H => W c d σ H) el) tk hc hN hi ok (fun σ s H C cl fp xe t => hg σ s H C cl fp xe t) (fun σ s H C cl fp xe t => ht σ s H C cl fp xe t) (fun σ s H C cl fp xe t => he σ s H C cl fp xe t) (foldedSet_of hs)).weak fun σ H Q q => dmM_read hsl q
theorem ds_setCompM {i : Nat} {y : Str} {py spos : Pos} (tk : Tk X W) (hc : X.calm = true) (hN : X.N.Nodup) (hy : X.N[i]? = some y) (hyl : X.env.scope.names.lookup y = some .local) (hsw : swapsWith (.ListComp elt [⟨tg, iter, ifs, 0⟩] scope pos) (some (.Name y py)) spos.line X.env = pure true)
    (hi : PI X tg iter (tI X.K X.mg W ix)) (ok : BlkOk X.N X.env.scope scope own) (hsl : ∀ i ∈ sl, i ∈ own.map (·.2))
    (hg : ∀ σ, InBlk X W scope σ fun B _ => PG B tg (tG B.K sl gx)) (ht : ∀ σ, InBlk X W scope σ fun B V => PTs B ifs (tT B.K B.mg V tst)) (he : ∀ σ, InBlk X W scope σ fun B V => PE B elt (tM B.K B.mg F0 H0 V el)) (hs : noSetE iter = true) :
    PS X (.Assign [.Name y py] (.ListComp elt [⟨tg, iter, ifs, 0⟩] scope pos) spos) (tS X.K X.mg F0 H0 W (sSet i (mCompM (own.map (·.2)) ix gx tst el))) := by
  refine (ps_setLx (g := tG X.K sl gx) (tt := fun σ => tT X.K X.mg (fun c d _ H => W c d σ H) tst) (te := fun σ => tM X.K X.mg F0 H0 (fun c d _ H => W c d σ H) el) tk hc hN hy hyl hsw hi ok (fun σ s H C cl fp xe t => hg σ s H C cl fp xe t) (fun σ s H C cl fp xe t => ht σ s H C cl fp xe t) (fun σ s H C cl fp xe t => he σ s H C cl fp xe t) (foldedSet_of hs)).weak fun D σ H q => ?_
  obtain ⟨φ, h, F, ρ, o, n, hf, want⟩ := q
  refine dmM_read hsl (tMS_step n hf want fun d h1 v φ1 F1 H1 n1 u1 rv hk => ?_)
  cases Option.some.inj hk
  exact want φ1 F1 H1 _ (n1.set i rv) u1
end

/-! ### calls whose new list becomes the frame's own -/
def resOwn (h : List Cell) : Rf → Option ResM
  | .val d => some (.ok d h)
  | .lstF xs => some (.ok (.ref h.length) (h ++ [.lst xs]))
  | .exc c fs => some (.exc c fs h)
def appM (fn : Fn) (h : List Cell) (ds : List D) : Option ResM := if noRefs ds = true then (fn ds).bind (resOwn h) else none
def mCall (n : Nat) (fn : Fn) (g : Lx) : Mx := fun ρ h => bndLM (g ρ h) h fun ds => if ds.length = n then appM fn h ds else none
section
variable {X : Cx} {W : WX} {F0 H0 : Hp} {pos p : Pos} {e : Expr} {es : List Expr} {g : Lx} {k n : Nat} {fn : Fn} {x : Str}
theorem callM_of {K : Frag} {mg : Str → Option Value} {φ : List Addr} {h : List Cell} {F H : Hp} {σ : St} {ρ : Rho} {vs : List V} {ds : List D} {r : ResM} {Q : VK} (w : Rn K F0 H0 φ h F H σ ρ) (rs : Reps K F φ vs ds) (hl : ds.length = n) (hf : appM fn h ds = some r) (want : WantM K mg F0 H0 W σ ρ φ F Q r) : spD K mg n fn vs H Q (WE W σ) := by
  unfold appM at hf
  split at hf
  · rename_i hn
    cases hfn : fn ds with
    | none => rw [hfn] at hf; cases hf
    | some rf =>
      rw [hfn] at hf
      refine ⟨F, ds, rf, w.w.sub, w.w.full, rs.noRefs hn, hl, hfn, ?_⟩
      cases rf with
      | val d =>
        cases Option.some.inj (show some (ResM.ok d h) = some r from hf)
        exact fun v F' H' e rv => want v φ F' H' (w.ext e) (Up.of e) (rv.mono (fun _ _ q => q) nilphi)
      | lstF xs =>
        cases Option.some.inj (show some (ResM.ok (.ref h.length) (h ++ [.lst xs])) = some r from hf)
        intro a us F' H' e n1 n2 n3 ru
        obtain ⟨n5, u5, r5⟩ := w.take e n1 n2 n3 (ru.mono (fun _ _ q => q) nilphi)
        exact want _ _ _ _ n5 u5 r5
      | exc c fs =>
        cases Option.some.inj (show some (ResM.exc c fs h) = some r from hf)
        exact fun cls dx F' H' e x => want cls dx φ F' H' (w.ext e) (Up.of e) (x.mono (fun _ _ q => q) nilphi)
  · cases hf
theorem dm_call (hd : DefOk X.prog X.w X.K X.mg X.base k x n fn) (hr : Room k X.A) (tk : Tk X W) (hg : Gl X x) (hdb : (x == ("__debug__" : Str)) = false) (ha : PA X (e :: es) (tA X.K X.mg W g)) (hs : (e :: es).all noStar = true) :
    PE X (.Call (.Name x p) (e :: es) [] pos) (tM X.K X.mg F0 H0 W (mCall n fn g)) := by
  obtain ⟨f, fd, ps, hm, hk, hb, hn, F⟩ := hd.ex
  rw [List.all_cons, Bool.and_eq_true_iff] at hs
  refine (pe_callS F hr hg hm hk hb (fun σ => tk.pass σ) ha hdb (starEach_cons hs.1) (starEach_all hs.2)).weak fun σ H Q q => ?_
  obtain ⟨φ, h, F, ρ, r, w, hf, want⟩ := q
  refine tAM_step w hf want fun ds vs F1 H1 e1 rs hk => ?_
  split at hk
  · rename_i hl
    exact callM_of (w.ext e1) rs hl hk (want.up (Up.of e1))
  · cases hk
end
end DL

set_option Elab.async false
set_option linter.all false
set_option maxRecDepth 100000
/-! DLx: the program's own errors: super().__init__(text), then fields. -/
namespace DL
open PySem PySem.Spec PyProof.Rows L2

/-! ### the text of such an __init__ -/
/-- self.f = f, for each of fs -/
def asgOk : List Stmt → List Str → Bool
  | [], [] => true
  | .Assign [.Attribute (.Name o _) a _] (.Name v _) _ :: r, f :: fs => (o == ("self" : Str)) && (a == f) && (v == f) && asgOk r fs
  | _, _ => false
theorem asgOk_cons {st : Stmt} {r : List Stmt} {f : Str} {fs : List Str} (h : asgOk (st :: r) (f :: fs) = true) : ∃ p1 p2 p3 p4, st = .Assign [.Attribute (.Name "self" p1) f p2] (.Name f p3) p4 ∧ asgOk r fs = true := by
  unfold asgOk at h
  split at h
  · rename_i e _; cases e
  · rename_i o p1 a p2 v p3 p4 r' f' fs' e1 e2
    cases e1
    cases e2
    simp only [Bool.and_eq_true, beq_iff_eq] at h
    obtain ⟨⟨⟨rfl, rfl⟩, rfl⟩, h⟩ := h
    exact ⟨_, _, _, _, rfl, h⟩
  · cases h
/-- .. ahead of it super().__init__(text) -/
def initOk : List Stmt → List Str → Bool
  | .Expr (.Call (.Attribute (.Call (.Name s _) [] [] _) i pa) [.Constant (.str _) _ _] [] pc) _ :: r, fs => (s == ("super" : Str)) && (i == ("__init__" : Str)) && asgOk r fs && ((pa : Pos).endLine == (pc : Pos).line)
  | _, _ => false
theorem initOk_inv {b : List Stmt} {fs : List Str} (h : initOk b fs = true) : ∃ p0 p1 p2 m j p3 p4 p5 r, b = .Expr (.Call (.Attribute (.Call (.Name "super" p0) [] [] p1) "__init__" p2) [.Constant (.str m) j p3] [] p4) p5 :: r ∧ asgOk r fs = true ∧ (p2.endLine == p4.line) = true := by
  unfold initOk at h
  split at h
  · simp only [Bool.and_eq_true] at h
    obtain ⟨⟨⟨h1, h2⟩, h⟩, h3⟩ := h
    obtain rfl := beq_iff_eq.mp h1
    obtain rfl := beq_iff_eq.mp h2
    exact ⟨_, _, _, _, _, _, _, _, _, rfl, h, h3⟩
  · cases h

/-- what the written part says of such a class at C, and of its __init__ at fI -/
structure ErrC (P : Program) (K : Frag) (mg : Str → Option Value) (x : Str) (fs : List Str) (C fI : Addr) : Prop where
  gC : mg x = some (.ref C)
  cls : ∃ nm q N bs bm sn sub ab col dd k0 k1 k2 k3 k5, K.lookup C = some (excClassObj nm q C N bs bm true sn sub ab col dd k0 k1 k2 k3 k5 "ValueError.__new__") ∧ PySem.HandSPX.refsVE bm = true
  sa : PySem.W.findIn K (.ref C) "__setattr__" = some (some (.builtin "object.__setattr__"))
  noN : ∀ f ∈ fs, PySem.W.findIn K (.ref C) f = some none
  iC : PySem.W.findIn K (.ref C) "__init__" = some (some (.ref fI))
  tC : PySem.W.typeIn K (.ref fI) = some (.type "function")
  kC : PySem.W.keepIn K (.ref C) = true
  exC : PySem.W.subIn K (.ref C) (.type "BaseException") = some true
  tyC : PySem.W.typeIn K (.ref C) = some (.type "type")
  veC : PySem.W.subIn K (.ref C) (.type "ValueError") = some true
  sup : PySem.W.ks_superIn K C C "__init__" = some (some (.builtin "ValueError.__init__"))
  slf : PySem.W.mroIn K C (.ref C) = some true
  thi : PySem.W.nsIn K cStatics "thirdparty.any" = some none
  noS : mg "super" = none
  ftop : (P.main.scope.names.lookup ("super" : Str)).isSome = false
  ne : 0 < fs.length
  fn : ∃ (oc : Value) (od : Option Addr) (q : Str) (params : Arguments) (body : List Stmt) (scope : Scope) (doc pm : Value) (an : Option Addr) (cda cc : Addr) (ct : Value) (osl : Array (Option Value)),
    K.lookup fI = some ⟨oc, od, .func (PySem.W.ksFn "__init__" q params body scope .none .none doc pm an (.ref cda) ct cc), osl⟩ ∧ PySem.W.codeIn K (.ref cda) q = true ∧ initOk body fs = true ∧
    (params.posonlyargs ++ params.args).head?.map (·.arg) = some "self" ∧ scope.kind = .function ∧ scope.isCoroutine = false ∧ scope.isGenerator = false ∧ scope.names.lookup ("super" : Str) = some .globalImplicit ∧ scope.names.lookup ("__class__" : Str) = some .free ∧
    (("self" : Str) :: fs).all (fun y => scope.names.lookup y == some .local) = true ∧ scope.names.all (fun y => y.2 != .cell) = true ∧
    (∀ (s : Shared) (v : Value) (us : List Value), us.length = fs.length → BindsTo s (PySem.W.ksFn "__init__" q params body scope .none .none doc pm an (.ref cda) ct cc) ⟨v :: us, []⟩ ((("self" : Str) :: fs).zip (v :: us))) ∧
    (∃ ccl cdd vs ccs file tf, K.lookup cda = some ⟨ccl, cdd, .fields vs, ccs⟩ ∧ vs[2]? = some (.str file tf) ∧ ((P.main.file : Str) == file) = true) ∧ (∃ cl cld csl, K.lookup cc = some ⟨cl, cld, .cell (some (.ref C)), csl⟩)
  nd : (("self" : Str) :: fs).Nodup
  dbg : fs.all (fun f => !(f == ("__debug__" : Str))) = true

/-! ### plain lists of names and values -/
theorem lookup_nodup {α : Type} {y : Str} {v : α} : ∀ {l : List (Str × α)}, (l.map (·.1)).Nodup → (y, v) ∈ l → l.lookup y = some v
  | [], _, h => (nomatch h)
  | (z, w) :: r, nd, h => by
    rw [List.map_cons, List.nodup_cons] at nd
    rcases List.mem_cons.mp h with e | h2
    · cases e; simp [List.lookup]
    · have : (y == z) = false := by
        rw [beq_eq_false_iff_ne]
        intro e
        exact nd.1 (List.mem_map.mpr ⟨(y, v), h2, e⟩)
      rw [List.lookup_cons, this]
      exact lookup_nodup nd.2 h2
theorem zip_keys {α : Type} : ∀ {P : List Str} {us : List α}, P.length = us.length → (P.zip us).map (·.1) = P
  | [], [], _ => rfl
  | p :: P, u :: us, h => by
    show p :: (P.zip us).map (·.1) = _
    rw [zip_keys (by simpa using h)]
theorem rev_zip {α : Type} {P : List Str} {us : List α} (nd : P.Nodup) (h : P.length = us.length) {y : Str} {v : α} (hm : (y, v) ∈ P.zip us) : (P.zip us).reverse.lookup y = some v := by
  refine lookup_nodup ?_ (List.mem_reverse.mpr hm)
  rw [List.map_reverse, zip_keys h]
  exact List.pairwise_reverse.mpr (nd.imp fun h => Ne.symm h)
theorem putL {α : Type} {f : Str} {v : α} {fl : List (Str × α)} : (fun y => if y = f then some v else fl.lookup y) = fun y => ((f, v) :: fl).lookup y := by
  funext y
  by_cases h : y = f
  · subst h; simp [List.lookup]
  · have e : (y == f) = false := by simpa using h
    rw [if_neg h, List.lookup_cons, e]
theorem within_l {fl : List (Str × Value)} : Within (fun y => fl.lookup y) (fl.map (·.1)) := by
  intro y hy
  induction fl with
  | nil => exact absurd rfl hy
  | cons p r ih =>
    by_cases h : y = p.1
    · rw [h]; exact List.mem_cons_self
    · refine List.mem_cons_of_mem _ (ih fun z => hy ?_)
      have e : (y == p.1) = false := by simpa using h
      show List.lookup y (p :: r) = none
      rw [List.lookup_cons, e]; exact z
theorem kv_zip : ∀ {fs : List Str} {vs : List V} {us : List Value}, Vals vs us → KV (fs.zip vs) (fs.zip us)
  | [], _, _, _ => .nil
  | _ :: _, _, _, .nil => .nil
  | _ :: fs, _ :: _, _ :: _, .cons r t => .cons ⟨rfl, r⟩ (kv_zip (fs := fs) t)
theorem kv_append {l l' : List (Str × V)} {m m' : List (Str × Value)} : KV l m → KV l' m' → KV (l ++ l') (m ++ m')
  | .nil, b => b
  | .cons r t, b => .cons r (kv_append t b)
theorem kv_rev {l : List (Str × V)} {m : List (Str × Value)} (h : KV l m) : KV l.reverse m.reverse := by
  induction h with
  | nil => exact .nil
  | cons r t ih => rw [List.reverse_cons, List.reverse_cons]; exact kv_append ih (.cons r .nil)
theorem kv_look {y : Str} : ∀ {l : List (Str × V)} {m : List (Str × Value)}, KV l m → RelO (l.lookup y) (m.lookup y)
  | _, _, .nil => trivial
  | (f, v) :: l, (f', u) :: m, .cons r t => by
    obtain ⟨e, r⟩ := r
    have e : f = f' := e
    subst e
    rw [List.lookup_cons, List.lookup_cons]
    cases y == f with
    | true => exact r
    | false => exact kv_look t

/-! ### the built-in __init__ bound to the exception, called -/
section
variable {prog : Program} {w : World} {A : Around} {E : Value → Shared → Prop} {h : Heap} {g : Array GenState} {d : Drawn} {t : Nat} {os : OsState}
variable {nm q : Str} {C N : Addr} {bs bm : List Value} {hdct : Bool} {sn : List Str} {sub : List Value} {ab : Bool} {col : Option Bool} {dd : Option Addr} {k0 k1 k2 k3 k5 : Option Value}
theorem call_ve {u e t0 : Addr} {rest : List Value} {Q : Value → Shared → Prop}
    (hC : h.get? C = some (excClassObj nm q C N bs bm hdct sn sub ab col dd k0 k1 k2 k3 k5 "ValueError.__new__")) (he : h.get? e = some (HandSPX.excO C t0)) (hu : h.get? u = some (PySem.W.kxs_mw "ValueError.__init__" e)) (hrest : rest.length ≤ sizeLine)
    (hq : ∀ h' t1, (∀ b o, b ≠ e → h.get? b = some o → h'.get? b = some o) → h'.get? e = some (HandSPX.excO C t1) → Q .none ⟨h', g, d, t, os⟩) :
    wpAny (model prog w) A (call (.ref u) rest) Q E ⟨h, g, d, t, os⟩ := by
  refine wpAny_call (codeAny_of_tree ?_)
  show wpAny _ A.in1 (callAny (.ref u) ⟨rest, []⟩) _ _ _
  simp only [callAny]
  refine wpAny_bind (wpAny_load hu ?_)
  simp only [PySem.W.kxs_mw, show (Value.type "method-wrapper" == Value.type "method" || Value.type "method-wrapper" == Value.type "builtin_function_or_method" || Value.type "method-wrapper" == Value.type "method-wrapper") = true by decide, if_true]
  refine PySem.W.KFB.if_so (by decide) ?_
  refine wpAny_bind (PySem.W.check_bound_init F.excBase_ValueError.toExcCallFacts hC he rfl ?_)
  refine wpAny_bind (wpAny_pure (wpAny_pure ?_))
  refine ⟨plainId_quiet F.excBase_ValueError.init.plain _, codeAny_builtin F.excBase_ValueError.initEntry ?_⟩
  exact PySem.W.exc_init_tree (cls := .ref C) (t0 := t0) (dv := none) (c2 := .none) (c3 := .none) (b4 := .bool false) he hrest fun h' k e' _ => hq h' _ k e'
end

/-! ### the fields -/
section
variable {prog : Program} {w : World} {A : Around} {E : Value → Shared → Prop} {K : Frag} {C x : Addr} {env : Env} {m : Str → Option Value} {nm q : Str} {N : Addr} {bs bm : List Value} {sn : List Str} {sub : List Value} {ab : Bool} {col : Option Bool} {dd : Option Addr} {k0 k1 k2 k3 k5 : Option Value}
/-- what the statements of __init__ leave -/
structure InitEnd (h h' : Heap) (x C dx t1 : Addr) (fl : List (Str × Value)) : Prop where
  keep : ∀ b o, b ≠ x → h.get? b = some o → h'.get? b = some o
  obj : h'.get? x = some { cls := .ref C, dict := some dx, data := .fields #[.ref t1, .none, .none, .none, .bool false, .none] }
  dbig : h.objs.size ≤ dx
  dne : dx ≠ x
  ns : h'.Ns1 dx fun y => fl.lookup y
theorem more_fields (hcl : PySem.W.clsIn K C = some { name := nm, bases := bs, mro := .ref C :: bm, ns := N, qualname := q, hasDict := true, slotNames := sn, subclasses := sub, abstract := ab, collection := col, hasDel := false }) (hbm : PySem.HandSPX.refsVE bm = true)
    (hsa : PySem.W.findIn K (.ref C) "__setattr__" = some (some (.builtin "object.__setattr__"))) (hk : env.scope.kind = .function) (hkx : env.kindOf "self" = some .local) (hmx : m "self" = some (.ref x)) {dx t1 : Addr} (hxL : env.locals ≠ x) (hdL : dx ≠ env.locals) (hxK : K.lookup x = none) (hdK : K.lookup dx = none) (hdne : dx ≠ x) :
    ∀ (fs : List Str) (us : List Value) (r : List Stmt) (fl : List (Str × Value)) (s : Shared) (Q : Flow → Shared → Prop), asgOk r fs = true → us.length = fs.length → (∀ f ∈ fs, PySem.W.findIn K (.ref C) f = some none ∧ env.kindOf f = some .local ∧ (f == ("__debug__" : Str)) = false) → (∀ f v, (f, v) ∈ fs.zip us → m f = some v) → fl.length + fs.length ≤ 1000 →
      K.In s.heap → s.heap.Ns env.locals m → s.heap.get? x = some { cls := .ref C, dict := some dx, data := .fields #[.ref t1, .none, .none, .none, .bool false, .none] } → s.heap.Ns1 dx (fun y => fl.lookup y) →
      (∀ h' tk, (∀ b o, b ≠ dx → s.heap.get? b = some o → h'.get? b = some o) → h'.Ns1 dx (fun y => ((fs.zip us).reverse ++ fl).lookup y) → Q .next { s with heap := h', toks := tk }) → wpAny (model prog w) A (execs r env) Q E s := by
  intro fs
  induction fs with
  | nil =>
    intro us r fl s Q hr hl _ _ _ X hn hx hns hq
    cases r with
    | nil => exact wpAny_execs_nil (hq s.heap s.toks (fun _ _ _ e => e) (by simpa using hns))
    | cons st r => simp [asgOk] at hr
  | cons f fs ih =>
    intro us r fl s Q hr hl hfs hm hz X hn hx hns hq
    cases us with
    | nil => cases hl
    | cons u us =>
      cases r with
      | nil => cases hr
      | cons st r =>
        obtain ⟨p1, p2, p3, p4, rfl, hr2⟩ := asgOk_cons hr
        obtain ⟨hf1, hf2, hf3⟩ := hfs f List.mem_cons_self
        refine wpAny_execs_cons (plainObj_wpAny_Assign_Attribute ?_)
        refine wpAny_Name (wpAny_loadName_local hk hf2 hn (hm f u List.mem_cons_self) ?_) hf3
        refine wpAny_Name (wpAny_loadName_local hk hkx hn hmx ?_) (by decide)
        obtain ⟨hp, g, d, t, os⟩ := s
        obtain ⟨oD, _, _, hoD, _, _⟩ := hns.count within_l
        refine PySem.W.set_plain X (ox := { cls := .ref C, dict := some dx, data := .fields #[.ref t1, .none, .none, .none, .bool false, .none] }) (od := some oD) ⟨hx, rfl, rfl, hoD⟩ hsa ?_
        have hz' : fl.length + (fs.length + 1) ≤ 1000 := by simpa using hz
        refine PySem.OEX.osa_old X hx hns within_l (by rw [List.length_map]; omega) hcl (show PySem.HandSPX.refsVE (.ref C :: bm) = true from hbm) rfl hf1 fun h' tk' k hns' => ?_
        rw [putL] at hns'
        have kx := k x _ (Ne.symm hdne) hx
        refine ih us r ((f, u) :: fl) ⟨h', g, d, tk', os⟩ Q hr2 (by simpa using hl) (fun y hy => hfs y (List.mem_cons_of_mem _ hy)) (fun y v hy => hm y v (List.mem_cons_of_mem _ hy)) (by rw [List.length_cons]; omega) (fun a o e => k a o (fun z => by rw [z, hdK] at e; cases e) (X a o e)) ?_ kx hns' fun h2 tk k2 hns2 => ?_
        · obtain ⟨o, es, ep, ho, rr⟩ := hn
          exact ⟨o, es, ep, k _ _ (Ne.symm hdL) ho, rr⟩
        · refine hq h2 tk (fun b o hb e => k2 b o hb (k b o hb e)) ?_
          have e : ((f :: fs).zip (u :: us)).reverse ++ fl = (fs.zip us).reverse ++ (f, u) :: fl := by
            show ((f, u) :: fs.zip us).reverse ++ fl = _
            rw [List.reverse_cons, List.append_assoc]; rfl
          rw [e]
          exact hns2
end

theorem mem_zip_get {α β : Type} {a : α} {b : β} : ∀ {as : List α} {bs : List β} {i : Nat}, as[i]? = some a → bs[i]? = some b → (a, b) ∈ as.zip bs
  | [], _, _, h, _ => by simp at h
  | _ :: _, [], _, _, h => by simp at h
  | x :: as, y :: bs, 0, h1, h2 => by
    simp at h1 h2; subst h1; subst h2; exact List.mem_cons_self
  | x :: as, y :: bs, i + 1, h1, h2 => List.mem_cons_of_mem _ (mem_zip_get (i := i) (by simpa using h1) (by simpa using h2))
section
variable {prog : Program} {w : World} {A : Around} {c : Code} {E : Value → Shared → Prop} {s : Shared} {env : Env}
/-- o.m(e), where the activation is known -/
theorem at_call1 {o e : Expr} {name : Str} {apos pos : Pos} {Q : Value → Shared → Prop} (hline : (apos.endLine == pos.line) = true) (hs : noStar e = true)
    (h : PySem.wpAt (model prog w) A c (attributeBase o name env (eval o env)) (fun ov s₁ => wpAny (model prog w) A (getMethod ov name (do return (← importBound o env).getD true)) (fun fx s₂ => wpAny (model prog w) A (callWith pos fx.1 fx.2 [(false, eval e env)] []) Q E s₂) E s₁) E s) :
    PySem.wpAt (model prog w) A c (eval (.Call (.Attribute o name apos) [e] [] pos) env) Q E s := by
  have ht : backTo pos (starEach [e] env) = [(false, eval e env)] := by rw [starEach_cons hs]; rfl
  have hform : methodCallForm ([e].length + ([] : List Keyword).length) (backTo pos (starEach [e] env)) (backToKw pos (keywordEach [] env)) = true := by rw [ht]; rfl
  have hpos : methodCallPos true o env apos pos = pure pos := by unfold methodCallPos; simp [hline]
  rw [arm_eval_Call]
  refine PySem.wpAt_bind (PySem.ks_wpAt_mono h (fun ov s₁ h₁ => PySem.wpAt_of_wpAny (wpAny_bind (wpAny_standAt ?_))) fun _ _ z => z)
  unfold methodCall
  rw [hform, ht]
  refine wpAny_bind (wpAny_holding (wpAny_mono (show wpAny (model prog w) A (calleeOf true o env ov name) _ E _ from h₁) (fun fx s₂ h₂ => ?_) fun _ _ z => z))
  exact wpAny_bind (wpAny_of_eq hpos h₂)
end
section
variable {P : Program} {w : World} {A : Around} {R : Result → Shared → Prop} {s : Shared} {K : Frag} {mg mb : Str → Option Value} {x : Str} {fs : List Str} {C fI e : Addr}
/-- C.__init__(e, ..) on a fresh exception at e -/
theorem err_init (T : ErrC P K mg x fs C fI) {t0 : Addr} {us : List Value} (X : K.In s.heap) (hlim : s.heap.NoLimit) (hg : s.heap.Ns mainGlobals mg) (hb : s.heap.Ns builtinsNs mb) (hbs : mb "super" = bootBuiltins "super") (he : s.heap.get? e = some (HandSPX.excO C t0)) (heK : K.lookup e = none)
    (hroom : A.depth < recursionLimit) (hl : us.length = fs.length) (hz : fs.length ≤ 900) (hq : ∀ h' tk dx t1, InitEnd s.heap h' e C dx t1 (fs.zip us).reverse → R (.ok (.ret .none)) { s with heap := h', toks := tk }) :
    codeAny (model P w) A (.call (.ref fI) ⟨.ref e :: us, []⟩) R s := by
  obtain ⟨oc, od, q, params, body, scope, doc, pm, an, cda, cc, ct, osl, hfn, hcd, hbody, hpar, hk, hco, hgen, hks, hkc, hloc, hcell, hbind, ⟨ccl, cdd, vs, ccs, file, tf, hcode, hvs, hfile⟩, ⟨cl, cld, csl, hcc⟩⟩ := T.fn
  obtain ⟨nm, qn, N, bs, bm, sn, sub, ab, col, dd, k0, k1, k2, k3, k5, hC, hbm⟩ := T.cls
  have hcl : PySem.W.clsIn K C = some { name := nm, bases := bs, mro := .ref C :: bm, ns := N, qualname := qn, hasDict := true, slotNames := sn, subclasses := sub, abstract := ab, collection := col, hasDel := false } := by unfold PySem.W.clsIn; rw [hC] <;> rfl
  have hlz : ((("self" : Str) :: fs)).length = (Value.ref e :: us).length := by simp [hl]
  have loc : ∀ y ∈ ("self" : Str) :: fs, scope.names.lookup y = some .local := fun y hy => by simpa using List.all_eq_true.mp hloc y hy
  obtain ⟨p0, p1, p2, mm, j, p3, p4, p5, r, rfl, hasg, hline⟩ := initOk_inv hbody
  refine PySem.ks_codeAny_call_defAt (fd := PySem.W.ksFn "__init__" q params _ scope .none .none doc pm an (.ref cda) ct cc) (body := .Expr (.Call (.Attribute (.Call (.Name "super" p0) [] [] p1) "__init__" p2) [.Constant (.str mm) j p3] [] p4) p5 :: r) (binds := (("self" : Str) :: fs).zip (.ref e :: us))
    hroom (X _ _ hfn) rfl hlim (PySem.W.codeRec_of X hcd) rfl (hbind s (.ref e) us hl) (fun y hy => by simpa using List.all_eq_true.mp hcell y hy) (fun y hy => loc y.1 (List.of_mem_zip hy).1) (fun h₁ hns k₁ => ?_) hco hgen hk
  generalize henv : callEnv (PySem.W.ksFn "__init__" q params (.Expr (.Call (.Attribute (.Call (.Name "super" p0) [] [] p1) "__init__" p2) [.Constant (.str mm) j p3] [] p4) p5 :: r) scope .none .none doc pm an (.ref cda) ct cc) s.heap.objs.size fI = env
  have eL : env.locals = s.heap.objs.size := by subst henv; rfl
  have eS : env.scope = scope := by subst henv; rfl
  have eF : env.func = some fI := by subst henv; rfl
  have eC : env.code = .ref cda := by subst henv; rfl
  have eG : env.globals = mainGlobals := by subst henv; rfl
  have eB : env.builtins = builtinsNs := by subst henv; rfl
  have eCell : env.cells.lookup ("__class__" : Str) = some cc := by subst henv; rfl
  have kd : ∀ y, env.kindOf y = scope.names.lookup y := fun y => by unfold Env.kindOf; rw [eS]
  generalize hm : (fun y => ((("self" : Str) :: fs).zip (Value.ref e :: us)).reverse.lookup y) = m at hns
  have mget : ∀ y v, (y, v) ∈ (("self" : Str) :: fs).zip (Value.ref e :: us) → m y = some v := fun y v hv => by rw [← hm]; exact rev_zip T.nd hlz hv
  have mself : m "self" = some (.ref e) := mget _ _ List.mem_cons_self
  have X₁ : K.In h₁ := X.keeps k₁
  have he₁ := k₁ _ _ he
  have hne : s.heap.objs.size ≠ e := Nat.ne_of_gt (Heap.lt_size he)
  have hns' : h₁.Ns env.locals m := by rw [eL]; exact hns
  have hi : interactive env = false := by unfold interactive; first | rfl | (rw [eS, hk]; rfl)
  obtain ⟨ar, har, hars⟩ := Option.map_eq_some_iff.mp hpar
  have clC : ∃ oC cdC, K.lookup C = some oC ∧ oC.data = .cls cdC := ⟨_, _, hC, rfl⟩
  obtain ⟨oC, cdC, hoC, hdC⟩ := clC
  refine PySem.ks_wpAt_execs_cons (PySem.ks_wpAt_Expr_any (at_call1 hline (e := .Constant (.str mm) j p3) rfl ?_) hi)
  refine PySem.ks_wpAt_super_base (by rw [kd]; exact hks) (by rw [kd]; exact hkc) (by decide) eF (X₁ _ _ hfn) rfl har eC (X₁ _ _ hcode) rfl hvs hfile T.ftop ?_
  refine PySem.W.ks_loadName_global (by rw [eS]; exact hk) (by rw [kd]; exact hks) (PySem.Calls.loadGlobal_builtin (by rw [eG]; exact hg.keeps k₁) T.noS (by rw [eB]; exact hb.keeps k₁) (hbs.trans (by decide +kernel : bootBuiltins "super" = some (.type "super"))) ⟨rfl, ?_⟩)
  refine wpAny_loadName_free (by rw [eS]; exact hk) (by rw [kd]; exact hkc) eCell ⟨_, X₁ _ _ hcc, rfl⟩ ?_
  rw [hars]
  refine wpAny_loadName_local (by rw [eS]; exact hk) (by rw [kd]; exact loc _ List.mem_cons_self) hns' mself ?_
  refine PySem.ks_wpAny_isType_cls (X₁ _ _ hoC) hdC ⟨rfl, ?_⟩
  refine PySem.ks_wpAny_call_super (X₁ _ _ hoC) hdC he₁ rfl (fun c z => by cases z) (PySem.W.looks_mroIn X₁ T.slf) (fun h₂ hso k₂ => ?_)
  have X₂ : K.In h₂ := X₁.keeps k₂
  have he₂ := k₂ _ _ he₁
  have hsup := T.sup
  unfold PySem.W.ks_superIn at hsup
  rw [hcl] at hsup
  have hI : PySem.W.Looks (model P w) h₂ (isInstance (.ref e) (.type "ValueError")) true := (show PySem.W.Looks (model P w) h₂ (typeOf (.ref e)) (.ref C) from fun A Q E s k q => wpAny_typeOf_ref (k _ _ he₂) q).andThen (PySem.W.looks_subIn X₂ T.veC)
  have heC : e ≠ C := fun z => by rw [z] at heK; rw [hC] at heK; cases heK
  refine PySem.W.kxs_getMethod PySem.W.kxs_ValueError hso (PySem.W.looks_opaque X₂ T.thi) (l₀ := .ref C :: bm) (fun A Q E s k q => wpAny_bind ((PySem.W.looks_clsIn X₂ hcl) A _ E s k (wpAny_pure q))) rfl X₂ hsup hI heC (by decide) ?_
  have hu := Heap.get?_push_size h₂ (o := PySem.W.kxs_mw "ValueError.__init__" e) rfl
  refine PySem.W.kxs_callWith (i := "ValueError.__init__") (x := e) rfl (PySem.Calls.evalArgs_plain ?_)
  refine PySem.Calls.spliced_cons (PySem.Calls.Constant_str (PySem.Calls.spliced_nil ⟨hu, ?_⟩))
  have k₃ : ∀ b o, h₂.get? b = some o → (h₂.push (PySem.W.kxs_mw "ValueError.__init__" e)).get? b = some o := fun b o z => Heap.get?_push_of_some _ z
  refine call_ve (k₃ _ _ (X₂ _ _ hC)) (k₃ _ _ he₂) hu (by show 1 ≤ sizeLine; rw [sizeLine_eq]; omega) fun h₄ t1 k₄ he₄ => ?_
  -- the fields
  refine PySem.wpAt_of_wpAny ?_
  have kA : ∀ b o, b ≠ e → s.heap.get? b = some o → h₄.get? b = some o := fun b o hb z => k₄ b o hb (k₃ b o (k₂ b o (k₁ b o z)))
  have X₄ : K.In h₄ := fun b o z => kA b o (fun y => by rw [y, heK] at z; cases z) (X b o z)
  have hns₄ : h₄.Ns env.locals m := by
    obtain ⟨o, es, ep, ho, rr⟩ := hns'
    exact ⟨o, es, ep, k₄ _ _ (by rw [eL]; exact hne) (k₃ _ _ (k₂ _ _ ho)), rr⟩
  have dbg : ∀ f ∈ fs, (f == ("__debug__" : Str)) = false := fun f hf => by simpa using List.all_eq_true.mp T.dbg f hf
  have hL₄ : env.locals < h₄.objs.size := hns₄.lt
  cases fs with
  | nil => exact absurd T.ne (by decide)
  | cons f fs =>
    cases us with
    | nil => cases hl
    | cons u us =>
      cases r with
      | nil => cases hasg
      | cons st r =>
        obtain ⟨q1, q2, q3, q4, rfl, hasg2⟩ := asgOk_cons hasg
        have ef : m f = some u := mget f u (List.mem_cons_of_mem _ List.mem_cons_self)
        have kf : ∀ y ∈ f :: fs, env.kindOf y = some .local := fun y hy => by rw [kd]; exact loc y (List.mem_cons_of_mem _ hy)
        have kself : env.kindOf "self" = some .local := by rw [kd]; exact loc _ List.mem_cons_self
        refine wpAny_execs_cons (plainObj_wpAny_Assign_Attribute ?_)
        refine wpAny_Name (wpAny_loadName_local (by rw [eS]; exact hk) (kf f List.mem_cons_self) hns₄ ef ?_) (dbg f List.mem_cons_self)
        refine wpAny_Name (wpAny_loadName_local (by rw [eS]; exact hk) kself hns₄ mself ?_) (by decide)
        refine PySem.W.set_plain X₄ (ox := HandSPX.excO C t1) (od := none) ⟨he₄, rfl, rfl, trivial⟩ T.sa ?_
        refine HandSPX.exc_osa X₄ he₄ hcl (show HandSPX.refsVE (.ref C :: bm) = true from hbm) rfl (T.noN f List.mem_cons_self) fun h₅ tk₅ dx k₅ dn dne hx₅ hn₅ => ?_
        have dn : h₄.objs.size ≤ dx := dn
        have nd : ∀ {b : Addr} {o : Obj}, h₄.get? b = some o → b ≠ dx := fun {b o} z => Nat.ne_of_lt (Nat.lt_of_lt_of_le (Heap.lt_size z) dn)
        have dK : K.lookup dx = none := by
          cases z : K.lookup dx with
          | none => rfl
          | some o => exact absurd rfl (nd (X₄ _ _ z))
        have Ld : dx ≠ env.locals := fun z => absurd (Nat.lt_of_lt_of_le hL₄ dn) (by rw [z]; exact Nat.lt_irrefl _)
        have X₅ : K.In h₅ := fun b o z => k₅ b o (fun y => by rw [y, heK] at z; cases z) (X₄ b o z)
        have hns₅ : h₅.Ns env.locals m := by
          obtain ⟨o, es, ep, ho, rr⟩ := hns₄
          exact ⟨o, es, ep, k₅ _ _ (by rw [eL]; exact hne) ho, rr⟩
        have hn₅' : h₅.Ns1 dx (fun y => [(f, u)].lookup y) := by
          have z := hn₅
          rw [show (fun y => if y = f then some u else none) = (fun y => [(f, u)].lookup y) from putL (fl := [])] at z
          exact z
        refine more_fields hcl hbm T.sa (by rw [eS]; exact hk) kself mself (by rw [eL]; exact hne) Ld heK dK dne fs us r [(f, u)] { s with heap := h₅, toks := tk₅ } _ hasg2 (by simpa using hl)
          (fun y hy => ⟨T.noN y (List.mem_cons_of_mem _ hy), kf y (List.mem_cons_of_mem _ hy), dbg y (List.mem_cons_of_mem _ hy)⟩) (fun y v hy => mget y v (List.mem_cons_of_mem _ (List.mem_cons_of_mem _ hy)))
          (by simp at hz ⊢; omega) X₅ hns₅ hx₅ hn₅' fun h₆ tk₆ k₆ hns₆ => ?_
        refine hq h₆ tk₆ dx t1 ⟨fun b o hb z => k₆ b o (nd (kA b o hb z)) (k₅ b o hb (kA b o hb z)), k₆ e _ (Ne.symm dne) hx₅, ?_, dne, ?_⟩
        · show s.heap.objs.size ≤ dx
          exact Nat.le_trans (Nat.le_of_eq eL.symm) (Nat.le_trans (Nat.le_of_lt hL₄) dn)
        · have e9 : (((f :: fs).zip (u :: us)).reverse) = (fs.zip us).reverse ++ [(f, u)] := by
            show ((f, u) :: fs.zip us).reverse = _
            rw [List.reverse_cons]
          rw [e9]
          exact hns₆
/-- C(..) -/
theorem err_made (T : ErrC P K mg x fs C fI) {us : List Value} (X : K.In s.heap) (hlim : s.heap.NoLimit) (hg : s.heap.Ns mainGlobals mg) (hb : s.heap.Ns builtinsNs mb) (hbs : mb "super" = bootBuiltins "super")
    (hroom : A.depth + 1 < recursionLimit) (hl : us.length = fs.length) (hz : fs.length ≤ 900) (hq : ∀ h' tk dx t1, InitEnd s.heap h' (s.heap.objs.size + 1) C dx t1 (fs.zip us).reverse → R (.ok (.ret (.ref (s.heap.objs.size + 1)))) { s with heap := h', toks := tk }) :
    codeAny (model P w) A (.call (.ref C) ⟨us, []⟩) R s := by
  obtain ⟨nm, qn, N, bs, bm, sn, sub, ab, col, dd, k0, k1, k2, k3, k5, hC, hbm⟩ := T.cls
  obtain ⟨hp, g, dr, tk, os⟩ := s
  have k : ∀ b o, hp.get? b = some o → ((hp.push (PySem.W.kdv_tup us)).push (HandSPX.excO C hp.objs.size)).get? b = some o := fun b o e => Heap.get?_push_of_some _ (Heap.get?_push_of_some _ e)
  have hget : ((hp.push (PySem.W.kdv_tup us)).push (HandSPX.excO C hp.objs.size)).get? (hp.objs.size + 1) = some (HandSPX.excO C hp.objs.size) := by heap_get
  have hnx : K.lookup (hp.objs.size + 1) = none := by
    cases e : K.lookup (hp.objs.size + 1) with
    | none => rfl
    | some o =>
      have z := Heap.lt_size (X _ _ e)
      have z : hp.objs.size + 1 < hp.objs.size := z
      omega
  refine HandSPX.call_own F.excBase_ValueError (fun X => HandSPX.refsVE_contains X bm hbm) (X _ _ hC) (PySem.W.looks_findIn X T.iC) (fun self => PySem.W.bind_fn X self T.tC) (by rw [sizeLine_eq]; omega) ?_
  refine err_init (s := ⟨(hp.push (PySem.W.kdv_tup us)).push (HandSPX.excO C hp.objs.size), g, dr, tk, os⟩) T (X.keeps k) (hlim.keeps k) (hg.keeps k) (hb.keeps k) hbs hget hnx (show A.depth + 1 < recursionLimit from hroom) hl hz fun h' tk' dx t1 i => ?_
  refine ⟨rfl, hq h' tk' dx t1 ⟨fun b o hb e => i.keep b o hb (k b o e), i.obj, ?_, i.dne, i.ns⟩⟩
  have z := i.dbig
  rw [Heap.size_push, Heap.size_push] at z
  show hp.objs.size ≤ dx
  omega
end

/-! ### the reading of such a raise -/
section
variable {X : Cx} {C fI : Addr} {x : Str} {fs : List Str}
/-- C(..): its own dict at d, new -/
def tMkE (C : Addr) (fs : List Str) (ta : TA) : L2.St → Hp → XK → Prop := fun σ H Q => ta σ H fun vs H1 => vs.length = fs.length ∧ ∀ d, H1 d = none → Q (.ref C) (some d) (upd H1 d (.xd (fs.zip vs).reverse))
theorem pmk_err {e : Expr} {es : List Expr} {ta : TA} {p pos : Pos} {k : Nat} (T : ErrC X.prog X.K X.mg x fs C fI) (hz : fs.length ≤ 900) (hr : Room k X.A) (ha : PA X (e :: es) ta) (hg : Gl X x) (hdb : (x == ("__debug__" : Str)) = false) (hs : (e :: es).all noStar = true) :
    PMk X (.Call (.Name x p) (e :: es) [] pos) (tMkE C fs ta) := by
  intro pins s σ H Q I h
  rw [List.all_cons, Bool.and_eq_true_iff] at hs
  refine wpAny_Call_Name_kw (ld_glob I hg T.gC ?_ hdb)
  refine PySem.W.callWith_K (h₀ := X.base) I.ok.mod.kin T.kC (thn (ha.run pos pins s σ H _ I h) fun us s1 hh => ?_) (starEach_cons hs.1) (starEach_all hs.2)
  obtain ⟨vs, H1, I1, r1, hl, q1⟩ := hh
  refine ⟨I1.kIn, ?_⟩
  show wpAny _ _ (call (.ref C) us) _ _ _
  have hlu : us.length = fs.length := r1.length.symm.trans hl
  obtain ⟨mb, hb1, hb2⟩ := I1.mod.blt
  have hlim := I1.nolimit
  have hgl := I1.mod.glob.keeps I1.bk
  have hbl := hb1.keeps I1.bk
  have kin := I1.kIn
  obtain ⟨hp, g, dr, tk, os⟩ := s1
  refine wpAny_call (err_made (s := ⟨hp, g, dr, tk, os⟩) T kin hlim hgl hbl (hb2 _ (by decide)) (by have := hr.dp; omega) hlu hz fun h' tk' d t1 M => ?_)
  have hdn : H1 d = none := I1.hok.fresh M.dbig
  obtain ⟨G, g1, g2⟩ := restrict h' fun b => decide (b ≠ hp.objs.size + 1)
  have gk : ∀ b, b ≠ hp.objs.size + 1 → G.get? b = h'.get? b := fun b hb => g1 b (decide_eq_true hb)
  have ge : G.get? (hp.objs.size + 1) = none := g2 _ (by simp)
  have old : ∀ b o, hp.get? b = some o → G.get? b = some o := fun b o q => by
    have hb : b ≠ hp.objs.size + 1 := Nat.ne_of_lt (Nat.lt_succ_of_lt (Heap.lt_size q))
    exact (gk b hb).trans (M.keep b o hb q)
  have rel : ∀ f, RelO (((fs.zip vs).reverse).lookup f) (((fs.zip us).reverse).lookup f) := fun f => kv_look (kv_rev (kv_zip r1))
  have ob : ObjOk X.prog X.w (upd H1 d (.xd (fs.zip vs).reverse)) G d (.xd (fs.zip vs).reverse) := ⟨_, M.ns.at (fun o q => (gk d M.dne).trans q), rel⟩
  have J : Inv X pins σ (upd H1 d (.xd (fs.zip vs).reverse)) ⟨G, g, dr, tk', os⟩ := I1.laid (t' := tk') old M.dbig ob
  refine ⟨hp.objs.size + 1, _, _, ⟨G, g, dr, tk', os⟩, _, .ref C, some d, rfl, J, fun b o q => ?_, ge, M.obj, ⟨rfl, rfl⟩, rfl, rfl, ?_, rfl, I1.bare, raises_own T.exC T.tyC, q1 d hdn⟩
  · by_cases hb : b = hp.objs.size + 1
    · have q' : G.get? b = some o := q
      rw [hb, ge] at q'; cases q'
    · exact (gk b hb).symm.trans q
  · rw [upd_ne (Ne.symm M.dne)]
    exact I1.hok.fresh (Nat.le_succ _)
end
end DL

set_option Elab.async false
set_option linter.all false
set_option maxRecDepth 100000
/-! DLy: raise; try with several clauses, each with a name or without; defs. -/
namespace DL
open PySem PySem.Spec PyProof.Rows L2

/-! ### raise -/
def sRaise (c : Str) (fs : List Str) (g : Lx) : Sm := fun ρ h => match g ρ h with
  | some (.ok ds) => if ds.length = fs.length then some (.exc c (fs.zip ds).reverse ρ h) else none
  | some (.exc c' fs') => some (.exc c' fs' ρ h)
  | none => none
theorem zip_vals {α : Type} : ∀ {P : List Str} {us : List α}, P.length = us.length → (P.zip us).map (·.2) = us
  | [], [], _ => rfl
  | p :: P, u :: us, h => by
    show u :: (P.zip us).map (·.2) = _
    rw [zip_vals (by simpa using h)]
section
variable {X : Cx} {W : WX} {F0 H0 : Hp} {x : Str} {fs : List Str} {C fI : Addr} {e : Expr} {es : List Expr} {g : Lx} {p pos pos2 : Pos} {k : Nat}
theorem ds_raise (hc : X.calm = true) (tk : Takes X W) (T : ErrC X.prog X.K X.mg x fs C fI) (hz : fs.length ≤ 900) (hr : Room k X.A) (ha : PA X (e :: es) (tA X.K X.mg W g)) (hg : Gl X x) (hdb : (x == ("__debug__" : Str)) = false) (hs : (e :: es).all noStar = true) :
    PS X (.Raise (some (.Call (.Name x p) (e :: es) [] pos)) none pos2) (tS X.K X.mg F0 H0 W (sRaise x fs g)) := by
  refine (ps_raise hc tk (pmk_err T hz hr ha hg hdb hs)).weak fun D σ H q => ?_
  obtain ⟨φ, h, F, ρ, o, n, hf, want⟩ := q
  unfold sRaise at hf
  cases h1 : g ρ h with
  | none => rw [h1] at hf; cases hf
  | some r =>
    rw [h1] at hf
    cases r with
    | exc c' fs' =>
      cases Option.some.inj hf
      exact ⟨φ, h, F, ρ, .exc c' fs', n.w, n.e, h1, fun cls dx F1 H1 e1 xx => want cls dx φ F1 H1 σ (n.ext e1) (Up.of e1) xx⟩
    | ok ds =>
      have hf : (if ds.length = fs.length then some (Out.exc x (fs.zip ds).reverse ρ h) else none) = some o := hf
      split at hf
      · rename_i hl
        cases Option.some.inj hf
        refine ⟨φ, h, F, ρ, .ok ds, n.w, n.e, h1, fun vs F1 H1 e1 rs => ⟨rs.length.trans hl, fun d hd => ?_⟩⟩
        have n1 := n.ext e1
        have e2 := Ext.new (o := .xd (fs.zip vs).reverse) n1.w.sub hd
        refine want (.ref C) (some d) φ _ _ σ (n1.ext e2) ((Up.of e1).trans (Up.of e2)) ⟨T.gC, .inr ⟨d, (fs.zip vs).reverse, rfl, upd_same, ?_, ?_⟩⟩
        · have hv : fs.length = vs.length := (rs.length.trans hl).symm
          rw [List.map_reverse, List.map_reverse, zip_keys hv, zip_keys hl.symm]
        · have hv : fs.length = vs.length := (rs.length.trans hl).symm
          rw [List.map_reverse, List.map_reverse, zip_vals hv, zip_vals hl.symm]
          exact (rs.up e2.up).reverse
      · cases hf
end

/-! ### try, the clauses with a name or without -/
abbrev Clause := Value × Option (Nat × Str) × (Addr → Value → Option Addr → TS)
/-- a suite whose name goes at its end -/
def goesAt (i : Nat) (D : Ends) : Ends := { nx := fun σ' H' => D.nx (σ'.set i none) H', rt := D.rt, bk := fun σ' H' => D.bk (σ'.set i none) H', ct := fun σ' H' => D.ct (σ'.set i none) H' }
def runAt (io : Option (Nat × Str)) (ts : TS) (a : Addr) (D : Ends) (σ : L2.St) (H : Hp) : Prop := match io with
  | none => ts D σ H
  | some (i, _) => ts (goesAt i D) (σ.set i (some (.ref a))) H
def wAll (K : Frag) (Wout : WX) (D : Ends) : List Clause → WX
  | [] => Wout
  | (c, io, ts) :: r => fun cls d σ H => ∃ b, PySem.W.exmOne K cls c = some b ∧ (b = true → ∀ a, H a = none → runAt io (ts a cls d) a D σ H) ∧ (b = false → wAll K Wout D r cls d σ H)
inductive HdsA (X : Cx) : List ExceptHandler → List Clause → Prop
  | nil : HdsA X [] []
  | bare {x : Str} {c : Value} {ts : Addr → Value → Option Addr → TS} {b₀ : Stmt} {suite : List Stmt} {np pos' : Pos} {hds : List ExceptHandler} {l : List Clause} (hc : Names X x c)
      (hsu : ∀ (a : Addr) (oe : Obj) (cls : Value) (d : Option Addr) (pn : List (Addr × Obj)), Zc cls d oe → (∃ vs, oe.data = .fields vs) → PSs (X.suite a ((a, oe) :: pn)) (b₀ :: suite) (ts a cls d)) (r : HdsA X hds l) :
      HdsA X (.ExceptHandler (some (.Name x np)) none (b₀ :: suite) pos' :: hds) ((c, none, ts) :: l)
  | named {x n : Str} {i : Nat} {c : Value} {ts : Addr → Value → Option Addr → TS} {b₀ : Stmt} {suite : List Stmt} {np pos' : Pos} {hds : List ExceptHandler} {l : List Clause} (hc : Names X x c) (hi : X.N[i]? = some n) (hln : X.env.kindOf n = some .local)
      (hsu : ∀ (a : Addr) (oe : Obj) (cls : Value) (d : Option Addr) (pn : List (Addr × Obj)), Zc cls d oe → (∃ vs, oe.data = .fields vs) → PSs (X.suite a ((a, oe) :: pn)) (b₀ :: suite) (ts a cls d)) (r : HdsA X hds l) :
      HdsA X (.ExceptHandler (some (.Name x np)) (some n) (b₀ :: suite) pos' :: hds) ((c, some (i, n), ts) :: l)
section
variable {X : Cx} {body : List Stmt} {h₀ : ExceptHandler} {hds : List ExceptHandler} {l : List Clause} {pos : Pos} {tb : WX → TS} {Wout : WX}
theorem ps_try_all (hs : X.stack = X.env :: X.outer) (hf : X.env.frame = some X.env.locals) (hN : X.N.Nodup) (tk : Takes X Wout)
    (hb : ∀ (W : WX) (pn : List (Addr × Obj)) (xe : Value → Shared → Prop), Takes (X.tr pn xe) W → PassesOwn (model X.prog X.w) X.A X.env xe → PSs (X.tr pn xe) body (tb W))
    (hh : HdsA X (h₀ :: hds) l) : PS X (.Try body (h₀ :: hds) [] [] pos) (fun D σ H => tb (wAll X.K Wout D l) D σ H) := by
  refine ⟨fun pins s σ H D I h => ?_⟩
  have ok := I.ok
  have hfr : X.A.frames = some (X.env :: X.outer) := by rw [ok.frames, hs]
  refine wpAny_Try_except ?_
  refine wpAny_mono ((hb (wAll X.K Wout D l) (X.pn ++ pins) (fun e s₁ => wpAny (model X.prog X.w) X.A (noteFrame e X.env) (fun _ s₂ => wpAny (model X.prog X.w) X.A (setFlight e none) (fun _ s₃ =>
    wpAny (model X.prog X.w) X.A (handleBy e X.env (h₀ :: hds)) (SP X pins D) X.xe s₃) X.xe s₂) X.xe s₁) (fun u s' xx => ?_) PassesOwn.looking).run [] s σ H D (I.toTry _) h) (fun f s1 hsp => ?_) (fun e s1 he => he)
  · -- an exception of the body: it lands, the clauses are asked
    obtain ⟨a, B, sI, pins', σ', H', cls, d, rfl, J', nb, up, sky, na, os, ag, w⟩ := xx
    have J : Inv X pins σ' H' sI := J'.ofTry ok
    have sky' : Sky B (X.env :: X.outer) a (Zc cls d) X.env.locals s'.heap := by rw [← hs]; exact sky
    show wpAny (model X.prog X.w) X.A (noteFrame (.ref a) X.env) _ _ _
    refine Sky.land Zc.steady hfr hf sky' fun h3 fl3 up3 => ?_
    have J3 : Inv X pins σ' H' { s' with heap := h3 } := J.landed nb fl3.1 (up.trans up3) os ag
    obtain ⟨oe3, vs3, he3, hz3, hd3⟩ := fl3.there
    have nfr : a ∉ frs (X.env :: X.outer) := fun hm => by
      obtain ⟨_, o', e', hnf⟩ := fl3.2.2.1.mem hm
      rw [he3] at e'; cases e'
      exact hnf _ hd3
    have nL : a ≠ X.env.locals := fun z => nfr (List.mem_filterMap.mpr ⟨X.env, List.mem_cons_self, by rw [hf, z]⟩)
    have nF : a ∉ X.fs := fun hm => by
      obtain ⟨e, he, q⟩ := List.mem_filterMap.mp hm
      exact nfr (List.mem_filterMap.mpr ⟨e, List.mem_cons_of_mem _ he, q⟩)
    have S3 := J3.suite he3 hd3 na nL nF
    have LT : PySem.W.Looks (model X.prog X.w) h3 (typeOf (.ref a)) cls := fun A Q E s k q => wpAny_typeOf_ref (k _ _ he3) (by rw [hz3.1]; exact q)
    have test : ∀ {x : Str} {c : Value} {np : Pos} {Q : Value → Shared → Prop} {E : Value → Shared → Prop}, Names X x c → Q c { s' with heap := h3 } → wpAny (model X.prog X.w) (X.A.mark (some (.ref a))) (eval (.Name x np) X.env) Q E { s' with heap := h3 } := fun {x c np Q E} hc q => by
      obtain ⟨hg, hdbg, hm | ⟨hm, hv, hnn⟩⟩ := hc
      · exact ld_glob (X := X.suite a ((a, oe3) :: (X.pn ++ pins))) S3 hg hm q hdbg
      · exact ld_blt (X := X.suite a ((a, oe3) :: (X.pn ++ pins))) S3 hg hm hv q hnn hdbg
    have go : ∀ {hds' : List ExceptHandler} {l' : List Clause}, HdsA X hds' l' → wAll X.K Wout D l' cls d σ' H' → wpAny (model X.prog X.w) X.A (handleBy (.ref a) X.env hds') (SP X pins D) X.xe { s' with heap := h3 } := by
      intro hds' l' hk
      induction hk with
      | nil =>
        intro w
        refine wpAny_handleBy_nil ?_
        obtain ⟨k1, k2, k3, oe, vs, T, oT, ts', he, hz, hd, h1, hr⟩ := id fl3
        unfold PySem.passOn
        refine wpAny_bind (wpAny_field he hd h1 ?_)
        rw [if_neg (show ¬ ((Value.ref T == Value.none) = true) from by simp)]
        have fin : wpAny (model X.prog X.w) X.A (setFlight (.ref a) X.env.frame) (fun _ s4 => wpAny (model X.prog X.w) X.A (throw (.ref a) : Sem Flow) (SP X pins D) X.xe s4) X.xe { s' with heap := h3 } := by
          rw [hf]
          refine HandSPX.setFlight_upZ fl3 fun h4 hh4 up4 => wpAny_throw (tk _ _ ?_)
          exact ⟨a, B, sI, pins, σ', H', cls, d, rfl, J, nb, (up.trans up3).trans up4, .inr (.inr (by rw [hs]; exact hh4)), na, os, ag, w⟩
        first
          | exact wpAny_bind (wpAny_pure (wpAny_bind fin))
          | exact wpAny_bind fin
      | @bare x c ts b₀ suite np pos' hds2 l2 hc hsu r ih =>
        rintro ⟨b, hb1, hyes, hno⟩
        refine wpAny_handleBy_cons (codeAny_handlers_test ?_) (by intro q; cases q)
        refine test hc ((PySem.W.exm_one (M := model X.prog X.w) (J3.kIn) LT hb1).here ?_)
        cases b with
        | false =>
          show wpAny _ X.A (handleBy (.ref a) X.env hds2) _ _ _
          exact ih (hno rfl)
        | true =>
          refine codeAny_handlers_suite ?_
          refine HandSPX.lands_againZ fl3 fun h4 fl4 up4 => ?_
          have J4 : Inv X pins σ' H' { s' with heap := h4 } := J.landed nb fl4.1 ((up.trans up3).trans up4) os ag
          obtain ⟨oe4, vs4, he4, hz4, hd4⟩ := fl4.there
          have S4 := J4.suite he4 hd4 na nL nF
          refine wpAny_mono ((hsu a oe4 cls d (X.pn ++ pins) hz4 ⟨_, hd4⟩).run [] _ _ H' _ S4 (hyes rfl a na)) (fun f s6 hsp => ?_) (fun _ _ z => False.elim z)
          cases f with
          | next => obtain ⟨σ6, H6, S6, q6⟩ := hsp; exact ⟨_, _, S6.unsuite ok, q6⟩
          | brk => obtain ⟨σ6, H6, S6, q6⟩ := hsp; exact ⟨_, _, S6.unsuite ok, q6⟩
          | cont => obtain ⟨σ6, H6, S6, q6⟩ := hsp; exact ⟨_, _, S6.unsuite ok, q6⟩
          | ret u => obtain ⟨v6, σ6, H6, S6, r6, q6⟩ := hsp; exact ⟨_, _, _, S6.unsuite ok, r6, q6⟩
      | @named x n i c ts b₀ suite np pos' hds2 l2 hc hi hln hsu r ih =>
        rintro ⟨b, hb1, hyes, hno⟩
        refine wpAny_handleBy_cons (codeAny_handlers_test ?_) (by intro q; cases q)
        refine test hc ((PySem.W.exm_one (M := model X.prog X.w) (J3.kIn) LT hb1).here ?_)
        cases b with
        | false =>
          show wpAny _ X.A (handleBy (.ref a) X.env hds2) _ _ _
          exact ih (hno rfl)
        | true =>
          refine codeAny_handlers_suite_as ?_
          refine HandSPX.lands_againZ fl3 fun h4 fl4 up4 => ?_
          have J4 : Inv X pins σ' H' { s' with heap := h4 } := J.landed nb fl4.1 ((up.trans up3).trans up4) os ag
          obtain ⟨oe4, vs4, he4, hz4, hd4⟩ := fl4.there
          have S4 := J4.suite he4 hd4 na nL nF
          refine store_ok (X := X.suite a ((a, oe4) :: (X.pn ++ pins))) (v := .ref a) S4 hN hi (.inl hln) rfl (fun s5 S5 => ?_) (.inr hln)
          refine wpAny_mono ((hsu a oe4 cls d (X.pn ++ pins) hz4 ⟨_, hd4⟩).run [] s5 _ H' _ S5 (hyes rfl a na)) (fun f s6 hsp => ?_) (fun _ _ z => False.elim z)
          have gone : ∀ {σ6 : L2.St} {H6 : Hp} {Q : Shared → Prop}, Inv (X.suite a ((a, oe4) :: (X.pn ++ pins))) [] σ6 H6 s6 → (∀ s7, Inv X pins (σ6.set i none) H6 s7 → Q s7) →
              wpAny (model X.prog X.w) X.A (do bindName X.env n .none; unbindBehindTheSuite X.env n pos') (fun _ s7 => Q s7) X.xe s6 := fun {σ6 H6 Q} S6 hq => gone_ok (S6.unsuite ok) hN hi hln hq
          cases f with
          | next => obtain ⟨σ6, H6, S6, q6⟩ := hsp; exact gone S6 fun s7 J7 => ⟨_, _, J7, q6⟩
          | brk => obtain ⟨σ6, H6, S6, q6⟩ := hsp; exact gone S6 fun s7 J7 => ⟨_, _, J7, q6⟩
          | cont => obtain ⟨σ6, H6, S6, q6⟩ := hsp; exact gone S6 fun s7 J7 => ⟨_, _, J7, q6⟩
          | ret u => obtain ⟨v6, σ6, H6, S6, r6, q6⟩ := hsp; exact gone S6 fun s7 J7 => ⟨_, _, _, J7, r6, q6⟩
    exact go hh w
  · cases f with
    | next => obtain ⟨σ', H', J', q⟩ := hsp; exact wpAny_execs_nil ⟨σ', H', J'.ofTry ok, q⟩
    | brk => obtain ⟨σ', H', J', q⟩ := hsp; exact ⟨σ', H', J'.ofTry ok, q⟩
    | cont => obtain ⟨σ', H', J', q⟩ := hsp; exact ⟨σ', H', J'.ofTry ok, q⟩
    | ret u => obtain ⟨v, σ', H', J', r, q⟩ := hsp; exact ⟨v, σ', H', J'.ofTry ok, r, q⟩
end

/-! ### over data -/
/-- a part of what an except suite returns: a text, a field of the error -/
inductive Part where
  | txt (s : Str)
  | fld (f : Str)
def partV (fs : List (Str × D)) : Part → Option D
  | .txt s => some (.str s)
  | .fld f => fs.lookup f
def partsV (fs : List (Str × D)) : List Part → Option (List D)
  | [] => some []
  | p :: r => match partV fs p, partsV fs r with
    | some d, some ds => some (d :: ds)
    | _, _ => none
/-- an except clause: which errors are its own, where its name stands, what it returns -/
structure HC where
  mt : Str → Option Bool
  slot : Nat
  parts : List Part
def suiteR (parts : List Part) (fs : List (Str × D)) : Option Out := match partsV fs parts with
  | some ds => if noRefs ds = true ∧ ds.length ≤ sizeLine then some (.rt (.val (.tup ds))) else none
  | none => none
def handleD (c : Str) (fs : List (Str × D)) (ρ : Rho) (h : List Cell) : List HC → Option Out
  | [] => some (.exc c fs ρ h)
  | k :: r => match k.mt c with
    | some true => if k.slot < ρ.length then suiteR k.parts fs else none
    | some false => handleD c fs ρ h r
    | none => none
def sTry (f : Sm) (l : List HC) : Sm := fun ρ h => match f ρ h with
  | some (.exc c fs ρ' h') => handleD c fs ρ' h' l
  | o => o
theorem Env1.forget {K : Frag} {F : Hp} {φ : List Addr} {σ : St} {ρ : Rho} (e : Env1 K F φ σ ρ) (i : Nat) (v : Option V) : Env1 K F φ (σ.set i v) (ρ.set i none) := by
  refine ⟨by rw [List.length_set, List.length_set, e.len], fun j d q => ?_⟩
  by_cases hij : i = j
  · subst hij
    by_cases hl : i < ρ.length
    · rw [List.getElem?_set_self hl] at q; cases q
    · rw [List.getElem?_eq_none (by rw [List.length_set]; omega)] at q; cases q
  · rw [List.getElem?_set_ne hij] at q ⊢
    exact e.at_ j d q
theorem reps_look {K : Frag} {F : Hp} {φ : List Addr} {f : Str} {d : D} : ∀ {fvs : List (Str × V)} {fs : List (Str × D)}, fvs.map (·.1) = fs.map (·.1) → Reps K F φ (fvs.map (·.2)) (fs.map (·.2)) → fs.lookup f = some d → ∃ v, fvs.lookup f = some v ∧ Rep K F φ v d
  | [], [], _, _, h => by cases h
  | (a, v) :: fvs, (b, e) :: fs, hk, hr, h => by
    rw [List.map_cons, List.map_cons] at hk
    obtain ⟨h1, h2⟩ := List.cons.inj hk
    have h1 : a = b := h1
    subst h1
    rw [List.lookup_cons] at h ⊢
    cases hr with
    | cons r t =>
      cases q : f == a with
      | true => rw [q] at h; cases Option.some.inj h; exact ⟨v, rfl, r⟩
      | false => rw [q] at h; exact reps_look h2 t h
/-- the parts in the text -/
inductive PartsAt (n : Str) : List Expr → List Part → Prop
  | nil : PartsAt n [] []
  | txt {s : Str} {j : Nat} {p : Pos} {es : List Expr} {ps : List Part} (r : PartsAt n es ps) : PartsAt n (.Constant (.str s) j p :: es) (.txt s :: ps)
  | fld {f : Str} {p p' : Pos} {es : List Expr} {ps : List Part} (r : PartsAt n es ps) : PartsAt n (.Attribute (.Name n p') f p :: es) (.fld f :: ps)
def fldsOf : List Part → List Str
  | [] => []
  | .txt _ :: r => fldsOf r
  | .fld f :: r => f :: fldsOf r
section
variable {X : Cx} {F0 H0 : Hp} {n : Str} {i : Nat} {es : List Expr} {ps : List Part} {k : Nat} {pos pos' : Pos}
/-- an error's class, as its fields are read -/
def FldsOk (X : Cx) (ps : List Part) (mt : Str → Option Bool) : Prop := ∀ c cls, X.mg c = some cls → mt c = some true → ∃ C, cls = .ref C ∧ XfC X.K C ∧ ∀ f ∈ fldsOf ps, PySem.W.findIn X.K (.ref C) f = some none
def tPts (K : Frag) (mg : Str → Option Value) (mt : Str → Option Bool) (i : Nat) (ps : List Part) (a : Addr) (cls : Value) (dx : Option Addr) : TA := fun σ H Q => ∃ F φ c fs ds, (∀ a o, F a = some o → H a = some o) ∧ σ[i]? = some (some (.ref a)) ∧ mt c = some true ∧ ExcAt K mg F φ cls dx c fs ∧ partsV fs ps = some ds ∧ ∀ vs, Reps K F φ vs ds → Q vs H
theorem pa_parts {mt : Str → Option Bool} (hN : X.N[i]? = some n) (hv : Vis X.env.scope n) (hd : (n == ("__debug__" : Str)) = false) (hcd : (n == ("__classdict__" : Str)) = false) {a : Addr} {oe : Obj} {cls : Value} {d : Option Addr} {pn : List (Addr × Obj)} (hz : Zc cls d oe) (hf : ∃ vs, oe.data = .fields vs) (h : PartsAt n es ps)
    (hX : FldsOk X ps mt) : PA (X.suite a ((a, oe) :: pn)) es (tPts X.K X.mg mt i ps a cls d) := by
  induction h with
  | nil =>
    refine pa_nil.weak fun σ H Q q => ?_
    obtain ⟨F, φ, c, fs, ds, hs, hi, hm, hx, hp, q⟩ := q
    cases Option.some.inj (show some ([] : List D) = some ds from hp)
    exact q [] .nil
  | @txt s j p es ps r ih =>
    refine (pa_cons (pe_str (X := X.suite a ((a, oe) :: pn))) (ih hX) rfl).weak fun σ H Q q => ?_
    obtain ⟨F, φ, c, fs, ds, hs, hi, hm, hx, hp, q⟩ := q
    have hp : (match some (D.str s), partsV fs ps with | some d, some ds => some (d :: ds) | _, _ => none) = some ds := hp
    cases h1 : partsV fs ps with
    | none => rw [h1] at hp; cases hp
    | some ds1 =>
      rw [h1] at hp
      cases Option.some.inj hp
      exact ⟨F, φ, c, fs, ds1, hs, hi, hm, hx, h1, fun vs rs => q _ (.cons (.str s) rs)⟩
  | @fld f p p' es ps r ih =>
    by_cases hc : ∃ c, X.mg c = some cls ∧ mt c = some true
    · obtain ⟨c0, hc0, hm0⟩ := hc
      obtain ⟨C, rfl, T, hno⟩ := hX c0 cls hc0 hm0
      have pv : PE (X.suite a ((a, oe) :: pn)) (.Name n p') (tVar i) := pe_var (X := X.suite a ((a, oe) :: pn)) hN hv hd hcd
      refine (pa_cons (pe_xf T (hno f List.mem_cons_self) hz hf pv rfl) (ih fun c cls h1 h2 => by
        obtain ⟨C2, e, T2, h3⟩ := hX c cls h1 h2
        exact ⟨C2, e, T2, fun g hg => h3 g (List.mem_cons_of_mem _ hg)⟩) rfl).weak fun σ H Q q => ?_
      obtain ⟨F, φ, c, fs, ds, hs, hi, hm, hx, hp, q⟩ := q
      have hp : (match fs.lookup f, partsV fs ps with | some d, some ds => some (d :: ds) | _, _ => none) = some ds := hp
      cases h2 : fs.lookup f with
      | none => rw [h2] at hp; cases hp
      | some dd =>
        cases h1 : partsV fs ps with
        | none => rw [h2, h1] at hp; cases hp
        | some ds1 =>
          rw [h2, h1] at hp
          cases Option.some.inj hp
          obtain ⟨hx1, ⟨rfl, _⟩ | ⟨b, fvs, rfl, hb, hk, hr⟩⟩ := id hx
          · cases h2
          · obtain ⟨v, hl, rv⟩ := reps_look hk hr h2
            exact ⟨_, hi, rfl, rfl, b, fvs, v, rfl, hs _ _ hb, hl, F, φ, c, fs, ds1, hs, hi, hm, hx, h1, fun vs rs => q _ (.cons rv rs)⟩
    · refine ⟨fun pos pins s σ H Q I q => ?_⟩
      obtain ⟨F, φ, c, fs, ds, hs, hi, hm, hx, hp, q⟩ := q
      exact absurd ⟨c, hx.1, hm⟩ hc
/-- the reading of a suite that returns parts: a the caught error, in slot i -/
def tSu (K : Frag) (mg : Str → Option Value) (F0 H0 : Hp) (k : HC) : Addr → Value → Option Addr → TS := fun a cls dx E σ H => ∃ F φ c fs o, Ext F0 H0 F H ∧ σ[k.slot]? = some (some (.ref a)) ∧ k.mt c = some true ∧ ExcAt K mg F φ cls dx c fs ∧ suiteR k.parts fs = some o ∧ WantS K mg F0 H0 (fun _ _ _ _ => False) [] F E o
theorem dss_parts {hc : HC} (hN : X.N[hc.slot]? = some n) (hv : Vis X.env.scope n) (hd : (n == ("__debug__" : Str)) = false) (hcd : (n == ("__classdict__" : Str)) = false) {a : Addr} {oe : Obj} {cls : Value} {d : Option Addr} {pn : List (Addr × Obj)} (hz : Zc cls d oe) (hf : ∃ vs, oe.data = .fields vs) (h : PartsAt n es hc.parts)
    (hX : FldsOk X hc.parts hc.mt) : PSs (X.suite a ((a, oe) :: pn)) [.Return (some (.Tuple es k pos)) pos'] (tSu X.K X.mg F0 H0 hc a cls d) := by
  refine (pss_one (ps_ret (pe_tup (pa_parts hN hv hd hcd hz hf h hX)))).weak fun E σ H q => ?_
  obtain ⟨F, φ, c, fs, o, ex, hi, hm, hx, hs, want⟩ := q
  unfold suiteR at hs
  cases h1 : partsV fs hc.parts with
  | none => rw [h1] at hs; cases hs
  | some ds =>
    rw [h1] at hs
    have hs : (if noRefs ds = true ∧ ds.length ≤ sizeLine then some (Out.rt (.val (.tup ds))) else none) = some o := hs
    split at hs
    · rename_i hz
      cases Option.some.inj hs
      refine ⟨F, φ, c, fs, ds, ex.sub, hi, hm, hx, h1, fun vs rs => ⟨by rw [rs.length]; exact hz.2, fun p hp => ?_⟩⟩
      have e2 := Ext.new (o := .tup vs) ex.sub hp
      exact want _ _ _ (ex.trans e2) (.tup (SqT.of upd_same) ((rs.noRefs hz.1).up e2.up))
    · cases hs
/-- the clauses, over data -/
inductive ClsD (X : Cx) (F0 H0 : Hp) : List Clause → List HC → Prop
  | nil : ClsD X F0 H0 [] []
  | cons {c : Value} {n : Str} {k : HC} {cl : List Clause} {l : List HC} (hm : ∀ cn cls b, X.mg cn = some cls → k.mt cn = some b → PySem.W.exmOne X.K cls c = some b) (r : ClsD X F0 H0 cl l) :
      ClsD X F0 H0 ((c, some (k.slot, n), tSu X.K X.mg F0 H0 k) :: cl) (k :: l)
theorem handle_ok {W : WX} {cl : List Clause} {l : List HC} {E : Ends} {c : Str} {fs : List (Str × D)} {ρ1 : Rho} {hh : List Cell} {o : Out} {φ : List Addr} {F : Hp} (hc : ClsD X F0 H0 cl l) (hk : handleD c fs ρ1 hh l = some o) (want : WantS X.K X.mg F0 H0 W φ F E o)
    {cls : Value} {dx : Option Addr} {φ1 : List Addr} {F1 H1 : Hp} {σ1 : L2.St} (n1 : Rn X.K F0 H0 φ1 hh F1 H1 σ1 ρ1) (u1 : Up φ F φ1 F1) (xx : ExcAt X.K X.mg F1 φ1 cls dx c fs) : wAll X.K W E cl cls dx σ1 H1 := by
  induction hc with
  | nil =>
    cases Option.some.inj (show some (Out.exc c fs ρ1 hh) = some o from hk)
    exact want cls dx φ1 F1 H1 σ1 n1 u1 xx
  | @cons cv nn kk cl' l' hm r ih =>
    have hk : (match kk.mt c with | some true => if kk.slot < ρ1.length then suiteR kk.parts fs else none | some false => handleD c fs ρ1 hh l' | none => none) = some o := hk
    cases h2 : kk.mt c with
    | none => rw [h2] at hk; cases hk
    | some b =>
      rw [h2] at hk
      refine ⟨b, hm c cls b xx.1 h2, fun hb a ha => ?_, fun hb => ?_⟩
      · subst hb
        have hk : (if kk.slot < ρ1.length then suiteR kk.parts fs else none) = some o := hk
        split at hk
        · rename_i hi
          refine ⟨F1, φ1, c, fs, o, n1.x, List.getElem?_set_self (by rw [← n1.e.len]; exact hi), h2, xx, hk, ?_⟩
          unfold suiteR at hk
          split at hk
          · split at hk
            · cases Option.some.inj hk; exact want
            · cases hk
          · cases hk
        · cases hk
      · subst hb
        exact ih hk
theorem ds_try {W : WX} {body : List Stmt} {h₀ : ExceptHandler} {hds : List ExceptHandler} {cl : List Clause} {l : List HC} {f : Sm} (hs : X.stack = X.env :: X.outer) (hf : X.env.frame = some X.env.locals) (hN : X.N.Nodup) (tk : Takes X W)
    (hb : ∀ (W : WX) (pn : List (Addr × Obj)) (xe : Value → Shared → Prop), Takes (X.tr pn xe) W → PassesOwn (model X.prog X.w) X.A X.env xe → PSs (X.tr pn xe) body (tS X.K X.mg F0 H0 W f))
    (hh : HdsA X (h₀ :: hds) cl) (hc : ClsD X F0 H0 cl l) : PS X (.Try body (h₀ :: hds) [] [] pos) (tS X.K X.mg F0 H0 W (sTry f l)) := by
  refine (ps_try_all (tb := fun W => tS X.K X.mg F0 H0 W f) hs hf hN tk hb hh).weak fun E σ H q => ?_
  obtain ⟨φ, h, F, ρ, o, n, hf, want⟩ := q
  unfold sTry at hf
  cases h1 : f ρ h with
  | none => rw [h1] at hf; cases hf
  | some x =>
    rw [h1] at hf
    refine ⟨φ, h, F, ρ, x, n, h1, ?_⟩
    cases x with
    | nx ρ1 h1 => cases Option.some.inj hf; exact want
    | bk ρ1 h1 => cases Option.some.inj hf; exact want
    | ct ρ1 h1 => cases Option.some.inj hf; exact want
    | rt r => cases Option.some.inj hf; exact want
    | exc c fs ρ1 hh => exact fun cls dx φ1 F1 H1 σ1 n1 u1 xx => handle_ok hc hf want n1 u1 xx
end

/-! ### a def of the module keeps its promise -/
/-- the names at the entry -/
def startD (m : Nat) (ds : List D) : Rho := ds.map some ++ List.replicate (m - ds.length) none
def endD : Out → Option Rf
  | .nx _ _ => some (.val .non)
  | .rt (.exc _ _) => none
  | .rt r => some r
  | .exc c fs _ _ => if noRefs (fs.map (·.2)) = true then some (.exc c fs) else none
  | _ => none
/-- the function of a def: m names, its body -/
def fnOf (m : Nat) (f : Sm) : Fn := fun ds => (f (startD m ds) []).bind endD
theorem start_env {K : Frag} {F : Hp} {N : List Str} {vs : List V} {ds : List D} (r : Reps K F [] vs ds) : Env1 K F [] (L2.start N vs) (startD N.length ds) := by
  unfold L2.start startD
  rw [r.length]
  refine ⟨by simp [r.length], fun i d h => ?_⟩
  by_cases hi : i < ds.length
  · rw [List.getElem?_append_left (by simpa using hi)] at h
    rw [List.getElem?_append_left (by simpa [r.length] using hi)]
    rw [List.getElem?_map] at h ⊢
    obtain ⟨d', h1, h2⟩ := Option.map_eq_some_iff.mp h
    cases h2
    obtain ⟨v, h3, h4⟩ := r.get h1
    exact ⟨v, by rw [h3]; rfl, h4⟩
  · rw [List.getElem?_append_right (by simpa using hi)] at h
    obtain ⟨h1, h2⟩ := List.getElem?_eq_some_iff.mp h
    rw [List.getElem_replicate] at h2
    cases h2
section
variable {P : Program} {w : World} {K : Frag} {mg : Str → Option Value} {base : Heap} {x qual : Str} {params : Arguments} {body : List Stmt} {scope : Scope} {N ps : List Str} {f : Addr} {fd : FuncData} {fn : Fn} {k : Nat}
/-- the context of a body -/
abbrev bodyCx (P : Program) (w : World) (K : Frag) (mg : Str → Option Value) (base : Heap) (N : List Str) (qual : Str) (scope : Scope) (f : Addr) (cd : Value) (A : Around) (outer : List Env) (s : Shared) (H : Hp) (E : XK) : Cx := cxOf (L2.CX P w) P w K mg base N qual scope f cd A outer s H E
theorem fn_def {sm : Sm} (F : FunD K x qual params body scope [] [] f fd) (S : FnScope N ps scope)
    (hbody : ∀ (cdv : Value) (A : Around) (outer : List Env) (s : Shared) (F0 H : Hp) (E : XK), Room k (A.deeper (envOfC qual scope s.heap.objs.size f cdv)) →
      Takes (bodyCx P w K mg base N qual scope f cdv A outer s H E) (fun cls d _ H => E cls d H) → PSs (bodyCx P w K mg base N qual scope f cdv A outer s H E) body (tS K mg F0 H (fun cls d _ H => E cls d H) sm)) :
    FnOk P w K mg base (L2.CX P w) (k + 1) f fd ps (spD K mg ps.length (fnOf N.length sm)) := by
  refine F.ok S (fun vs H Q E h => spD_len vs H Q E h) (fun cdv A outer s H vs Q E hr h => ?_)
  obtain ⟨F0, ds, r, hs, hfl, rs, hl, hfn, want⟩ := h
  refine ⟨_, hbody cdv A outer s F0 H E hr (takes_of rfl rfl rfl rfl), ?_⟩
  unfold fnOf at hfn
  cases h1 : sm (startD N.length ds) [] with
  | none => rw [h1] at hfn; cases hfn
  | some o =>
    rw [h1] at hfn
    have hfn : endD o = some r := hfn
    have n0 : Rn K F0 H [] [] F0 H (L2.start N vs) (startD N.length ds) :=
      ⟨⟨hs, fun a z => by simp at z, List.nodup_nil, rfl, fun n xs z => by simp at z, hfl⟩, start_env rs, Ext.refl hs, fun a z => by simp at z⟩
    refine ⟨[], [], F0, _, o, n0, h1, ?_⟩
    cases o with
    | nx ρ h =>
      cases Option.some.inj hfn
      exact fun φ' F' H' σ' n _ => want .non F' H' n.x .non
    | bk ρ h => cases hfn
    | ct ρ h => cases hfn
    | rt rr =>
      cases rr with
      | exc c fs => cases hfn
      | val d => cases Option.some.inj hfn; exact want
      | lstF d => cases Option.some.inj hfn; exact want
    | exc c fs ρ h =>
      have hfn : (if noRefs (fs.map (·.2)) = true then some (Rf.exc c fs) else none) = some r := hfn
      split at hfn
      · rename_i hn
        cases Option.some.inj hfn
        intro cls dx φ' F' H' σ' n _ xx
        refine want cls dx F' H' n.x ?_
        obtain ⟨h2, h3 | ⟨a, fvs, h3, h4, h5, h6⟩⟩ := xx
        · exact ⟨h2, .inl h3⟩
        · exact ⟨h2, .inr ⟨a, fvs, h3, h4, h5, h6.noRefs hn⟩⟩
      · cases hfn
end
end DL

set_option Elab.async false
set_option linter.all false
set_option maxRecDepth 100000
/-! DLz: len(set(a tuple of texts)), written dicts, replace, enumerate over a tuple. -/
namespace DL
open PySem PySem.Spec PyProof.Rows L2

/-! ### the set of a tuple of texts -/
def metS : List Str → List Str → List Str
  | [], acc => acc
  | x :: xs, acc => metS xs (if acc.any (· == x) then acc else acc ++ [x])
/-- how many texts there are -/
def cntS (xs : List Str) : Nat := (metS xs []).length
theorem metS_append : ∀ (xs ys acc : List Str), metS (xs ++ ys) acc = metS ys (metS xs acc)
  | [], _, _ => rfl
  | x :: xs, ys, acc => metS_append xs ys _
theorem metS_len : ∀ (xs acc : List Str), (metS xs acc).length ≤ acc.length + xs.length
  | [], acc => Nat.le_refl _
  | x :: xs, acc => by
    have ih := metS_len xs (if acc.any (· == x) then acc else acc ++ [x])
    show (metS xs _).length ≤ _
    rw [List.length_cons]
    split at ih
    · rename_i h; rw [if_pos h]; omega
    · rename_i h; rw [if_neg h]; rw [List.length_append, List.length_singleton] at ih; omega
theorem metS_snoc (xs : List Str) (x : Str) : metS (xs ++ [x]) [] = if (metS xs []).any (· == x) then metS xs [] else metS xs [] ++ [x] := by
  rw [metS_append]; rfl
theorem metS_any (M : List Str) (z k : Str) : (M.any (· == k) || decide (k = z)) = (if M.any (· == z) then M else M ++ [z]).any (· == k) := by
  by_cases c : M.any (· == z) = true
  · rw [if_pos c]
    by_cases e : k = z
    · subst e; rw [c]; rfl
    · rw [decide_eq_false e, Bool.or_false]
  · rw [if_neg c, List.any_append]
    by_cases e : k = z
    · subst e; simp
    · have hb : (z == k) = false := by simpa [beq_iff_eq] using (fun q : z = k => e q.symm)
      rw [decide_eq_false e, List.any_cons, hb]; rfl
section
variable {prog : Program} {w : World} {A : Around} {R : Result → Shared → Prop} {I : Addr} {fp wr : List Addr} {G : Array GenState → Array GenState → Prop} {n : Nat} {P : Nat → Value → Prop} {St : Nat → Shared → Prop}
theorem loopTxt (W : WalksS prog w A.in1 I fp wr G n P St) (S : Addr) (hSf : S ∉ fp) (xs : List Str) (hsz : xs.length = n) (hb : n + 1 < scanBound) (hval : ∀ i v, P i v → ∃ t, v = .str (xs.getD i Str.empty) t) :
    ∀ (k i : Nat) (s : Shared), n - i = k → i ≤ n → St i s → s.heap.SetOf (PySem.strKind prog w) S (fun k' => (metS (xs.take i) []).any (· == k')) (metS (xs.take i) []).length →
      (∀ s', Moved (S :: wr) G s s' → s'.heap.SetOf (PySem.strKind prog w) S (fun k' => (metS xs []).any (· == k')) (metS xs []).length → R (.ok (.ret .none)) s') →
      codeAny (model prog w) A (.builtin "set.update.loop" ⟨[.ref S, .ref I], []⟩) R s := by
  have hSw : S ∉ wr := fun h => hSf (W.sub _ h)
  have hsub : ∀ b ∈ wr, b ∈ S :: wr := fun b hb => List.mem_cons_of_mem _ hb
  intro k
  induction k with
  | zero =>
    intro i s hk hi hst hS hR
    have hin : i = n := by omega
    subst hin
    refine codeAny_builtin PyProof.Rows.F.entry_set_update_loop ?_
    rw [Around.under_plainId PyProof.Rows.F.plain_set_update_loop _]
    show wpAny _ A.in1 (pyNext (.ref I) >>= _) _ _ s
    refine wpAny_bind (W.done s _ _ hst fun s' hm => ?_)
    show wpAny _ A.in1 (ret Value.none) _ _ s'
    rw [List.take_of_length_le (by omega)] at hS
    refine wpAny_pure (hR s' (hm.mono hsub) ?_)
    obtain ⟨o, es, ep, t, ho, rest⟩ := hS
    exact ⟨o, es, ep, t, hm.heap S _ hSw ho, rest⟩
  | succ k ih =>
    intro i s hk hi hst hS hR
    have hlt : i < n := by omega
    refine codeAny_builtin PyProof.Rows.F.entry_set_update_loop ?_
    rw [Around.under_plainId PyProof.Rows.F.plain_set_update_loop _]
    show wpAny _ A.in1 (pyNext (.ref I) >>= _) _ _ s
    refine wpAny_bind (W.item i s _ _ hlt hst fun v s' hP hst' hm => ?_)
    obtain ⟨t, rfl⟩ := hval i v hP
    have hS' : s'.heap.SetOf (PySem.strKind prog w) S (fun k' => (metS (xs.take i) []).any (· == k')) (metS (xs.take i) []).length := by
      obtain ⟨o, es, ep, tb, ho, rest⟩ := hS
      exact ⟨o, es, ep, tb, hm.heap S _ hSw ho, rest⟩
    show wpAny _ A.in1 (holding [Value.str (xs.getD i Str.empty) t] (setAdd S (.str (xs.getD i Str.empty) t)) >>= _) _ _ s'
    refine wpAny_bind (wpAny_holding ?_)
    unfold setAdd
    refine wpAny_holding ?_
    refine wpAny_bind ((PySem.strKind prog w).pyHash (k := xs.getD i Str.empty) (strKind_is _ _ _ _) ?_)
    have hroom : (metS (xs.take i) []).length + 1 < scanBound := by
      have h1 := metS_len (xs.take i) []
      rw [List.length_take, List.length_nil] at h1
      omega
    refine wpAny_setAddHashed_of (knd := PySem.strKind prog w) (s := { s' with toks := s'.toks + 1 }) (strKind_is _ _ _ _) rfl hS' hroom fun h' hsb hS2 => ?_
    have ex : xs.take (i + 1) = xs.take i ++ [xs.getD i Str.empty] := by
      have hi' : i < xs.length := by omega
      rw [List.take_succ_eq_append_getElem hi', List.getD_eq_getElem?_getD, List.getElem?_eq_getElem hi']; rfl
    have hSi : h'.SetOf (PySem.strKind prog w) S (fun k' => (metS (xs.take (i + 1)) []).any (· == k')) (metS (xs.take (i + 1)) []).length := by
      rw [ex, metS_snoc]
      refine SetOf_congr hS2 (fun k' => ?_) ?_
      · exact metS_any _ _ _
      · by_cases c : (metS (xs.take i) []).any (· == xs.getD i Str.empty) = true
        · rw [if_pos c, if_pos c]
        · rw [if_neg c, if_neg c, List.length_append, List.length_singleton]
    refine wpAny_pure ⟨plainId_quiet PyProof.Rows.F.plain_set_update_loop _, ih (i + 1) _ (by omega) hlt (W.frame _ s' _ _ hst' (Nat.le_succ _) fun b hb o e => ?_) hSi fun s'' hm'' hS'' => ?_⟩
    · rw [hsb.2 b (fun h : b = S => hSf (by rw [← h]; exact hb))]; exact e
    · refine hR s'' (Moved.trans W.gtrans ((hm.mono hsub).then_heap (Nat.le_succ _) fun b o hb e => ?_) hm'') hS''
      rw [hsb.2 b (fun h : b = S => hb (by rw [h]; exact List.mem_cons_self))]; exact e
end
section
variable {prog : Program} {w : World} {A : Around} {E : Value → Shared → Prop} {s : Shared}
set_option maxHeartbeats 3200000 in
theorem call_set_txt {l : Addr} {items : Array Value} {xs : List Str} {Q : Value → Shared → Prop}
    (hh : A.handled = none) (hl : s.heap.IsTuple l items) (hi : PyProof.Rows.StrsAre items.toList xs) (hb : xs.length + 1 < scanBound)
    (h : ∀ (h' : Heap) (tk : Nat), h'.SetOf (PySem.strKind prog w) s.heap.objs.size (fun k' => (metS xs []).any (· == k')) (cntS xs) →
      (∀ b o, b < s.heap.objs.size → s.heap.get? b = some o → h'.get? b = some o) → Q (.ref s.heap.objs.size) { s with heap := h', toks := tk }) :
    wpAny (model prog w) A (call (.type "set") [.ref l]) Q E s := by
  obtain ⟨c, tl, hmro⟩ := PySem.F.called_set.mro
  have hmade := PySem.F.called_set.made
  have hsub := PySem.F.called_set.sub
  refine wpAny_call (codeAny_of_tree ?_)
  show wpAny _ _ (callAny (.type "set") _) _ _ _
  refine wpAny_pure ⟨Code.quiet_builtin _ (by decide +kernel), codeAny_builtin PySem.F.entry_type_call ?_⟩
  rw [Around.under_plain (weight_type_call_type "set" [.ref l] []) rfl]
  have h1 := PySem.F.called_set.notType
  have h2 := PySem.F.called_set.canCreate
  have hct := PySem.F.typeCall_set_1 (.ref l)
  repeat (any_goals (first | assumption | wp_step))
  refine codeAny_mono (code_set_new_1 (.ref l) (E := E) (Q₁ := fun obj s₁ => ∃ led : Bool, obj = .ref s.heap.objs.size ∧ s₁ = { s with heap := s.heap.push { cls := .type "set", dict := none, data := .set #[] 0 (.fresh 0 0 led) } }) fun led => ⟨led, rfl, rfl⟩) fun r s₁ hr => ?_
  cases r with
  | error e => exact hr
  | ok fl =>
    cases fl with
    | ret obj =>
      obtain ⟨led, rfl, rfl⟩ := hr
      generalize hso : ({ cls := .type "set", dict := none, data := .set #[] 0 (.fresh 0 0 led) } : Obj) = so at *
      have hS : (s.heap.push so).get? s.heap.objs.size = some so := Heap.get?_push_size _ (by rw [← hso]; rfl)
      have hT : Shared.TypeIs { s with heap := s.heap.push so } (.ref s.heap.objs.size) "set" := ⟨_, hS, by rw [← hso]⟩
      have hli := PySem.F.called_set.init.lookup
      have hbi := PySem.F.called_set.init.bind (.ref s.heap.objs.size)
      repeat (any_goals (first | assumption | wp_step))
      refine codeAny_mono (codeAny_call_builtin (R := wants (fun r s₂ => r = .none ∧ ∃ h' tk, s₂ = { s with heap := h', toks := tk } ∧
          h'.SetOf (PySem.strKind prog w) s.heap.objs.size (fun k' => (metS xs []).any (· == k')) (cntS xs) ∧
          (∀ b o, b < s.heap.objs.size → s.heap.get? b = some o → h'.get? b = some o)) E) PySem.F.called_set.init.plain PySem.F.entry_set_init (check_set_init_1 hT ?_)) fun r₂ s₂ hr₂ => ?_
      · obtain ⟨ol, hol, hcl, nl, hdl⟩ := hl
        obtain ⟨ocls, odict, odata, oslots⟩ := ol
        simp only at hcl hdl
        subst hcl; subst hdl
        have hol' : (s.heap.push so).get? l = some { cls := .type "tuple", dict := odict, data := .seq items nl, slots := oslots } := Heap.get?_push_of_some _ hol
        have hsls := F.sub_tuple_set
        have hslf := F.sub_tuple_frozenset
        have hne : (Value.type "tuple" == Value.type "dict") = false := by decide
        have hl1 : (s.heap.push so).IsTuple l items := ⟨_, hol', rfl, nl, rfl⟩
        subst hso
        unfold Builtin.«set.__init__» noKeywords Builtin.Frozenset.updateFrom
        generalize hPI : pyIter = PI
        wp_walk
        subst hPI
        refine wpAny_pyIter_tuple hl1 ?_
        refine wpAny_bind (wpAny_runValue ?_)
        have hlS : l < s.heap.objs.size := Heap.lt_size hol
        have hh3 : A.in1.in1.in1.handled = none := by simp [hh]
        generalize hso : ({ cls := .type "set", dict := none, data := .set #[] 0 (.fresh 0 0 led) } : Obj) = so at *
        have hneI : l ≠ (s.heap.push so).objs.size := by
          rw [Heap.size_push]; exact Nat.ne_of_lt (Nat.lt_succ_of_lt hlS)
        have hSf : s.heap.objs.size ∉ [(s.heap.push so).objs.size, l] := by
          rw [Heap.size_push]; simp only [List.mem_cons, List.mem_singleton, List.not_mem_nil, or_false, not_or]
          exact ⟨Nat.ne_of_lt (Nat.lt_succ_self _), Nat.ne_of_gt hlS⟩
        have hsz : xs.length = items.size := by rw [← StrsAre.len_eq hi, Array.length_toList]
        have hval : ∀ (i : Nat) (v : Value), items[i]? = some v → ∃ t, v = .str (xs.getD i Str.empty) t := fun i v hv => SS.strs_at hi i v (by rw [Array.getElem?_toList]; exact hv)
        refine loopTxt ((Walks.tuple hh3 _ l hneI items).toS) s.heap.objs.size
          hSf xs hsz (by rw [← hsz]; exact hb) hval (items.size - 0) 0 _ (by omega) (Nat.zero_le _)
          ⟨⟨_, Heap.get?_push_size _ rfl, rfl, rfl⟩, (hl1.push _)⟩ ?hS0 ?hR
        case hS0 =>
          have hget : ((s.heap.push so).push { cls := .type "tuple_iterator", data := .fields #[.ref l, .int 0 0] }).get? s.heap.objs.size = some so := Heap.get?_push_of_some _ hS
          rw [← hso] at hget
          exact PyProof.Rows.SetOf_congr ((PyProof.Rows.setObjOf_fresh (knd := PySem.strKind prog w) led).setOf (by rw [← hso]; exact hget) (by unfold scanBound; omega)) (fun _ => rfl) rfl
        case hR =>
          intro s' hm hS'
          obtain ⟨h', g', d', tk', os'⟩ := s'
          have eg : g' = s.gens := hm.gens
          have ed : d' = s.drawn := hm.drawn
          have eo : os' = s.os := hm.os
          subst eg; subst ed; subst eo
          show wpAny _ _ _ _ _ _
          refine wpAny_pure ?_
          show wpAny _ _ (ret Value.none) _ _ _
          refine wpAny_pure ⟨rfl, h', tk', rfl, hS', fun b o hb e => ?_⟩
          have hb1 : b ≠ s.heap.objs.size := Nat.ne_of_lt hb
          have hb2 : b ≠ (s.heap.push so).objs.size := by
            rw [Heap.size_push]; exact Nat.ne_of_lt (Nat.lt_succ_of_lt hb)
          exact hm.heap b o (by simp only [List.mem_cons, List.mem_singleton, List.not_mem_nil, or_false, not_or]; exact ⟨hb1, hb2⟩) (Heap.get?_push_of_some _ (Heap.get?_push_of_some _ e))
      · cases r₂ with
        | error e => exact hr₂
        | ok fl₂ =>
          cases fl₂ with
          | ret r =>
            obtain ⟨rfl, h', tk, rfl, hS', hk'⟩ := hr₂
            repeat (any_goals (first | assumption | wp_step))
            exact h _ _ hS' hk'
          | _ => exact hr₂.elim
    | _ => exact hr.elim
end
end DL

set_option Elab.async false
set_option linter.all false
set_option maxRecDepth 100000
/-! DLw: len(set(..)), written dicts, replace, enumerate over a tuple: the rules over data. -/
namespace DL
open PySem PySem.Spec PyProof.Rows L2

section
variable {X : Cx} {W : WX} {a e : Expr} {f : Sx} {p p2 q pos : Pos}
/-! ### len(set(a)), a a tuple of texts -/
def lenSetD (d : D) : Option D := match d with
  | .tup xs => (match strsD xs with
    | some ys => if ys.length ≤ 1000 then some (.int (cntS ys : Nat)) else none
    | none => none)
  | _ => none
theorem lenSetD_inv {d r : D} (h : lenSetD d = some r) : ∃ xs ys, d = .tup xs ∧ strsD xs = some ys ∧ ys.length ≤ 1000 ∧ r = .int (cntS ys : Nat) := by
  unfold lenSetD at h
  split at h
  · split at h
    · split at h
      · rename_i hl
        exact ⟨_, _, rfl, by assumption, hl, (Option.some.inj h).symm⟩
      · cases h
    · cases h
  · cases h
def sLenSet (f : Sx) : Sx := fun ρ h => bnd (f ρ h) fun x => vok (lenSetD x)
theorem de_lenSet {x y : Str} (hx : x = ("len" : Str)) (hy : y = ("set" : Str)) (hc : X.calm = true) (hg : Gl X x) (hm : X.mg x = none) (hg2 : Gl X y) (hm2 : X.mg y = none) (ha : PE X a (tD X.K X.mg W f)) (hs : noStar a = true) :
    PE X (.Call (.Name x p) [.Call (.Name y p2) [a] [] q] [] pos) (tD X.K X.mg W (sLenSet f)) := by
  subst hx; subst hy
  have na : starEach [a] X.env = (false, eval a X.env) :: starEach [] X.env := starEach_cons hs
  refine ⟨fun pins s σ H Q I h => ?_⟩
  obtain ⟨φ, h, F, ρ, r, w, en, hf, want⟩ := h
  refine Call_ (ld_blt I hg hm boot_len ?_)
  refine PyProof.Rows.callWith_builtin1 (PyProof.Rows.args_cons ?_ rfl) rfl rfl
  refine Call_ (ld_blt I hg2 hm2 boot_set ?_)
  have run := ha.run pins s σ H (fun v H1 => ∃ l xs, v = .ref l ∧ SqT X.K H1 l (xs.map V.str) ∧ xs.length ≤ 1000 ∧ Q (.int (cntS xs : Nat)) H1) I (tD_step w en hf want fun d v F1 H1 e1 rv hk => by
    obtain ⟨dd, hd, rfl⟩ := vok_inv hk
    obtain ⟨xs, ys, rfl, h1, h2, rfl⟩ := lenSetD_inv hd
    cases rv with
    | @tup l vs _ hq rs =>
      rw [strsD_ok rs h1] at hq
      exact ⟨l, ys, rfl, SqT.mono (w.ext e1).sub hq, h2, want _ F1 H1 e1 (.int _)⟩)
  refine PyProof.Rows.callWith_type1 (PyProof.Rows.args_cons (thn run fun v s1 ⟨x, H1, I1, r1, q1⟩ => PyProof.Rows.args_nil ?_) na) na rfl
  obtain ⟨l, xs, rfl, hq, hl, q1⟩ := q1
  cases r1
  obtain ⟨its, rr, pl, hz⟩ := I1.tuple hq
  refine call_set_txt (I1.ok.hd hc) pl (by simpa using strsAre_of rr) (by unfold scanBound; omega) fun h' tk hS hk => ?_
  refine PyProof.Rows.args_nil ?_
  obtain ⟨o, es, ep, t, ho, hex, hd, _, _, hb, hf', hn⟩ := hS
  have I2 : Inv X pins σ H1 { s1 with heap := h', toks := tk } := I1.kept fun b o e => hk b o (Heap.lt_size e) e
  have hcl : cntS xs ≤ 1000 := by
    have z := metS_len xs []
    rw [List.length_nil, Nat.zero_add] at z
    exact Nat.le_trans z hl
  refine call_len_set ho hex hd hf' (by rw [hn]; omega) ⟨.int (cntS xs : Nat), H1, I2.tok _, ⟨_, by rw [hn]⟩, q1⟩

/-! ### a written dict -/
/-- what stands in it: texts and ints -/
def vD : D → V
  | .int i => .int i
  | .str x => .str x
  | .bl b => .bl b
  | _ => .non
def scD : D → Bool
  | .int _ => true
  | .str _ => true
  | .bl _ => true
  | .non => true
  | _ => false
theorem vD_rep {K : Frag} {F : Hp} {φ : List Addr} {d : D} (h : scD d = true) : Rep K F φ (vD d) d := by
  cases d with
  | int i => exact .int i
  | str x => exact .str x
  | bl b => exact .bl b
  | non => exact .non
  | _ => cases h
/-- the module's dict x: what it holds -/
structure DicOk (P : Program) (w : World) (K : Frag) (mg : Str → Option Value) (x : Str) (kd : List (Key × D)) : Prop where
  ex : ∃ a, mg x = some (.ref a) ∧ WDic P w K a (kd.map fun p => (p.1, vD p.2))
  sc : kd.all (fun p => scD p.2) = true
def lookK (kd : List (Key × D)) (k : Key) : Option D := (kd.find? fun p => decide (p.1 = k)).map (·.2)
def sDGet (kd : List (Key × D)) (f : Sx) : Sx := fun ρ h => bnd (f ρ h) fun d => match keyD d with
  | some k => vok (lookK kd k)
  | none => none
def sDIn (neg : Bool) (kd : List (Key × D)) (f : Sx) : Sx := fun ρ h => bnd (f ρ h) fun d => match keyD d with
  | some k => some (.ok (.bl (if neg then !(lookK kd k).isSome else (lookK kd k).isSome)))
  | none => none
theorem valV_look : ∀ (kd : List (Key × D)) (k : Key), valV (kd.map fun p => (p.1, vD p.2)) k = (lookK kd k).map vD
  | [], _ => rfl
  | p :: r, k => by
    have ih := valV_look r k
    unfold valV lookK at ih ⊢
    rw [List.map_cons, List.find?_cons, List.find?_cons]
    by_cases c : p.1 = k
    · simp [c]
    · simp only [c, decide_false]; exact ih
theorem lookK_mem {kd : List (Key × D)} {k : Key} {d : D} (h : lookK kd k = some d) : ∃ p ∈ kd, p.2 = d := by
  unfold lookK at h
  obtain ⟨p, h1, h2⟩ := Option.map_eq_some_iff.mp h
  exact ⟨p, List.mem_of_find?_eq_some h1, h2⟩
theorem de_dget {x : Str} {kd : List (Key × D)} {p : Pos} (Dc : DicOk X.prog X.w X.K X.mg x kd) (hg : Gl X x) (hdb : (x == ("__debug__" : Str)) = false) (he : PE X e (tD X.K X.mg W f)) (hs : noSlice e = true) : PE X (.Subscript (.Name x p) e pos) (tD X.K X.mg W (sDGet kd f)) := by
  obtain ⟨a, hm, hd⟩ := Dc.ex
  refine (pe_ix (ix_wdic hd) (pe_glob hg hm (v := .ref a) rfl hdb) he (plainIx_of hs)).weak fun σ H Q q => ?_
  obtain ⟨φ, h, F, ρ, r, w, en, hf, want⟩ := q
  refine tD_step w en hf want fun d v F1 H1 e1 rv hk => ?_
  cases hkd : keyD d with
  | none => rw [hkd] at hk; cases hk
  | some k =>
    rw [hkd] at hk
    obtain ⟨d', h1, rfl⟩ := vok_inv hk
    obtain ⟨pp, h2, h3⟩ := lookK_mem h1
    have hsc := List.all_eq_true.mp Dc.sc pp h2
    rw [h3] at hsc
    exact ⟨k, vD d', rfl, keyD_ok rv hkd, by rw [valV_look, h1]; rfl, want _ F1 H1 e1 (vD_rep hsc)⟩
theorem look_some (kd : List (Key × D)) (k : Key) : (valV (kd.map fun p => (p.1, vD p.2)) k).isSome = (lookK kd k).isSome := by
  rw [valV_look, Option.isSome_map]
theorem din_of {x : Str} {kd : List (Key × D)} {a : Addr} {neg : Bool} {σ : L2.St} {H : Hp} {Q : VK} (q : tD X.K X.mg W (sDIn neg kd f) σ H Q) :
    tOp (fun x y H Q => ∃ k, y = .ref a ∧ x = kV k ∧ Q (.bl (if neg then !(valV (kd.map fun p => (p.1, vD p.2)) k).isSome else (valV (kd.map fun p => (p.1, vD p.2)) k).isSome)) H) (tD X.K X.mg W f) (tC (.ref a)) σ H Q := by
  obtain ⟨φ, h, F, ρ, r, w, en, hf, want⟩ := q
  refine tD_step w en hf want fun d v F1 H1 e1 rv hk => ?_
  cases hkd : keyD d with
  | none => rw [hkd] at hk; cases hk
  | some k =>
    rw [hkd] at hk
    cases Option.some.inj hk
    refine ⟨k, rfl, keyD_ok rv hkd, ?_⟩
    rw [look_some]
    exact want _ F1 H1 e1 (.bl _)
theorem de_din {x : Str} {kd : List (Key × D)} {p : Pos} (Dc : DicOk X.prog X.w X.K X.mg x kd) (hg : Gl X x) (hdb : (x == ("__debug__" : Str)) = false) (he : PE X e (tD X.K X.mg W f)) : PE X (.Compare e [.In] [.Name x p] pos) (tD X.K X.mg W (sDIn false kd f)) := by
  obtain ⟨a, hm, hd⟩ := Dc.ex
  exact (pe_cmpR (in_wdic hd) he (pe_glob hg hm (v := .ref a) rfl hdb) rfl).weak fun σ H Q q => din_of (x := x) (a := a) q
theorem dt_din {x : Str} {kd : List (Key × D)} {p : Pos} (Dc : DicOk X.prog X.w X.K X.mg x kd) (hg : Gl X x) (hdb : (x == ("__debug__" : Str)) = false) (he : PE X e (tD X.K X.mg W f)) : PT X (.Compare e [.In] [.Name x p] pos) (tT X.K X.mg W (sDIn false kd f)) := by
  obtain ⟨a, hm, hd⟩ := Dc.ex
  exact (pt_cmpR (in_wdic hd) he (pe_glob hg hm (v := .ref a) rfl hdb) rfl).weak fun σ H Q => tTest_of fun σ H Q q => din_of (x := x) (a := a) q
theorem de_dnin {x : Str} {kd : List (Key × D)} {p : Pos} (Dc : DicOk X.prog X.w X.K X.mg x kd) (hg : Gl X x) (hdb : (x == ("__debug__" : Str)) = false) (he : PE X e (tD X.K X.mg W f)) : PE X (.Compare e [.NotIn] [.Name x p] pos) (tD X.K X.mg W (sDIn true kd f)) := by
  obtain ⟨a, hm, hd⟩ := Dc.ex
  exact (pe_cmpR (notIn_wdic hd) he (pe_glob hg hm (v := .ref a) rfl hdb) rfl).weak fun σ H Q q => din_of (x := x) (a := a) q
theorem dt_dnin {x : Str} {kd : List (Key × D)} {p : Pos} (Dc : DicOk X.prog X.w X.K X.mg x kd) (hg : Gl X x) (hdb : (x == ("__debug__" : Str)) = false) (he : PE X e (tD X.K X.mg W f)) : PT X (.Compare e [.NotIn] [.Name x p] pos) (tT X.K X.mg W (sDIn true kd f)) := by
  obtain ⟨a, hm, hd⟩ := Dc.ex
  exact (pt_cmpR (notIn_wdic hd) he (pe_glob hg hm (v := .ref a) rfl hdb) rfl).weak fun σ H Q => tTest_of fun σ H Q q => din_of (x := x) (a := a) q

/-! ### replace of written texts, behind a written text -/
def sRepl (f : Sx) (y z : Str) : Sx := fun ρ h => bnd (f ρ h) fun d => match d with
  | .str x => if x.length + (x.length + 1) * z.length ≤ 16777216 then some (.ok (.str (Txt.replace x y z))) else none
  | _ => none
theorem pet_repl {o : Expr} {y z : Str} {j k : Nat} {c0 c1 apos : Pos} (ho : PE X o (tD X.K X.mg W f)) (hyz : (y == z) = false) (hb : noSuper o = true) (hl : (apos.endLine == pos.line) = true) :
    PET X (.Call (.Attribute o "replace" apos) [.Constant (.str y) j c0, .Constant (.str z) k c1] [] pos) (tD X.K X.mg W (sRepl f y z)) := by
  have key := CwR.pet_replC (X := X) (y := y) (z := z) (j := j) (k := k) (c0 := c0) (c1 := c1) (apos := apos) (pos := pos) ho hyz rfl (base_of hb) hl
  intro pins s σ H Q h0 I q
  refine key pins s σ H Q h0 I ?_
  obtain ⟨φ, h, F, ρ, r, w, en, hf, want⟩ := q
  refine tD_step w en hf want fun d v F1 H1 e1 rv hk => ?_
  cases d with
  | str x =>
    have hk : (if x.length + (x.length + 1) * z.length ≤ 16777216 then some (Res.ok (.str (Txt.replace x y z))) else none) = some r := hk
    split at hk
    · rename_i hz
      cases Option.some.inj hk
      exact ⟨x, rv.str_inv, hz, want _ F1 H1 e1 (.str _)⟩
    · cases hk
  | _ => cases hk
/-- a written text, then what wants a token -/
theorem da_consT {x : Str} {j : Nat} {p : Pos} {es : List Expr} {g : Lx} (hr : PAT X es (tA X.K X.mg W g)) : PA X (.Constant (.str x) j p :: es) (tA X.K X.mg W (sCons (sCst (.str x)) g)) := by
  refine ⟨fun pos pins s σ H Q I q => ?_⟩
  rw [starEach_cons rfl]
  show wpAny _ _ (spliced ((false, eval _ X.env) :: backTo pos (starEach es X.env))) _ _ s
  refine Calls.spliced_cons (Calls.Constant_str ?_)
  have I1 : Inv X pins σ H { s with toks := s.toks + 1 } := I.tok _
  obtain ⟨φ, h, F, ρ, r, w, en, hf, want⟩ := q
  unfold sCons consL sCst at hf
  dsimp only at hf
  refine thn (hr pos pins _ σ H (fun vs H1 => Q (.str x :: vs) H1) (Nat.succ_le_succ (Nat.zero_le _)) I1 ?_) fun us s2 ⟨xs, H2, I2, r2, q2⟩ => ⟨.str x :: xs, H2, I2, .cons ⟨_, rfl⟩ r2, q2⟩
  cases h2 : g ρ h with
  | none => rw [h2] at hf; cases hf
  | some y =>
    rw [h2] at hf
    cases y with
    | exc c fs =>
      cases Option.some.inj hf
      exact ⟨φ, h, F, ρ, .exc c fs, w, en, h2, want⟩
    | ok ds =>
      cases Option.some.inj hf
      exact ⟨φ, h, F, ρ, .ok ds, w, en, h2, fun vs F2 H2 e2 rs => want _ F2 H2 e2 (.cons (.str x) rs)⟩
theorem dat_one (he : PET X e (tD X.K X.mg W f)) (hs : noStar e = true) : PAT X [e] (tA X.K X.mg W (sCons f sNil)) := by
  have key := pat_cons he (pat_nil (X := X)) (starEach_cons hs)
  intro pos pins s σ H Q h0 I q
  refine key pos pins s σ H Q h0 I ?_
  obtain ⟨φ, h, F, ρ, r, w, en, hf, want⟩ := q
  unfold sCons consL sNil at hf
  cases h1 : f ρ h with
  | none => rw [h1] at hf; cases hf
  | some x =>
    rw [h1] at hf
    cases x with
    | exc c fs =>
      cases Option.some.inj hf
      exact ⟨φ, h, F, ρ, .exc c fs, w, en, h1, want⟩
    | ok d =>
      cases Option.some.inj hf
      exact ⟨φ, h, F, ρ, .ok d, w, en, h1, fun v F1 H1 e1 rv => want _ F1 H1 e1 (.cons rv .nil)⟩
end

/-! ### enumerate(a tuple) -/
section
variable {prog : Program} {w : World} {A : Around} {E : Value → Shared → Prop} {s : Shared}
theorem nextOf_tup_item {it t : Addr} {i : Nat} {items : Array Value} {x : Value} {Q : Value → Shared → Prop} (hit : s.heap.IsTupleIter it t i) (ht : s.heap.IsTuple t items) (hx : items[i]? = some x)
    (hQ : ∀ h', h'.IsTupleIter it t (i + 1) → Heap.SameBut it s.heap h' → Q x { s with heap := h' }) : wpAny (model prog w) A (Builtin.SmallTypes.nextOf (.ref it)) Q E s := by
  obtain ⟨o, ho, hc, hd⟩ := id hit
  obtain ⟨ol, hol, _, nl, hdl⟩ := ht
  unfold Builtin.SmallTypes.nextOf
  refine wpAny_bind (wpAny_callSpecial?_slot (name := Str.ofString "__next__") hit.typeIs F.slot_tuple_iterator_next
    (wpAny_call_entry F.slot_tuple_iterator_next hit.typeIs F.entry_tuple_iterator_next ?_ (F.args_tuple_iterator_next_1 _)))
  show wpAny _ _ (field (.ref it) 0 >>= _) _ _ s
  refine wpAny_bind (wpAny_field ho hd (x := .ref t) rfl ?_)
  show wpAny _ _ (if (Value.ref t == Value.none) = true then _ else _) _ _ s
  rw [if_neg (show ¬ ((Value.ref t == Value.none) = true) from Bool.false_ne_true)]
  show wpAny _ _ (field (.ref it) 1 >>= _) _ _ s
  refine wpAny_bind (wpAny_field ho hd (x := .int i 0) rfl ?_)
  show wpAny _ _ (seqItems? (.ref t) >>= _) _ _ s
  refine wpAny_bind (wpAny_seqItems hol hdl ?_)
  simp only [Int.toNat_natCast, hx]
  refine wpAny_bind (wpAny_setField ho hd (by simp) (wpAny_pure ⟨x, rfl, wpAny_pure (hQ _ ?_ (Heap.SameBut.update ..))⟩))
  exact ⟨_, Heap.get?_update_self _ ho (Obj.isFreed_of_fields (Obj.data_mapFields hd _)), (Obj.cls_mapFields ..).trans hc, by
    rw [Obj.data_mapFields hd]; simp [rawInt]⟩
theorem nextOf_tup_end {it t : Addr} {i : Nat} {items : Array Value} {Q : Value → Shared → Prop} (hh : A.handled = none) (hit : s.heap.IsTupleIter it t i) (ht : s.heap.IsTuple t items) (hx : items[i]? = none)
    (hE : ∀ h' e, Heap.ExtBut it s.heap h' → (∃ o, h'.get? e = some o ∧ o.cls = .type "StopIteration") → E (.ref e) { s with heap := h' }) : wpAny (model prog w) A (Builtin.SmallTypes.nextOf (.ref it)) Q E s := by
  obtain ⟨o, ho, hc, hd⟩ := id hit
  obtain ⟨ol, hol, _, nl, hdl⟩ := ht
  unfold Builtin.SmallTypes.nextOf
  refine wpAny_bind (wpAny_callSpecial?_slot (name := Str.ofString "__next__") hit.typeIs F.slot_tuple_iterator_next
    (wpAny_call_entry F.slot_tuple_iterator_next hit.typeIs F.entry_tuple_iterator_next ?_ (F.args_tuple_iterator_next_1 _)))
  show wpAny _ _ (field (.ref it) 0 >>= _) _ _ s
  refine wpAny_bind (wpAny_field ho hd (x := .ref t) rfl ?_)
  show wpAny _ _ (if (Value.ref t == Value.none) = true then _ else _) _ _ s
  rw [if_neg (show ¬ ((Value.ref t == Value.none) = true) from Bool.false_ne_true)]
  show wpAny _ _ (field (.ref it) 1 >>= _) _ _ s
  refine wpAny_bind (wpAny_field ho hd (x := .int i 0) rfl ?_)
  show wpAny _ _ (seqItems? (.ref t) >>= _) _ _ s
  refine wpAny_bind (wpAny_seqItems hol hdl ?_)
  simp only [Int.toNat_natCast, hx]
  refine wpAny_bind (wpAny_rule (wpAny_bind (wpAny_setField ho hd (by simp) ?_)))
  show wpAny _ _ (newExc (.type "StopIteration") [] >>= _) _ _ _
  refine wpAny_bind ?_
  simp only [newExc, newTuple]
  refine wpAny_bind (wpAny_newObj_type ?_ (by size_fits))
  refine wpAny_bind (m := firstArgMember _ _) (wpAny_of_eq (a := Value.none) (by first | rfl | (simp only [firstArgMember]; rfl)) ?_)
  refine wpAny_newObj_type ?_ (by size_fits)
  simp only [raiseNew]
  refine wpAny_bind (wpAny_handled ?_)
  first | rw [show A.in1.handled = none from hh] | rw [hh]
  refine wpAny_bind (wpAny_pure (wpAny_throw ?_))
  exact hE _ _ (((Heap.SameBut.update ..).extBut.push _).push _) ⟨_, Heap.get?_push_size _ rfl, rfl⟩
end
theorem draws_tup {prog : Program} {w : World} {A : Around} (hh : A.handled = none) (it l : Addr) (hne : l ≠ it) (items : Array Value) :
    Draws prog w A it [it, l] items.size (fun i v => items[i]? = some v) (fun i h => h.IsTupleIter it l i ∧ h.IsTuple l items) where
  live := fun _ _ st => let ⟨o, ho, _⟩ := st.1; ⟨o, ho⟩
  frame := fun _ _ _ st hk => by
    refine ⟨st.1.at fun o e => hk it (by simp) o e, ?_⟩
    obtain ⟨o, ho, r⟩ := st.2
    exact ⟨o, hk l (by simp) o ho, r⟩
  item := fun i s Q E hi st hQ => by
    refine nextOf_tup_item st.1 st.2 (x := items[i]) (by simp [hi]) fun h' hit' hs' => ?_
    refine hQ _ h' s.toks (by simp [hi]) ⟨hit', ?_⟩ hs'
    obtain ⟨o, ho, r⟩ := st.2
    exact ⟨o, (hs'.2 l hne).trans ho, r⟩
  done := fun s Q E st hE => nextOf_tup_end hh st.1 st.2 (by simp) hE
theorem draws_tupE {prog : Program} {w : World} {A : Around} (hh : A.handled = none) (it l : Addr) {items : Array Value} {i : Nat} (hi : items[i]? = none) :
    Draws prog w A it [it, l] i (fun _ _ => True) (fun j h => j = i ∧ h.IsTupleIter it l j ∧ h.IsTuple l items) where
  live := fun _ _ st => let ⟨o, ho, _⟩ := st.2.1; ⟨o, ho⟩
  frame := fun _ _ _ st hk => by
    refine ⟨st.1, st.2.1.at fun o e => hk it (by simp) o e, ?_⟩
    obtain ⟨o, ho, r⟩ := st.2.2
    exact ⟨o, hk l (by simp) o ho, r⟩
  item := fun j s Q E hj st hQ => absurd hj (by rw [st.1]; exact Nat.lt_irrefl _)
  done := fun s Q E st hE => nextOf_tup_end hh st.2.1 st.2.2 hi hE
/-- the tuple at a, each item in a new pair -/
def IteT (K : Frag) (a : Addr) : It :=
  ⟨fun i H => ∃ (xs : List V) (x : V), SqT K H a xs ∧ xs[i]? = some x, fun i H v H' => ∃ T x, v = .ref T ∧ H T = none ∧ H' = upd H T (.tup [.int (i : Nat), x]) ∧ ∀ xs, SqT K H a xs → xs[i]? = some x, fun i H => ∃ xs : List V, SqT K H a xs ∧ xs.length ≤ i⟩
theorem turn_enumT {P : Program} {w : World} {K : Frag} {elts : List Expr} {kk : Nat} {tpos : Pos} (a e it : Addr) (hai : a ≠ it) (hae : a ≠ e) :
    Turn P w K (.Tuple elts kk tpos) (IteT K a) [e, it] e (fun i h => (∃ old, IsEnum h e it ((i : Nat) : Int) old) ∧ h.IsTupleIter it a i ∧ e ≠ it) where
  mem := by simp
  obj := fun i h st b hb => by
    obtain ⟨⟨old, he⟩, ⟨o, ho, hc, hd⟩, _⟩ := st
    have e' : b = e ∨ b = it := by simpa using hb
    rcases e' with z | z
    · rw [z]; exact ⟨_, he, fun v q => nomatch q⟩
    · rw [z]; exact ⟨o, ho, fun v q => by rw [hd] at q; cases q⟩
  keep := fun i h h' st k => let ⟨⟨old, he⟩, hi, hne⟩ := st; ⟨⟨old, k e (by simp) _ he⟩, hi.at fun o q => k it (by simp) o q, hne⟩
  item := by
    intro X hP hw hK hc i pins s σ H E I hf st hg
    subst hP hw hK
    obtain ⟨⟨old, he⟩, hit, hne⟩ := st
    obtain ⟨xs, x, hq, hx⟩ := hg
    obtain ⟨its, rv, pl, hz⟩ := I.tuple hq
    obtain ⟨u, hu, ru⟩ := rv.get hx
    have hel : e < s.heap.objs.size := Heap.lt_size he
    have hil : it < s.heap.objs.size := by obtain ⟨_, q, _⟩ := hit; exact Heap.lt_size q
    have hi : i < its.toArray.size := by rw [List.size_toArray]; exact (List.getElem?_eq_some_iff.mp hu).1
    refine wpAny_pyNext_enum_itemD (draws_tup (by have := I.ok.hd hc; simpa using this) it a hai its.toArray) he ⟨hit, pl⟩ hi hne (by simp [hne, Ne.symm hae]) fun v h' tk hv ho hst' hT hsz hk => ?_
    have hvu : v = u := by
      rw [← Array.getElem?_toList] at hv
      exact Option.some.inj (hv.symm.trans hu)
    subst hvu
    refine ⟨_, rfl, wpAny_letOwnedTupleGo_enum (s := { s with heap := h', toks := tk + 1 }) ho fun h'' he' sb => ?_⟩
    have hT2 : h''.get? s.heap.objs.size = some { cls := .type "tuple", data := .seq #[.int i tk, v] } := (sb.2 _ (Nat.ne_of_gt hel)).trans hT
    have new : ObjOk X.prog X.w (upd H s.heap.objs.size (.tup [.int (i : Nat), x])) h'' s.heap.objs.size (.tup [.int (i : Nat), x]) :=
      ⟨by show 2 ≤ sizeLine; decide, [.int i tk, v], .cons ⟨_, rfl⟩ (.cons ru .nil), ⟨_, hT2, rfl, _, rfl⟩⟩
    have I1 : Inv X pins σ (upd H s.heap.objs.size (.tup [.int (i : Nat), x])) { s with heap := h'', toks := tk + 1 } :=
      I.turnedNew (ch := [e, it]) (fun b ob hb q => (sb.2 b (fun z => hb (by simp [z]))).trans (hk b ob (fun z => hb (by simp [z])) (fun z => hb (by simp [z])) q)) hf (Nat.le_refl _) new
    refine ⟨.ref s.heap.objs.size, _, I1, rfl, ⟨_, x, rfl, I.hok.fresh (Nat.le_refl _), rfl, fun ys hy => by rw [I.tuple_inj hy hq]; exact hx⟩, ⟨⟨v, ?_⟩, hst'.1.at fun o q => (sb.2 it (Ne.symm hne)).trans q, hne⟩, fun b hb => ?_⟩
    · have e1 : ((i + 1 : Nat) : Int) = (i : Int) + 1 := by omega
      rw [e1]; exact he'
    · have hb' : b < s.heap.objs.size := by
        have e' : b = e ∨ b = it := by simpa using hb
        rcases e' with z | z
        · rw [z]; exact hel
        · rw [z]; exact hil
      rw [upd_ne (Nat.ne_of_lt hb')]
      exact (hf b hb).1
  done := by
    intro X hP hw hK hc i pins s σ H E I hf st hg
    subst hP hw hK
    obtain ⟨⟨old, he⟩, hit, hne⟩ := st
    obtain ⟨xs, hq, hx⟩ := hg
    obtain ⟨its, rv, pl, hz⟩ := I.tuple hq
    obtain ⟨f0, f1, f2, f3, f4, f5⟩ := hf it (by simp)
    have hl : its.toArray[i]? = none := by
      rw [← Array.getElem?_toList]
      exact List.getElem?_eq_none (by have := rv.length; simp; omega)
    exact wpAny_pyNext_enum_endD (draws_tupE (by have := I.ok.hd hc; simpa using this) it a hl) he ⟨rfl, hit, pl⟩ fun h' eb => ⟨rfl, I.turned (t' := s.toks) (fun b o hb q => eb b o hb q) f0 f1 f3 f4 f5⟩
  self := fun A i s Q E st h => let ⟨⟨_, he⟩, _⟩ := st; wpAny_pyIter_enum he h
theorem meets_enumT (l : Addr) (items : Array Value) (n : Nat) (dct : Option Addr) (sl : Array (Option Value)) :
    Meets (Builtin.«enumerate.__new__» ⟨[.type "enumerate", .ref l], []⟩) (fun _ R s => s.heap.get? l = some { cls := .type "tuple", dict := dct, data := .seq items n, slots := sl } ∧
      R (.ok (.ret (.ref (s.heap.push { cls := .type "tuple_iterator", data := .fields #[.ref l, .int 0 0] }).objs.size)))
        { s with heap := (s.heap.push { cls := .type "tuple_iterator", data := .fields #[.ref l, .int 0 0] }).push { cls := .type "enumerate", data := .fields #[.none, .bool false, .ref s.heap.objs.size, rawInt 0, .none, .none] } }) :=
  .of_wp fun prog w A R s h => by
    obtain ⟨hp, g, d, tk, os⟩ := s; obtain ⟨hl, h⟩ := h
    have hsub := sub_enumerate
    have hL : Heap.IsTuple (Shared.heap ⟨hp, g, d, tk, os⟩) l items := ⟨_, hl, rfl, n, rfl⟩
    wp_walk using AutoSeq1.wpAny_loadPart' hl
    refine wpAny_stack_any fun st => wpAny_pure ?_
    split
    · rename_i c _ _ _ _ _
      cases (c == Value.type "enumerate")
      · wp_walk using AutoSeq1.wpAny_loadPart' hl, wpAny_pyIter_tuple hL
        exact ⟨_, rfl, h⟩
      · wp_walk using AutoSeq1.wpAny_loadPart' hl, wpAny_pyIter_tuple hL
        exact ⟨_, rfl, h⟩
    · wp_walk using AutoSeq1.wpAny_loadPart' hl, wpAny_pyIter_tuple hL
      exact ⟨_, rfl, h⟩
section
variable {prog : Program} {w : World} {A : Around} {E : Value → Shared → Prop} {s : Shared}
theorem call_enumT {l : Addr} {items : Array Value} {Q : Value → Shared → Prop} (hL : s.heap.IsTuple l items)
    (h : ∀ h', IsEnum h' (s.heap.objs.size + 1) s.heap.objs.size 0 .none → h'.IsTupleIter s.heap.objs.size l 0 → (∀ b o, s.heap.get? b = some o → h'.get? b = some o) → Q (.ref (s.heap.objs.size + 1)) { s with heap := h' }) :
    wpAny (model prog w) A (call (.type "enumerate") [.ref l]) Q E s := by
  obtain ⟨⟨c, dct, dt, sl⟩, hl, hc, n, hd⟩ := hL
  replace hc : c = .type "tuple" := hc
  replace hd : dt = .seq items n := hd
  subst hc hd
  refine callType_new F.called_enumerate (by decide) (F.typeCall_enumerate_1 _) (F.newCall_enumerate_1 _) (fun obj => F.args_object_init_2 obj _) F.entry_enumerate_new (meets_enumT l items n dct sl) ⟨hl, ?_⟩
  have hz : (s.heap.push { cls := .type "tuple_iterator", data := .fields #[.ref l, .int 0 0] }).objs.size = s.heap.objs.size + 1 := Heap.size_push ..
  show _ ∧ _
  rw [hz]
  have he : IsEnum ((s.heap.push { cls := .type "tuple_iterator", data := .fields #[.ref l, .int 0 0] }).push { cls := .type "enumerate", data := .fields #[.none, .bool false, .ref s.heap.objs.size, rawInt 0, .none, .none] }) (s.heap.objs.size + 1) s.heap.objs.size 0 .none := by
    have q := Heap.get?_push_size (s.heap.push { cls := .type "tuple_iterator", data := .fields #[.ref l, .int 0 0] }) (o := { cls := .type "enumerate", data := .fields #[.none, .bool false, .ref s.heap.objs.size, rawInt 0, .none, .none] }) rfl
    rw [hz] at q; exact q
  exact ⟨⟨_, he, rfl⟩, h _ he ⟨_, Heap.get?_push_of_some _ (Heap.get?_push_size _ rfl), rfl, rfl⟩ fun b o x => Heap.get?_push_of_some _ (Heap.get?_push_of_some _ x)⟩
end
section
variable {X : Cx} {W : WX} {e : Expr} {g : Lx} {p pos tpos : Pos} {elts : List Expr} {kk : Nat}
def iEnumT (K : Frag) (ta : TA) : TI := fun σ H R => ta σ H fun vs H1 => ∃ a xs, vs = [.ref a] ∧ SqT K H1 a xs ∧ R (IteT K a) H1
theorem pi_enumT {ta : TA} (hg : Gl X "enumerate") (hm : X.mg "enumerate" = none) (ha : PA X [e] ta) (hs : starEach [e] X.env = [(false, eval e X.env)]) : PI X (.Tuple elts kk tpos) (.Call (.Name "enumerate" p) [e] [] pos) (iEnumT X.K ta) := by
  refine ⟨fun pins s σ H R I h => ?_⟩
  refine Call_ (ld_blt I hg hm boot_enumerate (PyProof.Rows.callWith_type1 (thn (ha.run pos pins s σ H _ I h) fun us s1 ⟨vs, H1, I1, r1, q1⟩ => ?_) hs rfl))
  obtain ⟨a, xs, ex, hq, q⟩ := q1
  subst ex
  cases r1 with
  | cons r rr =>
    cases rr
    cases r
    obtain ⟨its, rv, pl, hz⟩ := I1.tuple hq
    have hlt : a < s1.heap.objs.size := by obtain ⟨o, ho, _⟩ := id pl; exact Heap.lt_size ho
    refine call_enumT pl fun h' he hit hk => wpAny_pyIter_enum he ?_
    have I2 : Inv X pins σ H1 { s1 with heap := h' } := I1.kept (t' := s1.toks) hk
    refine ⟨s1.heap.objs.size + 1, [s1.heap.objs.size + 1, s1.heap.objs.size], _, _, H1, rfl, I2, turn_enumT a (s1.heap.objs.size + 1) s1.heap.objs.size (Nat.ne_of_lt hlt) (Nat.ne_of_lt (Nat.lt_succ_of_lt hlt)), ⟨⟨.none, he⟩, hit, Nat.succ_ne_self _⟩, fun b hb => ?_, q⟩
    have e' : b = s1.heap.objs.size + 1 ∨ b = s1.heap.objs.size := by simpa using hb
    have hle : s1.heap.objs.size ≤ b := by
      rcases e' with z | z
      · rw [z]; exact Nat.le_add_right _ _
      · rw [z]; exact Nat.le_refl _
    exact I1.fpOk hle (I1.hok.fresh hle)
theorem walkD_enumT {K : Frag} {φ : List Addr} {F : Hp} {a : Addr} {vs : List V} {ds : List D} (q : SqT K F a vs) (rs : Reps K F φ vs ds) : WalkD K (IteT K a) (fun _ i => (ds[i]?).map fun d => .tup [.int (i : Nat), d]) φ F where
  go := fun {φ' h' F' H' i d} w u e => by
    obtain ⟨d1, hd, rfl⟩ := Option.map_eq_some_iff.mp e
    obtain ⟨v, hv, rv⟩ := rs.get hd
    have q' : SqT K H' a vs := SqT.mono w.sub (SqT.mono u.f q)
    refine ⟨⟨vs, v, q', hv⟩, fun x H2 y => ?_⟩
    obtain ⟨T, x1, rfl, hT, rfl, y⟩ := y
    have := y vs q'
    rw [hv] at this; cases this
    obtain ⟨e2, r2⟩ := new_tup w hT (.cons (.int (i : Nat)) (.cons (rv.grow u) .nil))
    exact ⟨_, e2, r2⟩
  stop := fun {φ' h' F' H' i} w u e => by
    refine ⟨vs, SqT.mono w.sub (SqT.mono u.f q), ?_⟩
    rw [rs.length]
    exact List.getElem?_eq_none_iff.mp (Option.map_eq_none_iff.mp e)
/-- enumerate of a list or a tuple -/
def enumD : List D → Option ItR
  | [.lst xs] => some (.ok (fun _ i => (xs[i]?).map fun d => .tup [.int (i : Nat), d]) xs.length)
  | [.tup xs] => some (.ok (fun _ i => (xs[i]?).map fun d => .tup [.int (i : Nat), d]) xs.length)
  | _ => none
def iEnumD (g : Lx) : Ix := fun ρ h => bndLI (g ρ h) enumD
theorem di_enum {x : Str} (hx : x = ("enumerate" : Str)) (hg : Gl X x) (hm : X.mg x = none) (ha : PA X [e] (tA X.K X.mg W g)) (hs : noStar e = true) : PI X (.Tuple elts kk tpos) (.Call (.Name x p) [e] [] pos) (tI X.K X.mg W (iEnumD g)) := by
  subst hx
  refine ((pi_enum hg hm ha (starEach_cons hs)).or (pi_enumT hg hm ha (starEach_cons hs))).weak fun σ H R q => ?_
  obtain ⟨φ, h, F, ρ, r, w, en, hf, q⟩ := q
  have hf : bndLI (g ρ h) enumD = some r := hf
  cases h1 : g ρ h with
  | none => rw [h1] at hf; cases hf
  | some y =>
    rw [h1] at hf
    cases y with
    | exc c fs =>
      cases Option.some.inj (show some (ItR.exc c fs) = some r from hf)
      exact .inl ⟨φ, h, F, ρ, .exc c fs, w, en, h1, q⟩
    | ok ds =>
      replace hf : enumD ds = some r := hf
      unfold enumD at hf
      split at hf
      · rename_i xs
        cases Option.some.inj hf
        refine .inl ⟨φ, h, F, ρ, .ok [.lst xs], w, en, h1, fun vs F1 H1 e1 rs => ?_⟩
        obtain ⟨v, rfl, rv⟩ := rs.one
        cases rv with
        | @lst a us _ hq t => exact ⟨a, us, rfl, SqL.of ((w.ext e1).sub _ _ hq), q _ F1 H1 e1 (walkD_enum (SqL.of hq) t)⟩
      · rename_i xs
        cases Option.some.inj hf
        refine .inr ⟨φ, h, F, ρ, .ok [.tup xs], w, en, h1, fun vs F1 H1 e1 rs => ?_⟩
        obtain ⟨v, rfl, rv⟩ := rs.one
        cases rv with
        | @tup a us _ hq t => exact ⟨a, us, rfl, SqT.mono (w.ext e1).sub hq, q _ F1 H1 e1 (walkD_enumT hq t)⟩
      · cases hf
end
end DL

set_option Elab.async false
set_option linter.all false
set_option maxRecDepth 100000
/-! DLv: the rules as a printer writes them: a context's facts in one, checks by Bool. -/
namespace DL
open PySem PySem.Spec PyProof.Rows L2

def nkLocal : NameKind → Bool
  | .local => true
  | _ => false
def nkVis : NameKind → Bool
  | .local => true
  | .cell => true
  | .free => true
  | _ => false
def nkLoc : NameKind → Bool
  | .local => true
  | .cell => true
  | _ => false
def nkGl : NameKind → Bool
  | .globalImplicit => true
  | _ => false
def lookB (sc : Scope) (x : Str) (p : NameKind → Bool) : Bool := match sc.names.lookup x with
  | some k => p k
  | none => false
def visB (sc : Scope) (x : Str) : Bool := lookB sc x nkVis
theorem visB_ok {sc : Scope} {x : Str} (h : visB sc x = true) : L2.Vis sc x := by
  unfold visB lookB at h
  unfold L2.Vis
  cases q : sc.names.lookup x with
  | none => rw [q] at h; cases h
  | some k =>
    rw [q] at h
    cases k <;> first | exact .inl rfl | exact .inr (.inl rfl) | exact .inr (.inr rfl) | cases h
theorem locB_ok {sc : Scope} {x : Str} (h : lookB sc x nkLoc = true) : L2.Loc sc x := by
  unfold lookB at h
  unfold L2.Loc
  cases q : sc.names.lookup x with
  | none => rw [q] at h; cases h
  | some k =>
    rw [q] at h
    cases k <;> first | exact .inl rfl | exact .inr rfl | cases h
theorem localB_ok {sc : Scope} {x : Str} (h : lookB sc x nkLocal = true) : sc.names.lookup x = some .local := by
  unfold lookB at h
  cases q : sc.names.lookup x with
  | none => rw [q] at h; cases h
  | some k =>
    rw [q] at h
    cases k <;> first | rfl | cases h
theorem glKB_ok {sc : Scope} {x : Str} (h : lookB sc x nkGl = true) : sc.names.lookup x = some .globalImplicit := by
  unfold lookB at h
  cases q : sc.names.lookup x with
  | none => rw [q] at h; cases h
  | some k =>
    rw [q] at h
    cases k <;> first | rfl | cases h
def noDbg (x : Str) : Bool := !(x == ("__debug__" : Str)) && !(x == ("__classdict__" : Str))
/-- the name x stands in slot i, and is seen -/
def nameB (N : List Str) (sc : Scope) (x : Str) (i : Nat) : Bool := (match N[i]? with | some y => y == x | none => false) && (visB sc x && noDbg x)
/-- .. and may be stored -/
def tgtB (N : List Str) (sc : Scope) (fn : Str → Bool) (x : Str) (i : Nat) : Bool := (match N[i]? with | some y => y == x | none => false) && (lookB sc x nkLoc && (fn x || lookB sc x nkLocal))
def glB (sc : Scope) (x : Str) : Bool := lookB sc x nkGl && noDbg x
theorem slot_ok {N : List Str} {x : Str} {i : Nat} (h : (match N[i]? with | some y => y == x | none => false) = true) : N[i]? = some x := by
  cases q : N[i]? with
  | none => rw [q] at h; cases h
  | some y => rw [q] at h; rw [beq_iff_eq.mp h]
theorem noDbg_ok {x : Str} (h : noDbg x = true) : (x == ("__debug__" : Str)) = false ∧ (x == ("__classdict__" : Str)) = false := by
  unfold noDbg at h
  simpa using h
structure NameOk (X : Cx) (x : Str) (i : Nat) : Prop where
  n : X.N[i]? = some x
  v : L2.Vis X.env.scope x
  d : (x == ("__debug__" : Str)) = false
  c : (x == ("__classdict__" : Str)) = false
theorem nameB_ok {X : Cx} {x : Str} {i : Nat} (h : nameB X.N X.env.scope x i = true) : NameOk X x i := by
  obtain ⟨h1, h2⟩ := Bool.and_eq_true_iff.mp h
  obtain ⟨h3, h4⟩ := Bool.and_eq_true_iff.mp h2
  exact ⟨slot_ok h1, visB_ok h3, (noDbg_ok h4).1, (noDbg_ok h4).2⟩
theorem glB_ok {X : Cx} {x : Str} (h : glB X.env.scope x = true) : Gl X x ∧ (x == ("__debug__" : Str)) = false := by
  obtain ⟨h1, h2⟩ := Bool.and_eq_true_iff.mp h
  exact ⟨glKB_ok h1, (noDbg_ok h2).1⟩

/-- what a body's context gives -/
structure Cw (X : Cx) (W : WX) (k : Nat) : Prop where
  tk : Tk X W
  calm : X.calm = true
  nd : X.N.Nodup
  room : Room k X.A
theorem Cw.blk {X : Cx} {W : WX} {k : Nat} {s : Shared} {H : Hp} {scope : Scope} {C : Addr} {cl : List (Str × Addr)} {fp : List Addr} {xe : Value → Shared → Prop} {V : WX} (c : Cw X W k) (tk : Tk (blkX X s H scope C cl fp xe) V) : Cw (blkX X s H scope C cl fp xe) V k := ⟨tk, c.calm, c.nd, c.room⟩
/-- .. with statements -/
structure Sw (X : Cx) (W : WX) (k : Nat) : Prop extends Cw X W k where
  tks : Takes X W
  hp : PassesOwn (model X.prog X.w) X.A X.env X.xe
  hs : X.stack = X.env :: X.outer
  hf : X.env.frame = some X.env.locals
theorem Sw.tr {X : Cx} {W V : WX} {k : Nat} {pn : List (Addr × Obj)} {xe : Value → Shared → Prop} (c : Sw X W k) (tk : Takes (X.tr pn xe) V) (hp : PassesOwn (model X.prog X.w) X.A X.env xe) : Sw (X.tr pn xe) V k := ⟨⟨Tk.of c.hs c.hf tk, c.calm, c.nd, c.room⟩, tk, hp, c.hs, c.hf⟩
theorem Sw.body {P : Program} {w : World} {K : Frag} {mg : Str → Option Value} {base : Heap} {N : List Str} {qual : Str} {scope : Scope} {f : Addr} {cd : Value} {A : Around} {outer : List Env} {s : Shared} {H : Hp} {E : XK} {k : Nat} (hN : N.Nodup)
    (hr : Room k (A.deeper (envOfC qual scope s.heap.objs.size f cd))) (tk : Takes (bodyCx P w K mg base N qual scope f cd A outer s H E) (fun cls d _ H => E cls d H)) : Sw (bodyCx P w K mg base N qual scope f cd A outer s H E) (fun cls d _ H => E cls d H) k :=
  ⟨⟨Tk.of rfl rfl tk, rfl, hN, hr⟩, tk, L2.passes_of rfl, rfl, rfl⟩

section
variable {X : Cx} {W : WX} {k : Nat} {x : Str} {i n j : Nat} {pos p p2 apos : Pos} {e a b o : Expr} {es : List Expr} {f fa fb : Sx} {g : Lx} {fn : Fn} {F0 H0 : Hp} {gn : Nx} {fm : Mx}
theorem xv (i : Nat) (h : nameB X.N X.env.scope x i = true) : PE X (.Name x pos) (tD X.K X.mg W (sVar i)) := let q := nameB_ok h; de_var q.n q.v q.d q.c
theorem xg (c : Cw X W k) (i : Nat) (h : tgtB X.N X.env.scope X.fn x i = true) : PG X (.Name x pos) (tG X.K [i] (gxName i)) := by
  obtain ⟨h1, h2⟩ := Bool.and_eq_true_iff.mp h
  obtain ⟨h3, h4⟩ := Bool.and_eq_true_iff.mp h2
  refine dg_name c.nd (slot_ok h1) (locB_ok h3) ?_
  rcases Bool.or_eq_true_iff.mp h4 with z | z
  · exact .inl z
  · exact .inr (localB_ok z)
theorem xset (c : Cw X W k) (i : Nat) (h : tgtB X.N X.env.scope X.fn x i = true) (he : PE X e (tM X.K X.mg F0 H0 W fm)) (hs : noComp e = true) : PS X (.Assign [.Name x p] e pos) (tS X.K X.mg F0 H0 W (sSet i fm)) := by
  obtain ⟨h1, h2⟩ := Bool.and_eq_true_iff.mp h
  obtain ⟨h3, h4⟩ := Bool.and_eq_true_iff.mp h2
  refine ds_set c.nd (slot_ok h1) (locB_ok h3) ?_ he hs
  rcases Bool.or_eq_true_iff.mp h4 with z | z
  · exact .inl z
  · exact .inr (localB_ok z)
theorem xglob {v : V} {u : Value} {d : D} (h : glB X.env.scope x = true) (hm : X.mg x = some u) (rv : RelV v u) (r : ∀ F φ, Rep X.K F φ v d) : PE X (.Name x pos) (tD X.K X.mg W (sCst d)) := de_glob (glB_ok h).1 hm rv r (glB_ok h).2
/-- a module's constant -/
structure CoOk (K : Frag) (mg : Str → Option Value) (x : Str) (d : D) : Prop where
  ex : ∃ v u, mg x = some u ∧ RelV v u ∧ ∀ F φ, Rep K F φ v d
theorem CoOk.int {K : Frag} {mg : Str → Option Value} {x : Str} {i : Int} (h : ∃ t, mg x = some (.int i t)) : CoOk K mg x (.int i) := let ⟨t, e⟩ := h; ⟨.int i, _, e, ⟨t, rfl⟩, fun _ _ => .int i⟩
theorem CoOk.str {K : Frag} {mg : Str → Option Value} {x : Str} {i : Str} (h : ∃ t, mg x = some (.str i t)) : CoOk K mg x (.str i) := let ⟨t, e⟩ := h; ⟨.str i, _, e, ⟨t, rfl⟩, fun _ _ => .str i⟩
theorem xc {d : D} (co : CoOk X.K X.mg x d) (h : glB X.env.scope x = true) : PE X (.Name x pos) (tD X.K X.mg W (sCst d)) := by
  obtain ⟨v, u, h1, h2, h3⟩ := co.ex
  exact xglob h h1 h2 h3
theorem xcmp {op : CmpOp} (c : Cw X W k) (ha : PE X a (tD X.K X.mg W fa)) (hb : PE X b (tD X.K X.mg W fb)) (hs : noSetE b = true) : PE X (.Compare a [op] [b] pos) (tD X.K X.mg W (sCmp op fa fb)) := de_cmp c.room.units ha hb hs
theorem xcmpT {op : CmpOp} (c : Cw X W k) (ha : PE X a (tD X.K X.mg W fa)) (hb : PE X b (tD X.K X.mg W fb)) (hs : noSetE b = true) : PT X (.Compare a [op] [b] pos) (tT X.K X.mg W (sCmp op fa fb)) := dt_cmp c.room.units ha hb hs
theorem xchain {op op' : CmpOp} {c' : Expr} {fc : Sx} (c : Cw X W k) (ha : PE X a (tD X.K X.mg W fa)) (hb : PE X b (tD X.K X.mg W fb)) (hc : PE X c' (tD X.K X.mg W fc)) (hs : noSetE c' = true) : PE X (.Compare a [op, op'] [b, c'] pos) (tD X.K X.mg W (sChain op op' fa fb fc)) := de_chain c.room.units ha hb hc hs
theorem xchainT {op op' : CmpOp} {c' : Expr} {fc : Sx} (c : Cw X W k) (ha : PE X a (tD X.K X.mg W fa)) (hb : PE X b (tD X.K X.mg W fb)) (hc : PE X c' (tD X.K X.mg W fc)) (hs : noSetE c' = true) : PT X (.Compare a [op, op'] [b, c'] pos) (tT X.K X.mg W (sChain op op' fa fb fc)) := dt_chain c.room.units ha hb hc hs
theorem xbi (bi : Bi) (c : Cw X W k) (hx : x = biName bi) (hm : X.mg x = none) (h : glB X.env.scope x = true) (ha : PA X (e :: es) (tA X.K X.mg W g)) (hs : (e :: es).all noStar = true) : PE X (.Call (.Name x p) (e :: es) [] pos) (tD X.K X.mg W (sBi bi g)) := de_bi bi hx c.calm (glB_ok h).1 hm ha hs
theorem xcall (c : Cw X W k) (hd : DefOk X.prog X.w X.K X.mg X.base j x n fn) (hj : j ≤ k) (h : glB X.env.scope x = true) (ha : PA X (e :: es) (tA X.K X.mg W g)) (hs : (e :: es).all noStar = true) : PE X (.Call (.Name x p) (e :: es) [] pos) (tD X.K X.mg W (sCall n fn g)) :=
  de_call (hd.mono hj) c.room c.tk (glB_ok h).1 (glB_ok h).2 ha hs
theorem mcall (c : Cw X W k) (hd : DefOk X.prog X.w X.K X.mg X.base j x n fn) (hj : j ≤ k) (h : glB X.env.scope x = true) (ha : PA X (e :: es) (tA X.K X.mg W g)) (hs : (e :: es).all noStar = true) : PE X (.Call (.Name x p) (e :: es) [] pos) (tM X.K X.mg F0 H0 W (mCall n fn g)) :=
  dm_call (hd.mono hj) c.room c.tk (glB_ok h).1 (glB_ok h).2 ha hs
theorem xisi (T : Tb) {y : Str} (hx : x = ("isinstance" : Str)) (hy : y = tbName T) (hm : X.mg x = none) (hm2 : X.mg y = none) (h : glB X.env.scope x = true) (h2 : glB X.env.scope y = true) (he : PE X e (tD X.K X.mg W f)) (hs : noStar e = true) :
    PE X (.Call (.Name x p) [e, .Name y p2] [] pos) (tD X.K X.mg W (sIsi T f)) := de_isi T hx hy (glB_ok h).1 hm (glB_ok h2).1 hm2 he hs
theorem xlenset {y : Str} {q : Pos} (c : Cw X W k) (hx : x = ("len" : Str)) (hy : y = ("set" : Str)) (hm : X.mg x = none) (hm2 : X.mg y = none) (h : glB X.env.scope x = true) (h2 : glB X.env.scope y = true) (ha : PE X a (tD X.K X.mg W f)) (hs : noStar a = true) :
    PE X (.Call (.Name x p) [.Call (.Name y p2) [a] [] q] [] pos) (tD X.K X.mg W (sLenSet f)) := de_lenSet hx hy c.calm (glB_ok h).1 hm (glB_ok h2).1 hm2 ha hs
theorem mlist (hx : x = ("list" : Str)) (hm : X.mg x = none) (h : glB X.env.scope x = true) (he : PE X e (tD X.K X.mg W f)) (hs : noStar e = true) : PE X (.Call (.Name x p) [e] [] pos) (tM X.K X.mg F0 H0 W (mList f)) := dm_list hx (glB_ok h).1 hm he hs
theorem xdget {kd : List (Key × D)} (Dc : DicOk X.prog X.w X.K X.mg x kd) (h : glB X.env.scope x = true) (he : PE X e (tD X.K X.mg W f)) (hs : noSlice e = true) : PE X (.Subscript (.Name x p) e pos) (tD X.K X.mg W (sDGet kd f)) := de_dget Dc (glB_ok h).1 (glB_ok h).2 he hs
theorem xdnin {kd : List (Key × D)} (Dc : DicOk X.prog X.w X.K X.mg x kd) (h : glB X.env.scope x = true) (he : PE X e (tD X.K X.mg W f)) : PE X (.Compare e [.NotIn] [.Name x p] pos) (tD X.K X.mg W (sDIn true kd f)) := de_dnin Dc (glB_ok h).1 (glB_ok h).2 he
theorem xdninT {kd : List (Key × D)} (Dc : DicOk X.prog X.w X.K X.mg x kd) (h : glB X.env.scope x = true) (he : PE X e (tD X.K X.mg W f)) : PT X (.Compare e [.NotIn] [.Name x p] pos) (tT X.K X.mg W (sDIn true kd f)) := dt_dnin Dc (glB_ok h).1 (glB_ok h).2 he
theorem xdin {kd : List (Key × D)} (Dc : DicOk X.prog X.w X.K X.mg x kd) (h : glB X.env.scope x = true) (he : PE X e (tD X.K X.mg W f)) : PE X (.Compare e [.In] [.Name x p] pos) (tD X.K X.mg W (sDIn false kd f)) := de_din Dc (glB_ok h).1 (glB_ok h).2 he
theorem xdinT {kd : List (Key × D)} (Dc : DicOk X.prog X.w X.K X.mg x kd) (h : glB X.env.scope x = true) (he : PE X e (tD X.K X.mg W f)) : PT X (.Compare e [.In] [.Name x p] pos) (tT X.K X.mg W (sDIn false kd f)) := dt_din Dc (glB_ok h).1 (glB_ok h).2 he
/-! walks -/
variable {tg : Expr} {elts : List Expr} {kk : Nat} {tpos : Pos} {e2 : Expr}
theorem wrng1 (hx : x = ("range" : Str)) (hm : X.mg x = none) (h : glB X.env.scope x = true) (ha : PA X [e] (tA X.K X.mg W g)) (hs : noStar e = true) : PI X tg (.Call (.Name x p) [e] [] pos) (tI X.K X.mg W (iRange1 g)) := di_range1 hx (glB_ok h).1 hm ha hs
theorem wrng2 (hx : x = ("range" : Str)) (hm : X.mg x = none) (h : glB X.env.scope x = true) (ha : PA X [e, e2] (tA X.K X.mg W g)) (hs : noStar e = true) (hs2 : noStar e2 = true) : PI X tg (.Call (.Name x p) [e, e2] [] pos) (tI X.K X.mg W (iRange2 g)) := di_range2 hx (glB_ok h).1 hm ha hs hs2
theorem wenum (hx : x = ("enumerate" : Str)) (hm : X.mg x = none) (h : glB X.env.scope x = true) (ha : PA X [e] (tA X.K X.mg W g)) (hs : noStar e = true) : PI X (.Tuple elts kk tpos) (.Call (.Name x p) [e] [] pos) (tI X.K X.mg W (iEnumD g)) := di_enum hx (glB_ok h).1 hm ha hs
theorem wzip (hx : x = ("zip" : Str)) (hm : X.mg x = none) (h : glB X.env.scope x = true) (ha : PA X [e, e2] (tA X.K X.mg W g)) (hs : noStar e = true) (hs2 : noStar e2 = true) : PI X (.Tuple elts kk tpos) (.Call (.Name x p) [e, e2] [] pos) (tI X.K X.mg W (iZipD g)) := di_zip hx (glB_ok h).1 hm ha hs hs2
/-! statements -/
variable {st : Stmt} {sa sb : List Stmt} {sm su : Sm} {ix : Ix} {gx : Gx} {sl : List Nat} {it : Expr}
theorem yfor (c : Sw X W k) (hi : PI X tg it (tI X.K X.mg W ix)) (hg : PG X tg (tG X.K sl gx)) (hb : PSs X sa (tS X.K X.mg F0 H0 W sm)) (ho : PSs X sb (tS X.K X.mg F0 H0 W su)) (hs : noSetE it = true) : PS X (.For tg it sa sb pos) (tS X.K X.mg F0 H0 W (sFor ix gx sm su)) := ds_for c.hp c.calm hi hg hb ho hs
theorem yraise {fs : List Str} {C fI : Addr} {pos2 : Pos} (c : Sw X W k) (T : ErrC X.prog X.K X.mg x fs C fI) (hz : fs.length ≤ 900) (h : glB X.env.scope x = true) (ha : PA X (e :: es) (tA X.K X.mg W g)) (hs : (e :: es).all noStar = true) :
    PS X (.Raise (some (.Call (.Name x p) (e :: es) [] pos)) none pos2) (tS X.K X.mg F0 H0 W (sRaise x fs g)) := ds_raise c.calm c.tks T hz c.room ha (glB_ok h).1 (glB_ok h).2 hs
end

/-! ### comprehensions -/
section
variable {X : Cx} {W : WX} {k : Nat} {elt tg iter : Expr} {ifs : List Expr} {scope : Scope} {pos : Pos} {ix : Ix} {gx : Gx} {tst el : Sx} {sl : List Nat} {F0 H0 : Hp} {elm : Mx}
def subB (sl : List Nat) (own : List (Str × Nat)) : Bool := sl.all fun i => (own.map (·.2)).contains i
theorem subB_ok {sl : List Nat} {own : List (Str × Nat)} (h : subB sl own = true) : ∀ i ∈ sl, i ∈ own.map (·.2) := fun i hi => by
  have := List.all_eq_true.mp h i hi
  simpa using this
theorem xcomp (own : List (Str × Nat)) (c : Cw X W k) (hi : PI X tg iter (tI X.K X.mg W ix)) (ok : blkC X.N X.env.scope scope own = true) (hsl : subB sl own = true)
    (hg : ∀ (s : Shared) (H : Hp) (C : Addr) (cl : List (Str × Addr)) (fp : List Addr) (xe : Value → Shared → Prop) (V : WX), Cw (blkX X s H scope C cl fp xe) V k → PG (blkX X s H scope C cl fp xe) tg (tG X.K sl gx))
    (ht : ∀ (s : Shared) (H : Hp) (C : Addr) (cl : List (Str × Addr)) (fp : List Addr) (xe : Value → Shared → Prop) (V : WX), Cw (blkX X s H scope C cl fp xe) V k → PTs (blkX X s H scope C cl fp xe) ifs (tT X.K X.mg V tst))
    (he : ∀ (s : Shared) (H : Hp) (C : Addr) (cl : List (Str × Addr)) (fp : List Addr) (xe : Value → Shared → Prop) (V : WX), Cw (blkX X s H scope C cl fp xe) V k → PE (blkX X s H scope C cl fp xe) elt (tD X.K X.mg V el)) (hs : noSetE iter = true) :
    PE X (.ListComp elt [⟨tg, iter, ifs, 0⟩] scope pos) (tD X.K X.mg W (sComp (own.map (·.2)) ix gx tst el)) :=
  de_comp c.tk c.calm c.nd hi (blkOk_by ok) (subB_ok hsl) (fun σ s H C cl fp xe t => hg s H C cl fp xe _ (c.blk t)) (fun σ s H C cl fp xe t => ht s H C cl fp xe _ (c.blk t)) (fun σ s H C cl fp xe t => he s H C cl fp xe _ (c.blk t)) hs
theorem mcomp (own : List (Str × Nat)) (c : Cw X W k) (hi : PI X tg iter (tI X.K X.mg W ix)) (ok : blkC X.N X.env.scope scope own = true) (hsl : subB sl own = true)
    (hg : ∀ (s : Shared) (H : Hp) (C : Addr) (cl : List (Str × Addr)) (fp : List Addr) (xe : Value → Shared → Prop) (V : WX), Cw (blkX X s H scope C cl fp xe) V k → PG (blkX X s H scope C cl fp xe) tg (tG X.K sl gx))
    (ht : ∀ (s : Shared) (H : Hp) (C : Addr) (cl : List (Str × Addr)) (fp : List Addr) (xe : Value → Shared → Prop) (V : WX), Cw (blkX X s H scope C cl fp xe) V k → PTs (blkX X s H scope C cl fp xe) ifs (tT X.K X.mg V tst))
    (he : ∀ (s : Shared) (H : Hp) (C : Addr) (cl : List (Str × Addr)) (fp : List Addr) (xe : Value → Shared → Prop) (V : WX), Cw (blkX X s H scope C cl fp xe) V k → PE (blkX X s H scope C cl fp xe) elt (tD X.K X.mg V el)) (hs : noSetE iter = true) :
    PE X (.ListComp elt [⟨tg, iter, ifs, 0⟩] scope pos) (tM X.K X.mg F0 H0 W (mComp (own.map (·.2)) ix gx tst el)) :=
  dm_comp c.tk c.calm c.nd hi (blkOk_by ok) (subB_ok hsl) (fun σ s H C cl fp xe t => hg s H C cl fp xe _ (c.blk t)) (fun σ s H C cl fp xe t => ht s H C cl fp xe _ (c.blk t)) (fun σ s H C cl fp xe t => he s H C cl fp xe _ (c.blk t)) hs
/-- name = [..] on one line, the name a local that no block captures -/
def swB (sc : Scope) (scope : Scope) (y : Str) (py pos : Pos) (i : Nat) (N : List Str) : Bool := (match N[i]? with | some z => z == y | none => false) && (lookB sc y nkLocal && ((py.line == pos.line) && !(scope.names.any fun q => q.1 == y && nkLoc q.2)))
theorem sw_ok {sc : Scope} {y : Str} {py : Pos} {i : Nat} {N : List Str} (h : swB sc scope y py pos i N = true) {env : Env} (hk : env.scope.kind = .function) (he : env.scope = sc) {gs : List Comprehension} {l : Nat} : N[i]? = some y ∧ env.scope.names.lookup y = some .local ∧ swapsWith (.ListComp elt gs scope pos) (some (.Name y py)) l env = pure true := by
  subst he
  obtain ⟨h1, h⟩ := Bool.and_eq_true_iff.mp h
  obtain ⟨h2, h⟩ := Bool.and_eq_true_iff.mp h
  obtain ⟨h3, h4⟩ := Bool.and_eq_true_iff.mp h
  refine ⟨slot_ok h1, localB_ok h2, sw_true hk (localB_ok h2) h3 ?_⟩
  have h5 : (scope.names.any fun q => q.1 == y && nkLoc q.2) = false := by simpa using h4
  rw [← h5]
  congr 1
  funext q
  obtain ⟨n, kd⟩ := q
  cases kd <;> rfl
theorem ysetc {y : Str} {py spos : Pos} (i : Nat) (own : List (Str × Nat)) (c : Sw X W k) (hk : X.env.scope.kind = .function) (hsw : swB X.env.scope scope y py pos i X.N = true) (hi : PI X tg iter (tI X.K X.mg W ix)) (ok : blkC X.N X.env.scope scope own = true) (hsl : subB sl own = true)
    (hg : ∀ (s : Shared) (H : Hp) (C : Addr) (cl : List (Str × Addr)) (fp : List Addr) (xe : Value → Shared → Prop) (V : WX), Cw (blkX X s H scope C cl fp xe) V k → PG (blkX X s H scope C cl fp xe) tg (tG X.K sl gx))
    (ht : ∀ (s : Shared) (H : Hp) (C : Addr) (cl : List (Str × Addr)) (fp : List Addr) (xe : Value → Shared → Prop) (V : WX), Cw (blkX X s H scope C cl fp xe) V k → PTs (blkX X s H scope C cl fp xe) ifs (tT X.K X.mg V tst))
    (he : ∀ (s : Shared) (H : Hp) (C : Addr) (cl : List (Str × Addr)) (fp : List Addr) (xe : Value → Shared → Prop) (V : WX), Cw (blkX X s H scope C cl fp xe) V k → PE (blkX X s H scope C cl fp xe) elt (tD X.K X.mg V el)) (hs : noSetE iter = true) :
    PS X (.Assign [.Name y py] (.ListComp elt [⟨tg, iter, ifs, 0⟩] scope pos) spos) (tS X.K X.mg F0 H0 W (sSet i (liftM (sComp (own.map (·.2)) ix gx tst el)))) ∧
    PS X (.Assign [.Name y py] (.ListComp elt [⟨tg, iter, ifs, 0⟩] scope pos) spos) (tS X.K X.mg F0 H0 W (sSet i (mComp (own.map (·.2)) ix gx tst el))) := by
  obtain ⟨h1, h2, h3⟩ := sw_ok (elt := elt) (gs := [⟨tg, iter, ifs, 0⟩]) (l := spos.line) hsw hk rfl
  exact ds_setComp c.tk c.calm c.nd h1 h2 h3 hi (blkOk_by ok) (subB_ok hsl) (fun σ s H C cl fp xe t => hg s H C cl fp xe _ (c.toCw.blk t)) (fun σ s H C cl fp xe t => ht s H C cl fp xe _ (c.toCw.blk t)) (fun σ s H C cl fp xe t => he s H C cl fp xe _ (c.toCw.blk t)) hs
theorem ysetm {y : Str} {py spos : Pos} (i : Nat) (own : List (Str × Nat)) (c : Sw X W k) (hk : X.env.scope.kind = .function) (hsw : swB X.env.scope scope y py pos i X.N = true) (hi : PI X tg iter (tI X.K X.mg W ix)) (ok : blkC X.N X.env.scope scope own = true) (hsl : subB sl own = true)
    (hg : ∀ (s : Shared) (H : Hp) (C : Addr) (cl : List (Str × Addr)) (fp : List Addr) (xe : Value → Shared → Prop) (V : WX), Cw (blkX X s H scope C cl fp xe) V k → PG (blkX X s H scope C cl fp xe) tg (tG X.K sl gx))
    (ht : ∀ (s : Shared) (H : Hp) (C : Addr) (cl : List (Str × Addr)) (fp : List Addr) (xe : Value → Shared → Prop) (V : WX), Cw (blkX X s H scope C cl fp xe) V k → PTs (blkX X s H scope C cl fp xe) ifs (tT X.K X.mg V tst))
    (he : ∀ (s : Shared) (H : Hp) (C : Addr) (cl : List (Str × Addr)) (fp : List Addr) (xe : Value → Shared → Prop) (V : WX), Cw (blkX X s H scope C cl fp xe) V k → PE (blkX X s H scope C cl fp xe) elt (tM X.K X.mg F0 H0 V elm)) (hs : noSetE iter = true) :
    PS X (.Assign [.Name y py] (.ListComp elt [⟨tg, iter, ifs, 0⟩] scope pos) spos) (tS X.K X.mg F0 H0 W (sSet i (mCompM (own.map (·.2)) ix gx tst elm))) := by
  obtain ⟨h1, h2, h3⟩ := sw_ok (elt := elt) (gs := [⟨tg, iter, ifs, 0⟩]) (l := spos.line) hsw hk rfl
  exact ds_setCompM c.tk c.calm c.nd h1 h2 h3 hi (blkOk_by ok) (subB_ok hsl) (fun σ s H C cl fp xe t => hg s H C cl fp xe _ (c.toCw.blk t)) (fun σ s H C cl fp xe t => ht s H C cl fp xe _ (c.toCw.blk t)) (fun σ s H C cl fp xe t => he s H C cl fp xe _ (c.toCw.blk t)) hs
end
end DL

set_option Elab.async false
set_option linter.all false
set_option maxRecDepth 100000
/-! DLp: what the top has left, looked at by a Hook: defs, own errors with their __init__, constant dicts. -/
namespace DL
open PySem PySem.Spec PyProof.Rows L2

/-! ### an own error class -/
structure ErrD where
  x : Str
  fs : List Str
  qual : Str
  params : Arguments
  body : List Stmt
  scope : Scope
abbrev FnE : Type := Option (Str × Str × Arguments × FuncBody × Scope × Addr × List Str × Addr)
def ErrD.f (K : Frag) (d : ErrD) : Addr := He.ma K (He.ga K d.x) "__init__"
def fnE (K : Frag) (d : ErrD) : FnE := match K.lookup (d.f K) with
  | some ⟨_, _, .func fd, _⟩ => some (fd.name, fd.qualname, fd.params, fd.body, fd.scope, fd.globals, fd.closure.map (·.1), fd.builtins)
  | _ => none
def ErrD.val (d : ErrD) : FnE := some ("__init__", d.qual, d.params, .stmts d.body, d.scope, mainGlobals, [("__class__" : Str)], builtinsNs)
def clsB (K : Frag) (C : Addr) : Bool := match K.lookup C with
  | some ⟨.type t, _, .cls cd, sl⟩ => (match cd.mro, sl.toList with
    | .ref C' :: bm, [_, _, _, _, some (.builtin n), _] => C' == C && (n == "ValueError.__new__" && (!cd.hasDel && (cd.hasDict && (HandSPX.refsVE bm && t == "type"))))
    | _, _ => false)
  | _ => false
theorem clsB_ok {K : Frag} {C : Addr} (q : clsB K C = true) :
    ∃ nm q N bs bm sn sub ab col dd k0 k1 k2 k3 k5, K.lookup C = some (excClassObj nm q C N bs bm true sn sub ab col dd k0 k1 k2 k3 k5 "ValueError.__new__") ∧ PySem.HandSPX.refsVE bm = true := by
  unfold clsB at q
  split at q
  · rename_i t dd cd sl ho
    split at q
    · rename_i C' bm k0 k1 k2 k3 n k5 hm hs
      simp only [Bool.and_eq_true, beq_iff_eq, Bool.not_eq_true'] at q
      obtain ⟨rfl, rfl, hdel, hdic, ht, rfl⟩ := q
      obtain ⟨nm, bs, mro, ns, qn, hd, sn, sub, ab, col, del⟩ := cd
      dsimp only at hm hdel hdic
      subst hm hdel hdic
      have hsl : sl = #[k0, k1, k2, k3, some (.builtin "ValueError.__new__"), k5] := by
        obtain ⟨l⟩ := sl
        simp only at hs
        rw [hs]
      subst hsl
      exact ⟨nm, qn, ns, bs, bm, sn, sub, ab, col, dd, k0, k1, k2, k3, k5, ho, ht⟩
    · cases q
  · cases q
def fnB (P : Program) (K : Frag) (C f : Addr) (q : Str) : Bool := match K.lookup f with
  | some ⟨_, _, .func fd, _⟩ => (match fd.defaults, fd.kwdefaults, fd.code, fd.closure with
    | .none, .none, .ref cda, [(_, cc)] => PySem.W.codeIn K (.ref cda) q && ((match K.lookup cda with
        | some ⟨_, _, .fields vs, _⟩ => (match (vs[2]? : Option Value) with
          | some (Value.str file _) => (P.main.file : Str) == file
          | _ => false)
        | _ => false) && (match K.lookup cc with
        | some ⟨_, _, .cell (some (.ref C')), _⟩ => C' == C
        | _ => false))
    | _, _, _, _ => false)
  | _ => false
/-- the facts of the class (its names aside) -/
def ErrD.ok (P : Program) (K : Frag) (d : ErrD) : Bool :=
  He.eqO (PySem.W.nsIn K mainGlobals d.x) (some (some (.ref (He.ga K d.x)))) && (clsB K (He.ga K d.x) && (He.eqO (PySem.W.findIn K (.ref (He.ga K d.x)) "__setattr__") (some (some (.builtin "object.__setattr__"))) &&
  ((d.fs.all fun f => He.eqO (PySem.W.findIn K (.ref (He.ga K d.x)) f) (some none)) && (He.eqO (PySem.W.findIn K (.ref (He.ga K d.x)) "__init__") (some (some (.ref (d.f K)))) &&
  (decide (PySem.W.typeIn K (.ref (d.f K)) = some (.type "function")) && (PySem.W.keepIn K (.ref (He.ga K d.x)) && (decide (PySem.W.subIn K (.ref (He.ga K d.x)) (.type "BaseException") = some true) &&
  (decide (PySem.W.typeIn K (.ref (He.ga K d.x)) = some (.type "type")) && (decide (PySem.W.subIn K (.ref (He.ga K d.x)) (.type "ValueError") = some true) && (He.eqO (PySem.W.ks_superIn K (He.ga K d.x) (He.ga K d.x) "__init__") (some (some (.builtin "ValueError.__init__"))) &&
  (decide (PySem.W.mroIn K (He.ga K d.x) (.ref (He.ga K d.x)) = some true) && (He.eqO (PySem.W.nsIn K cStatics "thirdparty.any") (some none) && (He.eqO (PySem.W.nsIn K mainGlobals "super") (some none) && (fnB P K (He.ga K d.x) (d.f K) d.qual && xfB K (He.ga K d.x)))))))))))))))
/-- what the text alone says -/
structure ErrT (P : Program) (d : ErrD) : Prop where
  ftop : (P.main.scope.names.lookup ("super" : Str)).isSome = false
  ne : 0 < d.fs.length
  init : initOk d.body d.fs = true
  par : (d.params.posonlyargs ++ d.params.args).head?.map (·.arg) = some "self"
  kind : d.scope.kind = .function
  co : d.scope.isCoroutine = false
  gen : d.scope.isGenerator = false
  sup : d.scope.names.lookup ("super" : Str) = some .globalImplicit
  cl : d.scope.names.lookup ("__class__" : Str) = some .free
  loc : (("self" : Str) :: d.fs).all (fun y => d.scope.names.lookup y == some .local) = true
  cell : d.scope.names.all (fun y => y.2 != .cell) = true
  bind : ∀ (doc pm : Value) (an : Option Addr) (cda cc : Addr) (ct : Value) (v : Value) (us : List Value), us.length = d.fs.length → bindArgs (PySem.W.ksFn "__init__" d.qual d.params d.body d.scope .none .none doc pm an (.ref cda) ct cc) ⟨v :: us, []⟩ = pure ((("self" : Str) :: d.fs).zip (v :: us))
  nd : (("self" : Str) :: d.fs).Nodup
  dbg : d.fs.all (fun f => !(f == ("__debug__" : Str))) = true
theorem fnB_ok {P : Program} {K : Frag} {C : Addr} {d : ErrD} (e : fnE K d = d.val) (h : fnB P K C (d.f K) d.qual = true) :
    ∃ (oc : Value) (od : Option Addr) (doc pm : Value) (an : Option Addr) (cda cc : Addr) (ct : Value) (osl : Array (Option Value)),
    K.lookup (d.f K) = some ⟨oc, od, .func (PySem.W.ksFn "__init__" d.qual d.params d.body d.scope .none .none doc pm an (.ref cda) ct cc), osl⟩ ∧ PySem.W.codeIn K (.ref cda) d.qual = true ∧
    (∃ ccl cdd vs ccs file tf, K.lookup cda = some ⟨ccl, cdd, .fields vs, ccs⟩ ∧ vs[2]? = some (.str file tf) ∧ ((P.main.file : Str) == file) = true) ∧ (∃ cl cld csl, K.lookup cc = some ⟨cl, cld, .cell (some (.ref C)), csl⟩) := by
  unfold fnB at h
  unfold fnE at e
  split at h
  · rename_i oc od fd osl ho
    rw [ho] at e
    obtain ⟨n1, n2, n3, n4, n5, n6, n7, n8, n9, n10, n11, n12, n13, n14, n15⟩ := fd
    have e2 : (some (n1, n2, n3, n4, n5, n6, n7.map (·.1), n15) : FnE) = (some ("__init__", d.qual, d.params, .stmts d.body, d.scope, mainGlobals, [("__class__" : Str)], builtinsNs) : FnE) := e
    simp only [Option.some.injEq, Prod.mk.injEq] at e2
    obtain ⟨h1, h2, h3, h4, h5, h6, h7, h8⟩ := e2
    subst h1 h2 h3 h4 h5 h6 h8
    dsimp only at h
    split at h
    · rename_i cda nmc cc
      have h7 : nmc = ("__class__" : Str) := by
        have h7 : [nmc] = [("__class__" : Str)] := h7
        exact (List.cons.inj h7).1
      subst h7
      obtain ⟨c1, c2⟩ := Bool.and_eq_true_iff.mp h
      obtain ⟨c3, c4⟩ := Bool.and_eq_true_iff.mp c2
      refine ⟨oc, od, n10, n11, n12, cda, cc, n14, osl, ho, c1, ?_, ?_⟩
      · split at c3
        · rename_i ccl cdd vs ccs hl
          split at c3
          · rename_i file tf hv
            exact ⟨_, _, _, _, _, _, hl, hv, c3⟩
          · cases c3
        · cases c3
      · split at c4
        · rename_i cl cld C' csl hl
          obtain rfl := beq_iff_eq.mp c4
          exact ⟨_, _, _, hl⟩
        · cases c4
    · cases h
  · cases h
theorem ErrD.errC {P : Program} {K : Frag} {h : Heap} {mg : Str → Option Value} {d : ErrD} (X : K.In h) (G : h.Ns mainGlobals mg) (T : ErrT P d) (e : fnE K d = d.val) (c : d.ok P K = true) :
    ErrC P K mg d.x d.fs (He.ga K d.x) (d.f K) ∧ XfC K (He.ga K d.x) ∧ mg d.x = some (.ref (He.ga K d.x)) := by
  unfold ErrD.ok at c
  obtain ⟨c1, c⟩ := He.ba c
  obtain ⟨c2, c⟩ := He.ba c
  obtain ⟨c3, c⟩ := He.ba c
  obtain ⟨c4, c⟩ := He.ba c
  obtain ⟨c5, c⟩ := He.ba c
  obtain ⟨c6, c⟩ := He.ba c
  obtain ⟨c7, c⟩ := He.ba c
  obtain ⟨c8, c⟩ := He.ba c
  obtain ⟨c9, c⟩ := He.ba c
  obtain ⟨c10, c⟩ := He.ba c
  obtain ⟨c11, c⟩ := He.ba c
  obtain ⟨c12, c⟩ := He.ba c
  obtain ⟨c13, c⟩ := He.ba c
  obtain ⟨c14, c⟩ := He.ba c
  obtain ⟨c15, c16⟩ := He.ba c
  obtain ⟨oc, od, doc, pm, an, cda, cc, ct, osl, f1, f2, f3, f4⟩ := fnB_ok e c15
  have g := PySem.W.mg_of X G (He.eqO_ok c1)
  exact ⟨{
    gC := g
    cls := clsB_ok c2
    sa := He.eqO_ok c3
    noN := fun f hf => He.eqO_ok (List.all_eq_true.mp c4 f hf)
    iC := He.eqO_ok c5
    tC := of_decide_eq_true c6
    kC := c7
    exC := of_decide_eq_true c8
    tyC := of_decide_eq_true c9
    veC := of_decide_eq_true c10
    sup := He.eqO_ok c11
    slf := of_decide_eq_true c12
    thi := He.eqO_ok c13
    noS := PySem.W.mg_none_of X G (He.eqO_ok c14)
    ftop := T.ftop
    ne := T.ne
    fn := ⟨oc, od, d.qual, d.params, d.body, d.scope, doc, pm, an, cda, cc, ct, osl, f1, f2, T.init, T.par, T.kind, T.co, T.gen, T.sup, T.cl, T.loc, T.cell, fun s v us hl => .of_eq (T.bind doc pm an cda cc ct v us hl), f3, f4⟩
    nd := T.nd
    dbg := T.dbg }, xfB_ok c16, g⟩

/-! ### a constant dict -/
def dvD : D → He.Dv
  | .int i => .int i
  | .str x => .str x
  | .bl b => .bl b
  | _ => .non
def kEnt (e : DictEntry) : Option (Key × Int) := match e.key with
  | .int i _ => some (.inl i, e.hash)
  | .str x _ => some (.inr x, e.hash)
  | _ => none
def dicE (K : Frag) (x : Str) : Option (List (Option (Key × Int))) := match K.lookup (He.ga K x) with
  | some ⟨.type c, none, .dict es _, sl⟩ => (match decide (c = "dict") && (sl.isEmpty && !(He.ga K x == sysModules)) with
    | true => some (es.toList.map kEnt)
    | false => none)
  | _ => none
def dicVals (K : Frag) (ds : List D) : List DictEntry → Bool := fun es => He.relAll (ds.map fun d => (dvD d).v K) (es.map (·.val))
def dicB (K : Frag) (x : Str) (ds : List D) : Bool := He.eqO (PySem.W.nsIn K mainGlobals x) (some (some (.ref (He.ga K x)))) && (match K.lookup (He.ga K x) with
  | some ⟨_, _, .dict es _, _⟩ => dicVals K ds es.toList
  | _ => false)
def dicV (w : World) (ks : List Key) : Option (List (Option (Key × Int))) := some (ks.map fun k => some (k, keyH w k))
theorem kEnt_ok {w : World} {e : DictEntry} {k : Key} (h : kEnt e = some (k, keyH w k)) : keyIs k e.key = true ∧ e.hash = keyH w k := by
  unfold kEnt at h
  split at h
  · rename_i i t q
    obtain ⟨h1, h2⟩ := Prod.mk.inj (Option.some.inj h)
    subst h1
    rw [q]
    exact ⟨keyIs_int _ _, h2⟩
  · rename_i i t q
    obtain ⟨h1, h2⟩ := Prod.mk.inj (Option.some.inj h)
    subst h1
    rw [q]
    exact ⟨keyIs_str _ _, h2⟩
  · cases h
theorem pairs_of {P : Program} {w : World} : ∀ {es : List DictEntry} {ks : List Key}, es.map kEnt = ks.map (fun k => some (k, keyH w k)) →
    (∀ e ∈ es, ∃ k, keyIs k e.key = true ∧ e.hash = keyH w k) ∧ Pairs (mixKind P w) es (ks.zip (es.map (·.val))) ∧ es.length = ks.length
  | [], [], _ => ⟨fun _ h => (nomatch h), .nil, rfl⟩
  | [], _ :: _, h => by cases h
  | _ :: _, [], h => by cases h
  | e :: es, k :: ks, h => by
    have h : kEnt e :: es.map kEnt = some (k, keyH w k) :: ks.map (fun k => some (k, keyH w k)) := h
    obtain ⟨h1, h2⟩ := List.cons.inj h
    obtain ⟨a, b, c⟩ := pairs_of (P := P) h2
    refine ⟨fun e' he => ?_, .cons (kEnt_ok h1).1 rfl b, congrArg (· + 1) c⟩
    rcases List.mem_cons.mp he with rfl | he
    · exact ⟨k, kEnt_ok h1⟩
    · exact a e' he
theorem kv_zipk : ∀ {ks : List Key} {vs : List V} {us : List Value}, Vals vs us → KV (ks.zip vs) (ks.zip us)
  | [], _, _, _ => .nil
  | _ :: _, _, _, .nil => .nil
  | _ :: ks, _ :: _, _ :: _, .cons r t => .cons ⟨rfl, r⟩ (kv_zipk (ks := ks) t)
theorem zip_mapk : ∀ (kd : List (Key × D)) (f : D → V), (kd.map (·.1)).zip ((kd.map (·.2)).map f) = kd.map fun p => (p.1, f p.2)
  | [], _ => rfl
  | p :: r, f => by
    have := zip_mapk r f
    simp only [List.map_cons, List.zip_cons_cons]
    rw [this]
theorem zipk_keys {κ α : Type} : ∀ {P : List κ} {us : List α}, P.length = us.length → (P.zip us).map (·.1) = P
  | [], [], _ => rfl
  | p :: P, u :: us, h => by
    show p :: (P.zip us).map (·.1) = _
    rw [zipk_keys (by simpa using h)]
theorem dvD_ok {K : Frag} {d : D} (h : scD d = true) : (dvD d).v K = vD d := by
  cases d <;> first | rfl | cases h
theorem dicOk {P : Program} {w : World} {K : Frag} {h : Heap} {mg : Str → Option Value} {x : Str} {kd : List (Key × D)} (X : K.In h) (G : h.Ns mainGlobals mg) (e : dicE K x = dicV w (kd.map (·.1))) (c : dicB K x (kd.map (·.2)) = true) (sc : kd.all (fun p => scD p.2) = true)
    (nd : (kd.map (·.1)).Nodup) : DicOk P w K mg x kd := by
  obtain ⟨c1, c2⟩ := He.ba c
  unfold dicE at e
  split at e
  · rename_i cn es n sl ho
    rw [ho] at c2
    split at e
    · rename_i z
      obtain ⟨z1, z2⟩ := He.ba z
      obtain ⟨z3, z4⟩ := He.ba z2
      have e1 : cn = "dict" := of_decide_eq_true z1
      have e2 : sl = #[] := Array.isEmpty_iff.mp z3
      have e3 : (He.ga K x == sysModules) = false := by
        cases y : He.ga K x == sysModules with
        | false => rfl
        | true => rw [y] at z4; cases z4
      subst e1 e2
      have e : some (es.toList.map kEnt) = dicV w (kd.map (·.1)) := e
      obtain ⟨p1, p2, p3⟩ := pairs_of (P := P) (Option.some.inj e)
      have rel : Vals ((kd.map (·.2)).map fun d => (dvD d).v K) (es.toList.map (·.val)) := He.relAll_ok c2
      have rel2 : KV ((kd.map (·.1)).zip ((kd.map (·.2)).map fun d => (dvD d).v K)) ((kd.map (·.1)).zip (es.toList.map (·.val))) := kv_zipk rel
      rw [zip_mapk] at rel2
      have em : (kd.map fun p => (p.1, (dvD p.2).v K)) = kd.map fun p => (p.1, vD p.2) := List.map_congr_left fun p hp => by rw [dvD_ok (List.all_eq_true.mp sc p hp)]
      rw [em] at rel2
      refine ⟨⟨_, PySem.W.mg_of X G (He.eqO_ok c1), ⟨e3, fun h X => ⟨_, rel2, ?_⟩⟩⟩, sc⟩
      refine ⟨_, es, n, X _ _ ho, ?_, rfl, fun e he => p1 e (by simpa using he), p2, ?_⟩
      · first | exact ⟨rfl, rfl⟩ | exact ⟨rfl, rfl, rfl⟩ | exact ⟨rfl, rfl, rfl, rfl⟩
      · have : ((kd.map (·.1)).zip (es.toList.map (·.val))).map (·.1) = kd.map (·.1) := zipk_keys (by rw [List.length_map (f := fun e : DictEntry => e.val)]; exact p3.symm)
        rw [this]; exact nd
    · cases e
  · cases e

/-! ### the Hook -/
structure Look where
  fa : List He.Fa
  fn : List He.DefD
  er : List ErrD
  dc : List (Str × List (Key × D))
def asX (g : Addr → Option Obj) : Nat → List Addr
  | 0 => [mainGlobals, cStatics]
  | n + 1 => He.growD g (asX g n)
abbrev AlX : Type := Bool × List He.FnW × List FnE × List (Option (List (Option (Key × Int))))
def obsX (P : Program) (L : Look) (K : Frag) : AlX := ((L.fa.all fun f => f.ok K) && ((L.fn.all fun d => d.ok K) && ((L.er.all fun d => d.ok P K) && L.dc.all fun d => dicB K d.1 (d.2.map (·.2)))), L.fn.map fun d => He.fnW K d.at_, L.er.map fun d => fnE K d, L.dc.map fun d => dicE K d.1)
def valX (L : Look) (w : World) : AlX := (true, L.fn.map He.DefD.val, L.er.map ErrD.val, L.dc.map fun d => dicV w (d.2.map (·.1)))
def SaysX (P : Program) (L : Look) (w : World) (K : Frag) : Prop := obsX P L K = valX L w
def obsXG (P : Program) (n : Nat) (L : Look) (g : Addr → Option Obj) : AlX := obsX P L (He.frG g (asX g n))
def hookX (P : Program) (n : Nat) (L : Look) : PySem.W.Hook where
  α := AlX
  obs := fun s => obsXG P n L s.heap.get?
  val := fun w => valX L w
  says := fun w h => ∃ K : Frag, K.In h ∧ SaysX P L w K
  of := fun _ _ e => ⟨_, He.frG_in, e⟩
  keeps := fun _ _ _ ⟨K, hK, c⟩ k => ⟨K, PySem.W.Frag.In.keeps hK k, c⟩
theorem obsXG_eq {P : Program} {n : Nat} {L : Look} {g : Addr → Option Obj} {s : Shared} (h : ∀ a, g a = s.heap.get? a) : obsXG P n L g = (hookX P n L).obs s := by
  have e : g = s.heap.get? := funext h
  rw [e] <;> rfl
section
variable {P : Program} {L : Look} {w : World} {K : Frag}
theorem SaysX.bools (c : SaysX P L w K) : (L.fa.all fun f => f.ok K) = true ∧ (L.fn.all fun d => d.ok K) = true ∧ (L.er.all fun d => d.ok P K) = true ∧ (L.dc.all fun d => dicB K d.1 (d.2.map (·.2))) = true := by
  have c1 : ((L.fa.all fun f => f.ok K) && ((L.fn.all fun d => d.ok K) && ((L.er.all fun d => d.ok P K) && L.dc.all fun d => dicB K d.1 (d.2.map (·.2))))) = true := congrArg (fun z : AlX => z.1) c
  obtain ⟨a, c1⟩ := He.ba c1
  obtain ⟨b, c1⟩ := He.ba c1
  obtain ⟨d, e⟩ := He.ba c1
  exact ⟨a, b, d, e⟩
theorem SaysX.fact (c : SaysX P L w K) (i : Nat) {f : He.Fa} (h : L.fa[i]? = some f := by rfl) : f.ok K = true := List.all_eq_true.mp c.bools.1 f (List.mem_of_getElem? h)
theorem SaysX.def_ (c : SaysX P L w K) (i : Nat) {d : He.DefD} (h : L.fn[i]? = some d := by rfl) : ∃ fd, FunD K d.name d.qual d.params d.body d.scope (d.dvs K) (d.kws K) (He.fAd K d.at_) fd := by
  have e : L.fn.map (fun d => He.fnW K d.at_) = L.fn.map He.DefD.val := congrArg (fun z : AlX => z.2.1) c
  have e2 : (L.fn.map fun d => He.fnW K d.at_)[i]? = (L.fn.map He.DefD.val)[i]? := by rw [e]
  rw [List.getElem?_map, List.getElem?_map, h] at e2
  exact He.DefD.funD (Option.some.inj e2) (List.all_eq_true.mp c.bools.2.1 d (List.mem_of_getElem? h))
theorem SaysX.err (c : SaysX P L w K) (i : Nat) {d : ErrD} (h : L.er[i]? = some d) {h0 : Heap} {mg : Str → Option Value} (X : K.In h0) (G : h0.Ns mainGlobals mg) (T : ErrT P d) :
    ErrC P K mg d.x d.fs (He.ga K d.x) (d.f K) ∧ XfC K (He.ga K d.x) ∧ mg d.x = some (.ref (He.ga K d.x)) := by
  have e : L.er.map (fun d => fnE K d) = L.er.map ErrD.val := congrArg (fun z : AlX => z.2.2.1) c
  have e2 : (L.er.map fun d => fnE K d)[i]? = (L.er.map ErrD.val)[i]? := by rw [e]
  rw [List.getElem?_map, List.getElem?_map, h] at e2
  exact ErrD.errC X G T (Option.some.inj e2) (List.all_eq_true.mp c.bools.2.2.1 d (List.mem_of_getElem? h))
theorem SaysX.dic (c : SaysX P L w K) (i : Nat) {d : Str × List (Key × D)} (h : L.dc[i]? = some d) {h0 : Heap} {mg : Str → Option Value} (X : K.In h0) (G : h0.Ns mainGlobals mg) (sc : d.2.all (fun p => scD p.2) = true) (nd : (d.2.map (·.1)).Nodup) : DicOk P w K mg d.1 d.2 := by
  have e : L.dc.map (fun d => dicE K d.1) = L.dc.map (fun d => dicV w (d.2.map (·.1))) := congrArg (fun z : AlX => z.2.2.2) c
  have e2 : (L.dc.map fun d => dicE K d.1)[i]? = (L.dc.map fun d => dicV w (d.2.map (·.1)))[i]? := by rw [e]
  rw [List.getElem?_map, List.getElem?_map, h] at e2
  exact dicOk X G (Option.some.inj e2) (List.all_eq_true.mp c.bools.2.2.2 d (List.mem_of_getElem? h)) sc nd
end
end DL

set_option Elab.async false
set_option linter.all false
set_option maxRecDepth 100000
/-! DLq: try in short, defs in short. -/
namespace DL
open PySem PySem.Spec PyProof.Rows L2

/-- which errors x catches, and whether: a table -/
structure ExTab (K : Frag) (mg : Str → Option Value) (x : Str) (l : List (Str × Bool)) (fs : List Str) : Prop where
  ex : ∃ c, mg x = some c ∧ ∀ p ∈ l, ∃ C : Addr, mg p.1 = some (.ref C) ∧ PySem.W.exmOne K (.ref C) c = some p.2 ∧ (p.2 = true → XfC K C ∧ ∀ f ∈ fs, PySem.W.findIn K (.ref C) f = some none)
def mtOf (l : List (Str × Bool)) : Str → Option Bool := fun c => l.lookup c
theorem mem_of_look {α : Type} {x : Str} {b : α} : ∀ {l : List (Str × α)}, l.lookup x = some b → (x, b) ∈ l
  | [], h => by cases h
  | (y, c) :: r, h => by
    rw [List.lookup_cons] at h
    cases q : x == y with
    | true =>
      rw [q] at h
      cases Option.some.inj h
      rw [beq_iff_eq.mp q]
      exact List.mem_cons_self
    | false => rw [q] at h; exact List.mem_cons_of_mem _ (mem_of_look h)
/-- except clauses that return parts of the error -/
inductive HdC (X : Cx) : List ExceptHandler → List HC → Prop
  | nil : HdC X [] []
  | cons {x n : Str} {l : List (Str × Bool)} {i k : Nat} {es : List Expr} {ps : List Part} {np p1 p2 p3 : Pos} {hds : List ExceptHandler} {hs : List HC} (T : ExTab X.K X.mg x l (fldsOf ps)) (hg : glB X.env.scope x = true) (hn : nameB X.N X.env.scope n i = true) (hl : lookB X.env.scope n nkLocal = true)
      (pa : PartsAt n es ps) (r : HdC X hds hs) : HdC X (.ExceptHandler (some (.Name x np)) (some n) [.Return (some (.Tuple es k p1)) p2] p3 :: hds) (⟨mtOf l, i, ps⟩ :: hs)
theorem HdC.out {X : Cx} {F0 H0 : Hp} {hds : List ExceptHandler} {hs : List HC} (h : HdC X hds hs) : ∃ cl, HdsA X hds cl ∧ ClsD X F0 H0 cl hs := by
  induction h with
  | nil => exact ⟨[], .nil, .nil⟩
  | @cons x n l i k es ps np p1 p2 p3 hds hs T hg hn hl pa r ih =>
    obtain ⟨cl, h1, h2⟩ := ih
    obtain ⟨c, hm, ht⟩ := T.ex
    obtain ⟨hN, hv, hd, hcd⟩ := nameB_ok hn
    have hX : FldsOk X ps (mtOf l) := fun cn cls h3 h4 => by
      obtain ⟨C, e1, e2, e3⟩ := ht (cn, true) (mem_of_look h4)
      rw [h3] at e1
      cases e1
      obtain ⟨a, b⟩ := e3 rfl
      exact ⟨C, rfl, a, b⟩
    refine ⟨_, .named (c := c) (ts := tSu X.K X.mg F0 H0 ⟨mtOf l, i, ps⟩) ⟨(glB_ok hg).1, (glB_ok hg).2, .inl hm⟩ hN (localB_ok hl) (fun a oe cls d pn hz hf => dss_parts (hc := ⟨mtOf l, i, ps⟩) hN hv hd hcd hz hf pa hX) h1, ClsD.cons (c := c) (n := n) (k := ⟨mtOf l, i, ps⟩) (fun cn cls b h3 h4 => ?_) h2⟩
    obtain ⟨C, e1, e2, e3⟩ := ht (cn, b) (mem_of_look h4)
    rw [h3] at e1
    cases e1
    exact e2
section
variable {X : Cx} {W : WX} {k : Nat} {F0 H0 : Hp} {pos : Pos}
theorem ytry {body : List Stmt} {h₀ : ExceptHandler} {hds : List ExceptHandler} {l : List HC} {f : Sm} (c : Sw X W k)
    (hb : ∀ (W : WX) (pn : List (Addr × Obj)) (xe : Value → Shared → Prop), Sw (X.tr pn xe) W k → PSs (X.tr pn xe) body (tS X.K X.mg F0 H0 W f))
    (hh : HdC X (h₀ :: hds) l) : PS X (.Try body (h₀ :: hds) [] [] pos) (tS X.K X.mg F0 H0 W (sTry f l)) := by
  obtain ⟨cl, h1, h2⟩ := hh.out (F0 := F0) (H0 := H0)
  exact ds_try c.hs c.hf c.nd c.tks (fun W pn xe tk hp => hb W pn xe (c.tr tk hp)) h1 h2
end

section
variable {P : Program} {w : World} {K : Frag} {mg : Str → Option Value} {base : Heap} {x qual : Str} {params : Arguments} {body : List Stmt} {scope : Scope} {N ps : List Str} {f : Addr} {fd : FuncData} {k : Nat} {sm : Sm}
/-- what a def's body is to satisfy -/
def BodyOk (P : Program) (w : World) (K : Frag) (mg : Str → Option Value) (N : List Str) (qual : Str) (body : List Stmt) (scope : Scope) (k : Nat) (sm : Sm) : Prop :=
  ∀ (base : Heap) (f : Addr) (cdv : Value) (A : Around) (outer : List Env) (s : Shared) (F0 H : Hp) (E : XK), Sw (bodyCx P w K mg base N qual scope f cdv A outer s H E) (fun cls d _ H => E cls d H) k →
    PSs (bodyCx P w K mg base N qual scope f cdv A outer s H E) body (tS K mg F0 H (fun cls d _ H => E cls d H) sm)
theorem fnOk_of (F : FunD K x qual params body scope [] [] f fd) (S : FnScope N ps scope) (hb : BodyOk P w K mg N qual body scope k sm) : FnOk P w K mg base (L2.CX P w) (k + 1) f fd ps (spD K mg ps.length (fnOf N.length sm)) :=
  fn_def F S fun cdv A outer s F0 H E hr tk => hb base f cdv A outer s F0 H E (Sw.body S.nd hr tk)
theorem defOk_of (F : FunD K x qual params body scope [] [] f fd) (hm : mg x = some (.ref f)) (S : FnScope N ps scope)
    (bi : ∀ (kV doc pm : Value) (an : Option Addr) (cdv ct : Value) (us : List Value), us.length = ps.length → bindArgs (PySem.W.fnOf x qual params body scope .none kV doc pm an cdv ct) ⟨us, []⟩ = pure (ps.zip us))
    (hb : BodyOk P w K mg N qual body scope k sm) : DefOk P w K mg base (k + 1) x ps.length (fnOf N.length sm) :=
  ⟨f, fd, ps, hm, F.kp, F.bindsN bi, rfl, fnOk_of F S hb⟩
/-- a def that calls itself: as deep as n -/
def fnRec (m : Nat) (step : Fn → Sm) : Nat → Fn
  | 0 => fun _ => none
  | n + 1 => fnOf m (step (fnRec m step n))
theorem recOk_of {step : Fn → Sm} (F : FunD K x qual params body scope [] [] f fd) (hm : mg x = some (.ref f)) (S : FnScope N ps scope)
    (bi : ∀ (kV doc pm : Value) (an : Option Addr) (cdv ct : Value) (us : List Value), us.length = ps.length → bindArgs (PySem.W.fnOf x qual params body scope .none kV doc pm an cdv ct) ⟨us, []⟩ = pure (ps.zip us))
    (hb : ∀ n fn, DefOk P w K mg base n x ps.length fn → k ≤ n → ∀ (f : Addr) (cdv : Value) (A : Around) (outer : List Env) (s : Shared) (F0 H : Hp) (E : XK), Sw (bodyCx P w K mg base N qual scope f cdv A outer s H E) (fun cls d _ H => E cls d H) n →
      PSs (bodyCx P w K mg base N qual scope f cdv A outer s H E) body (tS K mg F0 H (fun cls d _ H => E cls d H) (step fn))) :
    ∀ n, DefOk P w K mg base (k + n + 1) x ps.length (fnRec N.length step n)
  | 0 => ⟨f, fd, ps, hm, F.kp, F.bindsN bi, rfl, F.ok S (fun vs H Q E h => spD_len vs H Q E h) fun cdv A outer s H vs Q E hr h => by
      obtain ⟨F0, ds, r, hs, hfl, rs, hl, hfn, want⟩ := h
      cases hfn⟩
  | n + 1 => by
    have ih := recOk_of F hm S bi hb n
    refine ⟨f, fd, ps, hm, F.kp, F.bindsN bi, rfl, ?_⟩
    exact fn_def (k := k + n + 1) F S fun cdv A outer s F0 H E hr tk => hb _ _ ih (by omega) f cdv A outer s F0 H E (Sw.body S.nd hr tk)
end
end DL
namespace DL
open PySem PySem.Spec PyProof.Rows L2
theorem yraiseE {X : Cx} {W : WX} {k : Nat} {F0 H0 : Hp} {x : Str} {e : Expr} {es : List Expr} {g : Lx} {pos p pos2 : Pos} {fs : List Str} (c : Sw X W k) (T : ∃ C fI : Addr, ErrC X.prog X.K X.mg x fs C fI) (hz : fs.length ≤ 900) (h : glB X.env.scope x = true) (ha : PA X (e :: es) (tA X.K X.mg W g)) (hs : (e :: es).all noStar = true) :
    PS X (.Raise (some (.Call (.Name x p) (e :: es) [] pos)) none pos2) (tS X.K X.mg F0 H0 W (sRaise x fs g)) := let ⟨_, _, T⟩ := T; yraise c T hz h ha hs
end DL

set_option Elab.async false
set_option linter.all false
set_option maxRecDepth 100000
/-! DLr: a law's end. -/
namespace DL
open PySem PySem.Spec PyProof.Rows L2
theorem sp_law {K : Frag} {mg : Str → Option Value} {fn : Fn} {ns : List Int} {H : Hp} {a : Addr} (hm : fn [.scr ns] = some (.val (.bl true))) (hS : SqL K H a (ns.map V.int)) : spD K mg 1 fn [.ref a] H (fun v _ => v = .bl true) fun _ _ _ => False :=
  ⟨H, [.scr ns], .val (.bl true), fun _ _ e => e, fun _ _ e => .inl e, .cons (.scr hS) .nil, rfl, hm, fun v F' H' _ r => r.bl_inv⟩
theorem law_end {l : PySem.W.OpenLaw} {n k m : Nat} {q : Program} {loose : List Str} {XP : (Str → Option Value) → Heap → Prop} {L : Look} {d : DefRec} {x : Str} {fn : Fn}
    (hn : l.most = some n) (hn2 : n ≤ sizeLine) (hdf : d.params.defaults = []) (hr : Room k callerA)
    (F : ∀ (w : World) (mg : Str → Option Value) (K : Frag) (h : Heap), SaysX l.prog L w K → K.In h → h.Ns mainGlobals mg → ∃ (f : Addr) (fd : FuncData), mg d.name = some (.ref f) ∧ (∀ (s : Shared) (us : List Value), us.length = [x].length → BindsTo s fd ⟨us, []⟩ ([x].zip us)) ∧
      ∀ base : Heap, FnOk l.prog w K mg base (L2.CX l.prog w) k f fd [x] (spD K mg 1 fn))
    (hm : ∀ ns : List Int, ns.length ≤ n → (∀ z ∈ ns, Builtin.Int.intBits z ≤ 1048576) → fn [.scr ns] = some (.val (.bl true))) :
    PySem.W.WalkO q loose XP (hookX l.prog m L).says l.row.toRowW d [] (fun f vs => PySem.call f vs) := by
  refine Att.attach_callB hn hdf fun w s₀ s₁ mg mb fa o pm cd doc a vs ns G Y ho hd hcd hmg hobj hints hlen hbits hg => ?_
  obtain ⟨K, KX, c⟩ := Y
  obtain ⟨f, fd, hf, hb, hF⟩ := F w mg K _ c KX G.T.g
  rw [hmg] at hf
  cases hf
  exact law_call KX G.T.g G.T.b G.T.builtins G.T.nolimit hg hobj hints (Nat.le_trans hlen hn2) hr (fun base _ _ => hF base) (fun s u => hb s [u] rfl) (fun H hO hS => sp_law (hm ns hlen hbits) hS) fun H e s' c => by
    obtain ⟨_, _, _, _, _, _, _, _, _, _, _, _, hE⟩ := c
    exact hE
end DL

set_option Elab.async false
set_option linter.all false
set_option maxRecDepth 100000
/-! DLm: the readings computed: simp lemmas. -/
namespace DL
open PySem PySem.Spec PyProof.Rows L2

section
variable {ρ : Rho} {h : List Cell} {i : Nat} {d : D} {f g t : Sx} {fs : List Sx} {l : Lx} {m : Mx} {n : Nx}
@[simp] theorem m_var : sVar i ρ h = match ρ[i]? with | some (some d) => some (.ok d) | _ => none := rfl
@[simp] theorem m_cst : sCst d ρ h = some (.ok d) := rfl
@[simp] theorem m_bin {op : Operator} : sBin op f g ρ h = bnd (f ρ h) fun x => bnd (g ρ h) fun y => vok (binD op h x y) := rfl
@[simp] theorem m_cmp {op : CmpOp} : sCmp op f g ρ h = bnd (f ρ h) fun x => bnd (g ρ h) fun y => vok (cmpD op h x y) := rfl
@[simp] theorem m_chain {op op' : CmpOp} : sChain op op' f g t ρ h = bnd (f ρ h) fun x => bnd (g ρ h) fun y => bndB (vok (cmpD op h x y)) fun k => if k = true then bnd (t ρ h) fun z => vok (cmpD op' h y z) else some (.ok (.bl false)) := rfl
@[simp] theorem m_bndB_ok {b : Bool} {k : Bool → Option Res} : bndB (some (.ok (.bl b))) k = k b := rfl
@[simp] theorem m_bndB_exc {c : Str} {es : List (Str × D)} {k : Bool → Option Res} : bndB (some (.exc c es)) k = some (.exc c es) := rfl
@[simp] theorem m_bndB_none {k : Bool → Option Res} : bndB none k = none := rfl
@[simp] theorem m_tru : sTru f ρ h = bnd (f ρ h) fun x => vok ((truD h x).map .bl) := rfl
@[simp] theorem m_not : sNot f ρ h = bndB (f ρ h) fun b => some (.ok (.bl (!b))) := rfl
@[simp] theorem m_and : sAnd f g ρ h = bndB (f ρ h) fun b => if b = true then g ρ h else some (.ok (.bl false)) := rfl
@[simp] theorem m_or : sOr f g ρ h = bndB (f ρ h) fun b => if b = true then some (.ok (.bl true)) else g ρ h := rfl
@[simp] theorem m_andV : sAndV f g ρ h = bnd (f ρ h) fun x => match truD h x with | some true => g ρ h | some false => some (.ok x) | none => none := rfl
@[simp] theorem m_orV : sOrV f g ρ h = bnd (f ρ h) fun x => match truD h x with | some true => some (.ok x) | some false => g ρ h | none => none := rfl
@[simp] theorem m_if : sIf t f g ρ h = bndB (t ρ h) fun b => if b = true then f ρ h else g ρ h := rfl
@[simp] theorem m_un {op : UnaryOp} : sUn op f ρ h = bnd (f ρ h) fun x => vok (unD op x) := rfl
@[simp] theorem m_nil : sNil ρ h = some (.ok []) := rfl
@[simp] theorem m_cons : sCons f l ρ h = consL (f ρ h) (l ρ h) := rfl
@[simp] theorem m_consL {ds : List D} : consL (some (.ok d)) (some (.ok ds)) = some (.ok (d :: ds)) := rfl
@[simp] theorem m_star : sStar f l ρ h = appL (f ρ h) h (l ρ h) := rfl
@[simp] theorem m_tup : sTup l ρ h = bndL (l ρ h) (okLen .tup) := rfl
@[simp] theorem m_lst : sLst l ρ h = bndL (l ρ h) (okLen .lst) := rfl
@[simp] theorem m_ix : sIx f g ρ h = bnd (f ρ h) fun x => bnd (g ρ h) fun y => vok (ixD h x y) := rfl
@[simp] theorem m_bi {b : Bi} : sBi b l ρ h = bndL (l ρ h) fun ds => vok (biD b h ds) := rfl
@[simp] theorem m_call {k : Nat} {fn : Fn} : sCall k fn l ρ h = bndL (l ρ h) fun ds => if ds.length = k then appF fn h ds else none := rfl
@[simp] theorem m_isi {T : Tb} : sIsi T f ρ h = bnd (f ρ h) fun x => vok ((tiD h x).map fun t => .bl (isiT T t)) := rfl
@[simp] theorem m_strM {k : Str → List Cell → D → Option D} : sStrM k f g ρ h = bnd (f ρ h) fun x => onStr x fun a => bnd (g ρ h) fun d => vok (k a h d) := rfl
@[simp] theorem m_onStr {a : Str} {k : Str → Option Res} : onStr (.str a) k = k a := rfl
@[simp] theorem m_index : sIndex f g ρ h = bnd (f ρ h) fun x => onLst h x fun xs => bnd (g ρ h) fun d => vok (gIndex h xs d) := rfl
@[simp] theorem m_fmt : sFmt f ρ h = bnd (f ρ h) fun x => vok (fmtD x) := rfl
@[simp] theorem m_lenSet : sLenSet f ρ h = bnd (f ρ h) fun x => vok (lenSetD x) := rfl
@[simp] theorem m_dget {kd : List (Key × D)} : sDGet kd f ρ h = bnd (f ρ h) fun d => match keyD d with | some k => vok (lookK kd k) | none => none := rfl
@[simp] theorem m_din {neg : Bool} {kd : List (Key × D)} : sDIn neg kd f ρ h = bnd (f ρ h) fun d => match keyD d with | some k => some (.ok (.bl (if neg then !(lookK kd k).isSome else (lookK kd k).isSome))) | none => none := rfl
@[simp] theorem m_sl {lo hi : Option Sx} : sSl f lo hi ρ h = bnd (f ρ h) fun x => bnd (sPart lo ρ h) fun l => match partD l with | some l => bnd (sPart hi ρ h) fun u => (match partD u with | some u => vok (slD h x l u) | none => none) | none => none := rfl
@[simp] theorem m_part0 : sPart none ρ h = some (.ok .non) := rfl
@[simp] theorem m_part1 : sPart (some f) ρ h = bnd (f ρ h) intOnly := rfl
@[simp] theorem m_intOnly {i : Int} : intOnly (.int i) = some (.ok (.int i)) := rfl
@[simp] theorem m_partD0 : partD .non = some none := rfl
@[simp] theorem m_partD1 {i : Int} : partD (.int i) = some (some i) := rfl
@[simp] theorem m_yes : sYes ρ h = some (.ok (.bl true)) := rfl
/-! stateful -/
@[simp] theorem m_lift : liftM f ρ h = match f ρ h with | some (.ok d) => some (.ok d h) | some (.exc c es) => some (.exc c es h) | none => none := rfl
@[simp] theorem m_bndM_ok {k : D → List Cell → Option ResM} : bndM (some (.ok d h)) k = k d h := rfl
@[simp] theorem m_bndDM_ok {k : D → Option ResM} : bndDM (some (.ok d)) h k = k d := rfl
@[simp] theorem m_bndDM_exc {c : Str} {es : List (Str × D)} {k : D → Option ResM} : bndDM (some (.exc c es)) h k = some (.exc c es h) := rfl
@[simp] theorem m_bndLM_ok {ds : List D} {k : List D → Option ResM} : bndLM (some (.ok ds)) h k = k ds := rfl
@[simp] theorem m_bndNM_ok {ds : List D} {k : List D → List Cell → Option ResM} : bndNM (some (.ok ds h)) k = k ds h := rfl
@[simp] theorem m_nNil : nNil ρ h = some (.ok [] h) := rfl
@[simp] theorem m_nCons : nCons m n ρ h = match m ρ h with | some (.ok d h1) => (match n ρ h1 with | some (.ok ds h2) => some (.ok (d :: ds) h2) | x => x) | some (.exc c fs h1) => some (.exc c fs h1) | none => none := rfl
@[simp] theorem m_mLst : mLst n ρ h = bndNM (n ρ h) fun ds h1 => ownM h1 ds := rfl
@[simp] theorem m_mList : mList f ρ h = bndDM (f ρ h) h fun d => (match seqD h d with | some xs => ownM h xs | none => none) := rfl
@[simp] theorem m_mMu {q : Mu} : mMu q f n ρ h = bndDM (f ρ h) h fun x => if isRefD x = true then bndNM (n ρ h) fun ds h1 => mutEnd q x ds h1 else none := rfl
@[simp] theorem m_mMu0 {q : Mu} : mMu0 q f ρ h = bndDM (f ρ h) h fun x => if isRefD x = true then mutEnd q x [] h else none := rfl
@[simp] theorem m_mCall {k : Nat} {fn : Fn} : mCall k fn l ρ h = bndLM (l ρ h) h fun ds => if ds.length = k then appM fn h ds else none := rfl
@[simp] theorem m_isRef {k : Nat} : isRefD (.ref k) = true := rfl
/-! statements -/
variable {a b : Sm} {o : Out}
@[simp] theorem m_next : sNext ρ h = some (.nx ρ h) := rfl
@[simp] theorem m_break : sBreak ρ h = some (.bk ρ h) := rfl
@[simp] theorem m_cont : sCont ρ h = some (.ct ρ h) := rfl
@[simp] theorem m_seq : sSeq a b ρ h = match a ρ h with | some (.nx ρ h) => b ρ h | x => x := rfl
@[simp] theorem m_bndS_ok {k : D → List Cell → Option Out} : bndS (some (.ok d h)) ρ k = k d h := rfl
@[simp] theorem m_bndS_exc {c : Str} {es : List (Str × D)} {k : D → List Cell → Option Out} : bndS (some (.exc c es h)) ρ k = some (.exc c es ρ h) := rfl
@[simp] theorem m_bndDS_ok {k : D → Option Out} : bndDS (some (.ok d)) ρ h k = k d := rfl
@[simp] theorem m_bndBS_ok {b : Bool} {k : Bool → Option Out} : bndBS (some (.ok (.bl b))) ρ h k = k b := rfl
@[simp] theorem m_bndBS_exc {c : Str} {es : List (Str × D)} {k : Bool → Option Out} : bndBS (some (.exc c es)) ρ h k = some (.exc c es ρ h) := rfl
@[simp] theorem m_drop : sDrop m ρ h = bndS (m ρ h) ρ fun _ h1 => some (.nx ρ h1) := rfl
@[simp] theorem m_set : sSet i m ρ h = bndS (m ρ h) ρ fun d h1 => some (.nx (ρ.set i (some d)) h1) := rfl
@[simp] theorem m_asg {gx : Gx} : sAsg gx m ρ h = bndS (m ρ h) ρ fun d h1 => (match gx d ρ with | some ρ1 => some (.nx ρ1 h1) | none => none) := rfl
@[simp] theorem m_put {fo fi : Sx} : sPut fo fi m ρ h = bndS (m ρ h) ρ fun d h1 => bndDS (fo ρ h1) ρ h1 fun x => bndDS (fi ρ h1) ρ h1 fun y => putEnd x y d h1 ρ := rfl
@[simp] theorem m_ifS : sIfS t a b ρ h = bndBS (t ρ h) ρ h fun k => if k = true then a ρ h else b ρ h := rfl
@[simp] theorem m_ret : sRet m ρ h = bndS (m ρ h) ρ fun d h1 => retD h1 d := rfl
@[simp] theorem m_retN : sRetN ρ h = some (.rt (.val .non)) := rfl
@[simp] theorem m_gxName : gxName i d ρ = some (ρ.set i (some d)) := rfl
@[simp] theorem m_gxNil : gxNil [] ρ = some ρ := rfl
@[simp] theorem m_gxCons {gx : Gx} {gs : Gxs} {ds : List D} : gxCons gx gs (d :: ds) ρ = match gx d ρ with | some ρ1 => gs ds ρ1 | none => none := rfl
@[simp] theorem m_gxTup {k : Nat} {gs : Gxs} {ds : List D} : gxTup k gs (.tup ds) ρ = if ds.length = k then gs ds ρ else none := rfl
@[simp] theorem m_raise {c : Str} {fs : List Str} : sRaise c fs l ρ h = match l ρ h with | some (.ok ds) => if ds.length = fs.length then some (.exc c (fs.zip ds).reverse ρ h) else none | some (.exc c' fs') => some (.exc c' fs' ρ h) | none => none := rfl
@[simp] theorem m_try {hs : List HC} : sTry a hs ρ h = match a ρ h with | some (.exc c fs ρ' h') => handleD c fs ρ' h' hs | o => o := rfl
@[simp] theorem m_wipe0 : wipeR ρ [] = ρ := rfl
@[simp] theorem m_wipe1 {v : Nat} {vs : List Nat} : wipeR ρ (v :: vs) = (wipeR ρ vs).set v none := rfl
end

/-! ### loops over lists -/
/-- for: what the items are -/
def forL (gx : Gx) (body els : Sm) : List D → Rho → List Cell → Option Out
  | [], ρ, h => els ρ h
  | d :: ds, ρ, h => match gx d ρ with
    | none => none
    | some ρ1 => match body ρ1 h with
      | some (.nx ρ2 h2) => forL gx body els ds ρ2 h2
      | some (.ct ρ2 h2) => forL gx body els ds ρ2 h2
      | some (.bk ρ2 h2) => some (.nx ρ2 h2)
      | x => x
theorem loopS_from (itm : List Cell → Nat → Option D) (xs : List D) (hi : ∀ h i, itm h i = xs[i]?) (gx : Gx) (body els : Sm) : ∀ (ys pre : List D), xs = pre ++ ys → ∀ ρ h, loopS itm gx body els ys.length pre.length ρ h = forL gx body els ys ρ h
  | [], pre, e, ρ, h => by
    subst e
    show (match itm h pre.length with | none => els ρ h | some _ => none) = els ρ h
    rw [hi]
    simp
  | d :: ys, pre, e, ρ, h => by
    have ih := loopS_from itm xs hi gx body els ys (pre ++ [d]) (by simp [e])
    subst e
    show (match itm h pre.length with | none => els ρ h | some d => _) = (match gx d ρ with | none => none | some ρ1 => _)
    rw [hi]
    simp only [List.getElem?_append_right (Nat.le_refl _), Nat.sub_self, List.getElem?_cons_zero]
    cases gx d ρ with
    | none => rfl
    | some ρ1 =>
      dsimp only
      have el : (pre ++ [d]).length = pre.length + 1 := by simp
      rw [el] at ih
      cases body ρ1 h with
      | none => rfl
      | some x => cases x <;> first | rfl | exact ih _ _
theorem loopS_list {itm : List Cell → Nat → Option D} {n : Nat} (xs : List D) (hi : ∀ h i, itm h i = xs[i]?) (hn : n = xs.length) {gx : Gx} {body els : Sm} {ρ : Rho} {h : List Cell} : loopS itm gx body els n 0 ρ h = forL gx body els xs ρ h := by
  subst hn
  exact loopS_from itm xs hi gx body els xs [] rfl ρ h
/-- a walk over items that do not change -/
def listI (x : Option ItR) : Option (List D) → Prop
  | some xs => ∃ itm, x = some (.ok itm xs.length) ∧ ∀ h i, itm h i = xs[i]?
  | none => False
theorem sFor_list {ix : Ix} {gx : Gx} {body els : Sm} {ρ : Rho} {h : List Cell} {xs : List D} (hx : listI (ix ρ h) (some xs)) : sFor ix gx body els ρ h = forL gx body els xs ρ h := by
  obtain ⟨itm, e, hi⟩ := hx
  show bndIS (ix ρ h) ρ h _ = _
  rw [e]
  exact loopS_list xs hi rfl
/-- a comprehension -/
def comL (gx : Gx) (tst elt : Sx) (ρ : Rho) (h : List Cell) : List D → Option ResL
  | [] => some (.ok [])
  | d :: ds => match gx d ρ with
    | none => none
    | some ρ1 => match tst ρ1 h with
      | some (.ok (.bl true)) => consL (elt ρ1 h) (comL gx tst elt ρ h ds)
      | some (.ok (.bl false)) => comL gx tst elt ρ h ds
      | some (.exc c fs) => some (.exc c fs)
      | _ => none
theorem compD_from (itm : List Cell → Nat → Option D) (xs : List D) (gx : Gx) (tst elt : Sx) (ρ : Rho) (h : List Cell) (hi : ∀ i, itm h i = xs[i]?) : ∀ (ys pre : List D), xs = pre ++ ys → compD itm gx tst elt ρ h ys.length pre.length = comL gx tst elt ρ h ys
  | [], pre, e => by
    subst e
    show (match itm h pre.length with | none => some (ResL.ok []) | some _ => none) = some (ResL.ok [])
    rw [hi]
    simp
  | d :: ys, pre, e => by
    have ih := compD_from itm xs gx tst elt ρ h hi ys (pre ++ [d]) (by simp [e])
    subst e
    show (match itm h pre.length with | none => some (ResL.ok []) | some d => _) = (match gx d ρ with | none => none | some ρ1 => _)
    rw [hi]
    simp only [List.getElem?_append_right (Nat.le_refl _), Nat.sub_self, List.getElem?_cons_zero]
    have el : (pre ++ [d]).length = pre.length + 1 := by simp
    rw [el] at ih
    cases gx d ρ with
    | none => rfl
    | some ρ1 =>
      dsimp only
      rw [ih]
      try rfl
theorem compR_list {vs : List Nat} {ix : Ix} {gx : Gx} {tst elt : Sx} {ρ : Rho} {h : List Cell} {xs : List D} (hx : listI (ix ρ h) (some xs)) (hn : xs.length ≤ sizeLine) : compR vs ix gx tst elt ρ h = comL gx tst elt (wipeR ρ vs) h xs := by
  obtain ⟨itm, e, hi⟩ := hx
  show bndIR (ix ρ h) _ = _
  rw [e]
  show (if xs.length ≤ sizeLine then compD itm gx tst elt (wipeR ρ vs) h xs.length 0 else none) = _
  rw [if_pos hn]
  exact compD_from itm xs gx tst elt _ h (hi h) xs [] rfl
theorem sComp_list {vs : List Nat} {ix : Ix} {gx : Gx} {tst elt : Sx} {ρ : Rho} {h : List Cell} {xs ds : List D} (hx : listI (ix ρ h) (some xs)) (hn : xs.length ≤ sizeLine) (hc : comL gx tst elt (wipeR ρ vs) h xs = some (.ok ds)) : sComp vs ix gx tst elt ρ h = some (.ok (.lst ds)) := by
  show bndL (compR vs ix gx tst elt ρ h) _ = _
  rw [compR_list hx hn, hc]; rfl
theorem mComp_list {vs : List Nat} {ix : Ix} {gx : Gx} {tst elt : Sx} {ρ : Rho} {h : List Cell} {xs ds : List D} (hx : listI (ix ρ h) (some xs)) (hn : xs.length ≤ sizeLine) (hc : comL gx tst elt (wipeR ρ vs) h xs = some (.ok ds)) : mComp vs ix gx tst elt ρ h = some (.ok (.ref h.length) (h ++ [.lst ds])) := by
  show bndLM (compR vs ix gx tst elt ρ h) h _ = _
  rw [compR_list hx hn, hc]; rfl
/-- every item gives its element -/
theorem comL_map {gx : Gx} {tst elt : Sx} {ρ : Rho} {h : List Cell} {α : Type} {e : α → D} {g : α → D} : ∀ {xs : List α}, (∀ x ∈ xs, ∃ ρ1, gx (e x) ρ = some ρ1 ∧ tst ρ1 h = some (.ok (.bl true)) ∧ elt ρ1 h = some (.ok (g x))) → comL gx tst elt ρ h (xs.map e) = some (.ok (xs.map g))
  | [], _ => rfl
  | x :: xs, H => by
    obtain ⟨ρ1, h1, h2, h3⟩ := H x List.mem_cons_self
    have ih := comL_map (xs := xs) fun y hy => H y (List.mem_cons_of_mem _ hy)
    show (match gx (e x) ρ with | none => none | some ρ1 => _) = _
    rw [h1]
    dsimp only
    rw [h2]
    dsimp only
    rw [h3, ih]; rfl
/-- .. if its test holds -/
theorem comL_filter {gx : Gx} {tst elt : Sx} {ρ : Rho} {h : List Cell} {α : Type} {e : α → D} {g : α → D} {p : α → Bool} : ∀ {xs : List α}, (∀ x ∈ xs, ∃ ρ1, gx (e x) ρ = some ρ1 ∧ tst ρ1 h = some (.ok (.bl (p x))) ∧ (p x = true → elt ρ1 h = some (.ok (g x)))) → comL gx tst elt ρ h (xs.map e) = some (.ok ((xs.filter p).map g))
  | [], _ => rfl
  | x :: xs, H => by
    obtain ⟨ρ1, h1, h2, h3⟩ := H x List.mem_cons_self
    have ih := comL_filter (xs := xs) fun y hy => H y (List.mem_cons_of_mem _ hy)
    show (match gx (e x) ρ with | none => none | some ρ1 => _) = _
    rw [h1]
    dsimp only
    rw [h2]
    cases hp : p x with
    | true => dsimp only; rw [h3 hp, ih, List.filter_cons, hp]; rfl
    | false => dsimp only; rw [ih, List.filter_cons, hp]; rfl
/-! the walks -/
section
variable {ρ : Rho} {h : List Cell} {f : Sx} {l : Lx}
theorem li_lst {xs : List D} (e : f ρ h = some (.ok (.lst xs))) : listI (iData f ρ h) (some xs) := ⟨fun _ i => xs[i]?, by unfold iData; rw [e]; rfl, fun _ _ => rfl⟩
theorem li_tup {xs : List D} (e : f ρ h = some (.ok (.tup xs))) : listI (iData f ρ h) (some xs) := ⟨fun _ i => xs[i]?, by unfold iData; rw [e]; rfl, fun _ _ => rfl⟩
theorem li_str {z : Str} (e : f ρ h = some (.ok (.str z))) : listI (iData f ρ h) (some (z.cps.toList.map fun c => .str ⟨#[c]⟩)) :=
  ⟨fun _ i => (z.cps[i]?).map fun c => .str ⟨#[c]⟩, by unfold iData; rw [e]; show itmD h (.str z) = _; unfold itmD; simp, fun _ i => by simp⟩
theorem li_scr {ns : List Int} (e : f ρ h = some (.ok (.scr ns))) : listI (iData f ρ h) (some (ns.map .int)) :=
  ⟨fun _ i => (ns[i]?).map .int, by unfold iData; rw [e]; show itmD h (.scr ns) = _; unfold itmD; simp, fun _ i => by simp⟩
/-- lo, lo + 1, .. -/
def rngL (lo : Int) (n : Nat) : List D := (List.range n).map fun i => .int (lo + (i : Nat))
theorem rngI_list {lo hi : Int} (h1 : -(2 ^ 62) ≤ lo) (h2 : lo < 2 ^ 62) (h3 : -(2 ^ 62) ≤ hi) (h4 : hi < 2 ^ 62) : listI (rngI lo hi) (some (rngL lo (hi - lo).toNat)) := by
  refine ⟨fun _ i => if i < (hi - lo).toNat then some (.int (lo + i)) else none, ?_, fun _ i => ?_⟩
  · unfold rngI rngL
    rw [if_pos ⟨h1, h2, h3, h4⟩]
    simp
  · unfold rngL
    rw [List.getElem?_map]
    dsimp only
    by_cases c : i < (hi - lo).toNat
    · rw [if_pos c, List.getElem?_range c]; rfl
    · rw [if_neg c, List.getElem?_eq_none (by simpa using c)]; rfl
theorem li_range1 {j : Int} (e : l ρ h = some (.ok [.int j])) (h1 : 0 ≤ j) (h2 : j < 2 ^ 62) : listI (iRange1 l ρ h) (some (rngL 0 j.toNat)) := by
  unfold iRange1; rw [e]
  have := rngI_list (lo := 0) (hi := j) (by decide) (by decide) (by omega) h2
  rw [Int.sub_zero] at this
  exact this
theorem li_range2 {i j : Int} (e : l ρ h = some (.ok [.int i, .int j])) (h0 : -(2 ^ 62) ≤ i) (h1 : i < 2 ^ 62) (h3 : -(2 ^ 62) ≤ j) (h2 : j < 2 ^ 62) : listI (iRange2 l ρ h) (some (rngL i (j - i).toNat)) := by
  unfold iRange2; rw [e]
  exact rngI_list h0 h1 h3 h2
theorem li_enumL {xs : List D} (e : l ρ h = some (.ok [.lst xs])) : listI (iEnumD l ρ h) (some (xs.mapIdx fun i d => .tup [.int (i : Nat), d])) :=
  ⟨fun _ i => (xs[i]?).map fun d => .tup [.int (i : Nat), d], by unfold iEnumD; rw [e]; show enumD [.lst xs] = _; unfold enumD; simp, fun _ i => by simp⟩
theorem li_enumT {xs : List D} (e : l ρ h = some (.ok [.tup xs])) : listI (iEnumD l ρ h) (some (xs.mapIdx fun i d => .tup [.int (i : Nat), d])) :=
  ⟨fun _ i => (xs[i]?).map fun d => .tup [.int (i : Nat), d], by unfold iEnumD; rw [e]; show enumD [.tup xs] = _; unfold enumD; simp, fun _ i => by simp⟩
theorem zip_get : ∀ {xs ys : List D} (i : Nat), (match xs[i]?, ys[i]? with | some a, some b => some (D.tup [a, b]) | _, _ => none) = ((xs.zip ys).map fun p => D.tup [p.1, p.2])[i]?
  | [], _, _ => by simp
  | _ :: _, [], _ => by simp
  | x :: xs, y :: ys, 0 => by simp
  | x :: xs, y :: ys, i + 1 => by simpa using zip_get (xs := xs) (ys := ys) i
theorem li_zipT {xs ys : List D} (e : l ρ h = some (.ok [.tup xs, .tup ys])) : listI (iZipD l ρ h) (some ((xs.zip ys).map fun p => .tup [p.1, p.2])) :=
  ⟨_, by unfold iZipD; rw [e]; show zipI [.tup xs, .tup ys] = _; unfold zipI; simp; (try rfl), fun _ i => zip_get i⟩
end
end DL

set_option Elab.async false
set_option linter.all false
set_option maxRecDepth 100000
/-! DLo: operations on known shapes. -/
namespace DL
open PySem PySem.Spec PyProof.Rows L2
section
variable {h : List Cell} {a b i j : Int} {x y s : Str} {xs ys : List D} {n : Nat}
@[simp] theorem o_add_ii : binD .Add h (.int a) (.int b) = some (.int (a + b)) := rfl
@[simp] theorem o_sub_ii : binD .Sub h (.int a) (.int b) = some (.int (a - b)) := rfl
@[simp] theorem o_mul_ii : binD .Mult h (.int a) (.int b) = if cMul a b = true then some (.int (a * b)) else none := by
  show orG (gI cMul fun i j => .int (i * j)) (orG gRep gRepS) h (.int a) (.int b) = _
  unfold orG gI
  dsimp only
  cases cMul a b <;> rfl
@[simp] theorem o_mod_ii : binD .Mod h (.int a) (.int b) = if 0 < b then some (.int (a % b)) else none := by
  show (if decide (0 < b) = true then _ else _) = _
  by_cases c : 0 < b <;> simp [c]
@[simp] theorem o_div_ii : binD .FloorDiv h (.int a) (.int b) = if 0 < b ∧ b < 1073741824 then some (.int (a / b)) else none := by
  show (if (decide (0 < b) && decide (b < 1073741824)) = true then _ else _) = _
  by_cases c : 0 < b <;> by_cases c2 : b < 1073741824 <;> simp [c, c2]
@[simp] theorem o_pow_ii : binD .Pow h (.int a) (.int b) = if cPow a b = true then some (.int (a ^ b.toNat)) else none := rfl
@[simp] theorem o_add_ss : binD .Add h (.str x) (.str y) = if x.length + y.length ≤ sizeLine then some (.str (x ++ y)) else none := by
  simp only [binD, orG, gI, gAddS, gCat, gCatT, listD]
  by_cases c : x.length + y.length ≤ sizeLine
  · simp [c]
  · simp only [c, if_false]
@[simp] theorem o_add_ll : binD .Add h (.lst xs) (.lst ys) = if xs.length + ys.length ≤ sizeLine then some (.lst (xs ++ ys)) else none := by
  simp only [binD, orG, gI, gAddS, gCat, gCatT, listD]
  by_cases c : xs.length + ys.length ≤ sizeLine
  · simp [c]
  · simp only [c, if_false]
@[simp] theorem o_mul_li : binD .Mult h (.lst xs) (.int i) = if -(2 ^ 63) ≤ i ∧ i < 2 ^ 63 ∧ xs.length * i.toNat ≤ sizeLine then some (.lst (List.replicate i.toNat xs).flatten) else none := by
  simp only [binD, orG, gI, gRep, gRepS, listD]
  by_cases c : -(2 ^ 63) ≤ i ∧ i < 2 ^ 63 ∧ xs.length * i.toNat ≤ sizeLine
  · simp only [if_pos c]
  · simp only [if_neg c]
@[simp] theorem o_mul_si : binD .Mult h (.str x) (.int i) = if -(2 ^ 63) ≤ i ∧ i < 2 ^ 63 ∧ x.length * i.toNat ≤ sizeLine then some (.str (strRep x i.toNat)) else none := by
  simp only [binD, orG, gI, gRep, gRepS, listD]
@[simp] theorem o_neg : unD .USub (.int i) = some (.int (-i)) := rfl
/-! comparisons -/
@[simp] theorem o_lt : cmpD .Lt h (.int a) (.int b) = some (.bl (decide (a < b))) := rfl
@[simp] theorem o_le : cmpD .LtE h (.int a) (.int b) = some (.bl (decide (a ≤ b))) := rfl
@[simp] theorem o_gt : cmpD .Gt h (.int a) (.int b) = some (.bl (decide (b < a))) := rfl
@[simp] theorem o_ge : cmpD .GtE h (.int a) (.int b) = some (.bl (decide (b ≤ a))) := rfl
theorem eqD_ii : eqD h (.int a) (.int b) = some (decide (a = b)) := by
  show some (decide (V.int a = V.int b)) = _
  simp
theorem eqD_ss : eqD h (.str x) (.str y) = some (decide (x = y)) := by
  show some (decide (V.str x = V.str y)) = _
  simp
theorem eqD_bb {p q : Bool} : eqD h (.bl p) (.bl q) = some (decide (p = q)) := by
  show some (decide (V.bl p = V.bl q)) = _
  simp
@[simp] theorem o_eq_ii : cmpD .Eq h (.int a) (.int b) = some (.bl (decide (a = b))) := by
  have e : cmpD .Eq h (.int a) (.int b) = (eqD h (.int a) (.int b)).map fun b => .bl (if false = true then !b else b) := rfl
  rw [e, eqD_ii]; rfl
@[simp] theorem o_ne_ii : cmpD .NotEq h (.int a) (.int b) = some (.bl (!decide (a = b))) := by
  have e : cmpD .NotEq h (.int a) (.int b) = (eqD h (.int a) (.int b)).map fun b => .bl (if true = true then !b else b) := rfl
  rw [e, eqD_ii]; rfl
@[simp] theorem o_eq_ss : cmpD .Eq h (.str x) (.str y) = some (.bl (decide (x = y))) := by
  have e : cmpD .Eq h (.str x) (.str y) = (eqD h (.str x) (.str y)).map fun b => .bl (if false = true then !b else b) := rfl
  rw [e, eqD_ss]; rfl
@[simp] theorem o_ne_ss : cmpD .NotEq h (.str x) (.str y) = some (.bl (!decide (x = y))) := by
  have e : cmpD .NotEq h (.str x) (.str y) = (eqD h (.str x) (.str y)).map fun b => .bl (if true = true then !b else b) := rfl
  rw [e, eqD_ss]; rfl
@[simp] theorem o_eq_bb {p q : Bool} : cmpD .Eq h (.bl p) (.bl q) = some (.bl (decide (p = q))) := by
  have e : cmpD .Eq h (.bl p) (.bl q) = (eqD h (.bl p) (.bl q)).map fun b => .bl (if false = true then !b else b) := rfl
  rw [e, eqD_bb]; rfl
@[simp] theorem o_is_non {d : D} : cmpD .Is h d .non = some (.bl (isNon d)) := rfl
@[simp] theorem o_isnot_non {d : D} : cmpD .IsNot h d .non = some (.bl (!isNon d)) := rfl
theorem scVs_str : ∀ ss : List Str, scVs (ss.map .str) = some (ss.map V.str)
  | [] => rfl
  | s :: ss => by
    show (match scV (.str s), scVs (ss.map .str) with | some a, some as => some (a :: as) | _, _ => none) = _
    rw [scVs_str ss]; rfl
theorem scVs_int : ∀ ss : List Int, scVs (ss.map .int) = some (ss.map V.int)
  | [] => rfl
  | s :: ss => by
    show (match scV (.int s), scVs (ss.map .int) with | some a, some as => some (a :: as) | _, _ => none) = _
    rw [scVs_int ss]; rfl
theorem inV_str (s : Str) (ss : List Str) : inV (.str s) (ss.map V.str) = decide (s ∈ ss) := by
  rw [Bool.eq_iff_iff, decide_eq_true_eq]
  unfold inV
  rw [List.any_eq_true]
  constructor
  · rintro ⟨v, hv, he⟩
    obtain ⟨t, ht, rfl⟩ := List.mem_map.mp hv
    have : (t == s) = true := he
    rw [← beq_iff_eq.mp this]; exact ht
  · intro hs
    exact ⟨.str s, List.mem_map.mpr ⟨s, hs, rfl⟩, beq_self_eq_true s⟩
theorem inV_int (s : Int) (ss : List Int) : inV (.int s) (ss.map V.int) = decide (s ∈ ss) := by
  rw [Bool.eq_iff_iff, decide_eq_true_eq]
  unfold inV
  rw [List.any_eq_true]
  constructor
  · rintro ⟨v, hv, he⟩
    obtain ⟨t, ht, rfl⟩ := List.mem_map.mp hv
    have : (t == s) = true := he
    rw [← beq_iff_eq.mp this]; exact ht
  · intro hs
    exact ⟨.int s, List.mem_map.mpr ⟨s, hs, rfl⟩, beq_self_eq_true s⟩
theorem flat_int (ys : List Int) : (ys.map V.int).all flatV = true := by
  rw [List.all_eq_true]
  intro v hv
  obtain ⟨t, _, rfl⟩ := List.mem_map.mp hv
  rfl
theorem inSeq_str {d : D} {ss : List Str} (e : seqD h d = some (ss.map .str)) : inSeq h (.str s) d = some (decide (s ∈ ss)) := by
  unfold inSeq
  rw [e]
  show (match scVs (ss.map .str) with | some us => if flatV (.str s) = true ∧ us.all flatV = true then some (inV (.str s) us) else none | none => none) = _
  rw [scVs_str]
  dsimp only
  rw [if_pos ⟨rfl, flat_strs ss⟩, inV_str]
theorem inSeq_int {d : D} {ss : List Int} (e : seqD h d = some (ss.map .int)) : inSeq h (.int a) d = some (decide (a ∈ ss)) := by
  unfold inSeq
  rw [e]
  show (match scVs (ss.map .int) with | some us => if flatV (.int a) = true ∧ us.all flatV = true then some (inV (.int a) us) else none | none => none) = _
  rw [scVs_int]
  dsimp only
  rw [if_pos ⟨rfl, flat_int ss⟩, inV_int]
theorem o_in_str {d : D} {ss : List Str} (e : seqD h d = some (ss.map .str)) : cmpD .In h (.str s) d = some (.bl (decide (s ∈ ss))) := by
  show orG (gInSeq false) (gInStr false) h (.str s) d = _
  unfold orG gInSeq
  rw [inSeq_str e]; rfl
theorem o_nin_str {d : D} {ss : List Str} (e : seqD h d = some (ss.map .str)) : cmpD .NotIn h (.str s) d = some (.bl (!decide (s ∈ ss))) := by
  show orG (gInSeq true) (gInStr true) h (.str s) d = _
  unfold orG gInSeq
  rw [inSeq_str e]; rfl
theorem o_in_int {d : D} {ss : List Int} (e : seqD h d = some (ss.map .int)) : cmpD .In h (.int a) d = some (.bl (decide (a ∈ ss))) := by
  show orG (gInSeq false) (gInStr false) h (.int a) d = _
  unfold orG gInSeq
  rw [inSeq_int e]; rfl
theorem o_nin_int {d : D} {ss : List Int} (e : seqD h d = some (ss.map .int)) : cmpD .NotIn h (.int a) d = some (.bl (!decide (a ∈ ss))) := by
  show orG (gInSeq true) (gInStr true) h (.int a) d = _
  unfold orG gInSeq
  rw [inSeq_int e]; rfl
/-- y is within x -/
def hasS (y x : Str) : Bool := !(Builtin.Str.occurrences x y 0 x.length 1).isEmpty
@[simp] theorem o_in_ss : cmpD .In h (.str x) (.str y) = some (.bl (hasS x y)) := rfl
@[simp] theorem o_nin_ss : cmpD .NotIn h (.str x) (.str y) = some (.bl (!hasS x y)) := rfl
/-! truth, length, items -/
@[simp] theorem t_bl {p : Bool} : truD h (.bl p) = some p := rfl
@[simp] theorem t_int : truD h (.int a) = some (a != 0) := rfl
@[simp] theorem t_lst : truD h (.lst xs) = some (!xs.isEmpty) := rfl
@[simp] theorem t_tup : truD h (.tup xs) = some (!xs.isEmpty) := rfl
theorem t_ref (e : h[n]? = some (.lst xs)) : truD h (.ref n) = some (!xs.isEmpty) := by
  have e2 : listD h (.ref n) = some xs := by simp only [listD, e]
  show (listD h (.ref n)).map _ = _
  rw [e2]; rfl
@[simp] theorem l_lst : biD .len h [.lst xs] = some (.int xs.length) := rfl
@[simp] theorem l_tup : biD .len h [.tup xs] = some (.int xs.length) := rfl
@[simp] theorem l_scr {ns : List Int} : biD .len h [.scr ns] = some (.int ns.length) := rfl
@[simp] theorem l_str : biD .len h [.str x] = if x.length ≤ sizeLine then some (.int x.length) else none := by
  show (lenD h (.str x)).map _ = _
  unfold lenD
  dsimp only
  split <;> rfl
theorem listD_ref (e : h[n]? = some (.lst xs)) : listD h (.ref n) = some xs := by simp only [listD, e]
theorem seqD_ref (e : h[n]? = some (.lst xs)) : seqD h (.ref n) = some xs := listD_ref e
@[simp] theorem seqD_lst : seqD h (.lst xs) = some xs := rfl
@[simp] theorem seqD_tup : seqD h (.tup xs) = some xs := rfl
@[simp] theorem listD_lst : listD h (.lst xs) = some xs := rfl
theorem l_ref (e : h[n]? = some (.lst xs)) : biD .len h [.ref n] = some (.int xs.length) := by
  show (lenD h (.ref n)).map _ = _
  show ((seqD h (.ref n)).map List.length).map _ = _
  rw [seqD_ref e]; rfl
@[simp] theorem l_abs : biD .abs h [.int a] = some (.int (if a < 0 then -a else a)) := rfl
@[simp] theorem l_min : biD .min h [.int a, .int b] = some (.int (if b < a then b else a)) := rfl
@[simp] theorem l_max : biD .max h [.int a, .int b] = some (.int (if b > a then b else a)) := rfl
@[simp] theorem l_int : biD .int h [.int a] = some (.int a) := rfl
@[simp] theorem l_int_bl {p : Bool} : biD .int h [.bl p] = some (.int (if p then 1 else 0)) := rfl
@[simp] theorem l_int_str : biD .int h [.str x] = if x.length ≤ 640 then (PySem.intText? x).map .int else none := rfl
@[simp] theorem l_strI : biD .str h [.int a] = if a.natAbs.log2 < 1920 then some (.str (toString a)) else none := rfl
@[simp] theorem l_tuple_l : biD .tuple h [.lst xs] = some (.tup xs) := rfl
@[simp] theorem l_tuple_t : biD .tuple h [.tup xs] = some (.tup xs) := rfl
theorem l_tuple_r (e : h[n]? = some (.lst xs)) : biD .tuple h [.ref n] = some (.tup xs) := by
  show (listD h (.ref n)).map _ = _
  rw [listD_ref e]; rfl
@[simp] theorem l_list_l : biD .list h [.lst xs] = some (.lst xs) := rfl
@[simp] theorem l_list_t : biD .list h [.tup xs] = some (.lst xs) := rfl
theorem l_list_r (e : h[n]? = some (.lst xs)) : biD .list h [.ref n] = some (.lst xs) := by
  show (seqD h (.ref n)).map _ = _
  rw [seqD_ref e]; rfl
theorem intsD_map : ∀ ns : List Int, intsD (ns.map .int) = some ns
  | [] => rfl
  | n :: ns => by show (intsD (ns.map .int)).map _ = _; rw [intsD_map ns]; rfl
theorem strsD_map : ∀ ns : List Str, strsD (ns.map .str) = some ns
  | [] => rfl
  | n :: ns => by show (strsD (ns.map .str)).map _ = _; rw [strsD_map ns]; rfl
theorem l_sorted {d : D} {ns : List Int} (e : listD h d = some (ns.map .int)) : biD .sorted h [d] = some (.lst ((sortI ns).map .int)) := by
  show ((listD h d).bind intsD).map _ = _
  rw [e]; show (intsD (ns.map .int)).map _ = _; rw [intsD_map]; rfl
/-! items -/
theorem atI_nat {α : Type} {zs : List α} {k : Nat} {z : α} (e : zs[k]? = some z) (he : a = (k : Int)) : atI zs a = some z := by
  subst he
  have hk := (List.getElem?_eq_some_iff.mp e).1
  unfold atI ixN
  rw [if_pos (Int.natCast_nonneg k), if_pos (by omega)]
  simpa using e
theorem atI_neg {α : Type} {zs : List α} {k : Nat} {z : α} (e : zs[zs.length - k]? = some z) (h0 : 0 < k) (h1 : k ≤ zs.length) (he : a = -(k : Int)) : atI zs a = some z := by
  subst he
  unfold atI ixN
  rw [if_neg (by omega)]
  have : -(zs.length : Int) ≤ -(k : Int) := by omega
  first
    | rw [if_pos this, show (-(k : Int) + zs.length).toNat = zs.length - k by omega]; simpa using e
    | rw [if_pos this, show ((zs.length : Int) + -(k : Int)).toNat = zs.length - k by omega]; simpa using e
    | (simp only [this]; simpa using e)
@[simp] theorem x_lst : ixD h (.lst xs) (.int a) = atI xs a := rfl
@[simp] theorem x_tup : ixD h (.tup xs) (.int a) = atI xs a := rfl
@[simp] theorem x_scr {ns : List Int} : ixD h (.scr ns) (.int a) = (atI ns a).map .int := rfl
theorem x_ref (e : h[n]? = some (.lst xs)) : ixD h (.ref n) (.int a) = atI xs a := by
  show (seqD h (.ref n)).bind _ = _
  rw [seqD_ref e]; rfl
@[simp] theorem x_str : ixD h (.str x) (.int a) = if x.length ≤ sizeLine then (atI x.cps.toList a).map fun c => .str ⟨#[c]⟩ else none := rfl
end
end DL
namespace DL
open PySem PySem.Spec PyProof.Rows L2
section
variable {h : List Cell} {n : Nat} {xs : List D} {d : D} {i : Int}
theorem cell_ref (e : h[n]? = some (.lst xs)) : cellOfD h (.ref n) = some (n, xs) := by simp only [cellOfD, e]
theorem mutEnd_of {m : Mu} {x d : D} {ds ys : List D} (e : cellOfD h x = some (n, xs)) (g : muD m xs ds = some (d, ys)) : mutEnd m x ds h = some (.ok d (h.set n (.lst ys))) := by
  unfold mutEnd
  rw [e]
  dsimp only
  rw [g]
theorem u_append (e : h[n]? = some (.lst xs)) (hl : xs.length < sizeLine) : mutEnd .append (.ref n) [d] h = some (.ok .non (h.set n (.lst (xs ++ [d])))) := by
  simp only [mutEnd, cell_ref e, muD, gAppend, hl, if_true]
theorem seqIx_nat {k m : Nat} (hk : k < m) : seqIndex? (k : Int) m = some k := by
  have : ixN m (k : Int) = some k := by
    unfold ixN
    rw [if_pos (Int.natCast_nonneg k), if_pos (by omega)]; rfl
  exact (ixN_seq this).1
theorem neg63 (k : Nat) : -(2 ^ 63 : Int) ≤ (k : Int) := Int.le_trans (Int.neg_nonpos_of_nonneg (by decide)) (Int.natCast_nonneg k)
theorem g_popAt {k : Nat} (hk : xs[k]? = some d) (hb : (k : Int) < 2 ^ 63) : gPopAt xs [.int (k : Int)] = some (d, xs.eraseIdx k) := by
  have hs : seqIndex? (k : Int) xs.length = some k := seqIx_nat (List.getElem?_eq_some_iff.mp hk).1
  have e : gPopAt xs [.int (k : Int)] = if -(2 ^ 63) ≤ (k : Int) ∧ (k : Int) < 2 ^ 63 then (match seqIndex? (k : Int) xs.length with
    | some k => (xs[k]?).map fun d => (d, xs.eraseIdx k)
    | none => none) else none := rfl
  rw [e, if_pos ⟨neg63 k, hb⟩, hs]
  show (xs[k]?).map _ = _
  rw [hk]; rfl
theorem u_popAt {k : Nat} (e : h[n]? = some (.lst xs)) (hk : xs[k]? = some d) (hi : i = (k : Int)) (hb : (k : Int) < 2 ^ 63) : mutEnd .popAt (.ref n) [.int i] h = some (.ok d (h.set n (.lst (xs.eraseIdx k)))) := by
  subst hi
  have g : muD .popAt xs [.int (k : Int)] = some (d, xs.eraseIdx k) := by
    rw [show muD .popAt = gPopAt from rfl]
    exact g_popAt hk hb
  exact mutEnd_of (cell_ref e) g
theorem u_reverse (e : h[n]? = some (.lst xs)) : mutEnd .reverse (.ref n) [] h = some (.ok .non (h.set n (.lst xs.reverse))) := by
  simp only [mutEnd, cell_ref e, muD, gReverse]
theorem u_insert {k : Nat} (e : h[n]? = some (.lst xs)) (hi : i = (k : Int)) (hl : xs.length < sizeLine) (hb : (k : Int) < 2 ^ 63) : mutEnd .insert (.ref n) [.int i, d] h = some (.ok .non (h.set n (.lst (xs.take k ++ [d] ++ xs.drop k)))) := by
  subst hi
  simp only [mutEnd, cell_ref e, muD, gInsert]
  rw [if_pos ⟨hl, Int.natCast_nonneg k, hb⟩]
  rw [Int.toNat_natCast]
theorem rngL_zero {lo : Int} : rngL lo 0 = [] := rfl
theorem rngL_succ {lo : Int} {k : Nat} : rngL lo (k + 1) = .int lo :: rngL (lo + 1) k := by
  unfold rngL
  rw [List.range_succ_eq_map, List.map_cons, List.map_map]
  congr 1
  · simp
  · apply List.map_congr_left
    intro a _
    show D.int (lo + ((a + 1 : Nat) : Int)) = D.int (lo + 1 + a)
    congr 1
    omega
theorem rngL_map {lo : Int} {k : Nat} : rngL lo k = (List.range k).map fun i => .int (lo + (i : Nat)) := rfl
@[simp] theorem rngL_len {lo : Int} {k : Nat} : (rngL lo k).length = k := by unfold rngL; simp
theorem okLen_ok {k : List D → D} {ds : List D} (hz : ds.length ≤ sizeLine) : okLen k ds = some (.ok (k ds)) := if_pos hz
/-- a call whose arguments hold nothing of the frame's own -/
theorem app_val {fn : Fn} {ds : List D} {d : D} (hn : noRefs ds = true) (e : fn ds = some (.val d)) : appF fn h ds = some (.ok d) := by unfold appF; rw [if_pos hn, e]; rfl
theorem app_lst {fn : Fn} {ds : List D} (hn : noRefs ds = true) (e : fn ds = some (.lstF xs)) : appF fn h ds = some (.ok (.lst xs)) := by unfold appF; rw [if_pos hn, e]; rfl
theorem app_exc {fn : Fn} {ds : List D} {c : Str} {fs : List (Str × D)} (hn : noRefs ds = true) (e : fn ds = some (.exc c fs)) : appF fn h ds = some (.exc c fs) := by unfold appF; rw [if_pos hn, e]; rfl
mutual
/-- how deep a datum is -/
def dep : D → Nat
  | .tup xs => depl xs + 1
  | .lst xs => depl xs + 1
  | _ => 0
def depl : List D → Nat
  | [] => 0
  | d :: ds => max (dep d) (depl ds)
end
mutual
theorem deep_noRef {h : List Cell} {skip : Nat} : ∀ (f : Nat) (d : D), noRef d = true → dep d < f → deepD h skip f d = some d
  | 0, _, _, hf => absurd hf (Nat.not_lt_zero _)
  | f + 1, .tup xs, hn, hf => by
    have hd : depl xs < f := by
      have : depl xs + 1 < f + 1 := hf
      omega
    show (xs.mapM (deepD h skip f)).map D.tup = _
    rw [deep_noRefs f xs hn hd]; rfl
  | f + 1, .lst xs, hn, hf => by
    have hd : depl xs < f := by
      have : depl xs + 1 < f + 1 := hf
      omega
    show (xs.mapM (deepD h skip f)).map D.lst = _
    rw [deep_noRefs f xs hn hd]; rfl
  | f + 1, .ref n, hn, _ => by cases hn
  | f + 1, .non, _, _ => rfl
  | f + 1, .bl _, _, _ => rfl
  | f + 1, .int _, _, _ => rfl
  | f + 1, .str _, _, _ => rfl
  | f + 1, .scr _, _, _ => rfl
  | f + 1, .dct _, _, _ => rfl
  | f + 1, .obj _ _, _, _ => rfl
theorem deep_noRefs {h : List Cell} {skip : Nat} : ∀ (f : Nat) (ds : List D), noRefs ds = true → depl ds < f → ds.mapM (deepD h skip f) = some ds
  | _, [], _, _ => rfl
  | f, d :: ds, hn, hf => by
    have hn' := Bool.and_eq_true_iff.mp (show (noRef d && noRefs ds) = true from hn)
    have hf' : max (dep d) (depl ds) < f := hf
    rw [List.mapM_cons, deep_noRef f d hn'.1 (by omega), deep_noRefs f ds hn'.2 (by omega)]
    rfl
end
end
end DL
namespace DL
open PySem PySem.Spec PyProof.Rows L2
/-! ### loops by a plain step -/
/-- how a loop is left -/
inductive Ex where
  | rt (r : Rf)
  | exc (c : Str) (fs : List (Str × D))
def Ex.is : Ex → Out → Prop
  | .rt r, o => o = .rt r
  | .exc c fs, o => ∃ ρ h, o = .exc c fs ρ h
def foldE {α σ : Type} (f : α → σ → Sum Ex σ) : List α → σ → Sum Ex σ
  | [], s => .inr s
  | x :: xs, s => match f x s with
    | .inl o => .inl o
    | .inr s => foldE f xs s
/-- what one turn does -/
def TurnS {σ : Type} (body : Sm) (R : σ → Rho → List Cell → Prop) (ρ1 : Rho) (h : List Cell) : Sum Ex σ → Prop
  | .inl x => ∃ o, body ρ1 h = some o ∧ x.is o
  | .inr s => ∃ ρ2 h2, (body ρ1 h = some (.nx ρ2 h2) ∨ body ρ1 h = some (.ct ρ2 h2)) ∧ R s ρ2 h2
def FinS {σ : Type} (x : Option Out) (R : σ → Rho → List Cell → Prop) : Sum Ex σ → Prop
  | .inl e => ∃ o, x = some o ∧ e.is o
  | .inr s => ∃ ρ' h', x = some (.nx ρ' h') ∧ R s ρ' h'
theorem forL_sim {α σ : Type} {e : α → D} {gx : Gx} {body : Sm} {R : σ → Rho → List Cell → Prop} {f : α → σ → Sum Ex σ} : ∀ {xs : List α} {s : σ} {ρ : Rho} {h : List Cell},
    (∀ x ∈ xs, ∀ s ρ h, R s ρ h → ∃ ρ1, gx (e x) ρ = some ρ1 ∧ TurnS body R ρ1 h (f x s)) → R s ρ h → FinS (forL gx body sNext (xs.map e) ρ h) R (foldE f xs s)
  | [], s, ρ, h, _, r => ⟨ρ, h, rfl, r⟩
  | x :: xs, s, ρ, h, step, r => by
    obtain ⟨ρ1, hg, ht⟩ := step x List.mem_cons_self s ρ h r
    have ih : ∀ {s : σ} {ρ : Rho} {h : List Cell}, R s ρ h → FinS (forL gx body sNext (xs.map e) ρ h) R (foldE f xs s) := fun r => forL_sim (fun y hy => step y (List.mem_cons_of_mem _ hy)) r
    have e1 : forL gx body sNext ((x :: xs).map e) ρ h = match body ρ1 h with
      | some (.nx ρ2 h2) => forL gx body sNext (xs.map e) ρ2 h2
      | some (.ct ρ2 h2) => forL gx body sNext (xs.map e) ρ2 h2
      | some (.bk ρ2 h2) => some (.nx ρ2 h2)
      | x => x := by
      show (match gx (e x) ρ with | none => none | some ρ1 => _) = _
      rw [hg]
      try rfl
    rw [e1]
    show FinS _ R (match f x s with | .inl o => .inl o | .inr s => foldE f xs s)
    cases q : f x s with
    | inl o =>
      rw [q] at ht
      obtain ⟨oo, h1, h2⟩ := ht
      refine ⟨oo, ?_, h2⟩
      rw [h1]
      cases o with
      | rt r => cases h2; rfl
      | exc c fs => obtain ⟨a, b, rfl⟩ := h2; rfl
    | inr s' =>
      rw [q] at ht
      obtain ⟨ρ2, h2, h1 | h1, hr⟩ := ht
      · rw [h1]; exact ih hr
      · rw [h1]; exact ih hr
/-- elements that may raise -/
def mapE {α : Type} (g : α → Sum (Str × List (Str × D)) D) : List α → Sum (Str × List (Str × D)) (List D)
  | [] => .inr []
  | x :: xs => match g x with
    | .inl e => .inl e
    | .inr d => match mapE g xs with
      | .inl e => .inl e
      | .inr ds => .inr (d :: ds)
def resE : Sum (Str × List (Str × D)) D → Res
  | .inl e => .exc e.1 e.2
  | .inr d => .ok d
def resLE : Sum (Str × List (Str × D)) (List D) → ResL
  | .inl e => .exc e.1 e.2
  | .inr d => .ok d
theorem comL_sim {α : Type} {e : α → D} {gx : Gx} {elt : Sx} {ρ : Rho} {h : List Cell} {g : α → Sum (Str × List (Str × D)) D} : ∀ {xs : List α}, (∀ x ∈ xs, ∃ ρ1, gx (e x) ρ = some ρ1 ∧ elt ρ1 h = some (resE (g x))) →
    comL gx sYes elt ρ h (xs.map e) = some (resLE (mapE g xs))
  | [], _ => rfl
  | x :: xs, H => by
    obtain ⟨ρ1, h1, h2⟩ := H x List.mem_cons_self
    have ih := comL_sim (xs := xs) fun y hy => H y (List.mem_cons_of_mem _ hy)
    show (match gx (e x) ρ with | none => none | some ρ1 => consL (elt ρ1 h) (comL gx sYes elt ρ h (xs.map e))) = _
    rw [h1]
    dsimp only
    rw [h2, ih]
    show consL (some (resE (g x))) (some (resLE (mapE g xs))) = some (resLE (match g x with | .inl e => .inl e | .inr d => match mapE g xs with | .inl e => .inl e | .inr ds => .inr (d :: ds)))
    cases g x with
    | inl e => rfl
    | inr d => cases mapE g xs with
      | inl e => rfl
      | inr ds => rfl
theorem sComp_exc {vs : List Nat} {ix : Ix} {gx : Gx} {tst elt : Sx} {ρ : Rho} {h : List Cell} {xs : List D} {c : Str} {fs : List (Str × D)} (hx : listI (ix ρ h) (some xs)) (hn : xs.length ≤ sizeLine) (hc : comL gx tst elt (wipeR ρ vs) h xs = some (.exc c fs)) : sComp vs ix gx tst elt ρ h = some (.exc c fs) := by
  show bndL (compR vs ix gx tst elt ρ h) _ = _
  rw [compR_list hx hn, hc]; rfl
end DL
namespace DL
open PySem PySem.Spec PyProof.Rows L2
/-- .. n turns are left -/
theorem forL_simN {α σ : Type} {e : α → D} {gx : Gx} {body : Sm} {R : Nat → σ → Rho → List Cell → Prop} {f : α → σ → Sum Ex σ} : ∀ {xs : List α} {s : σ} {ρ : Rho} {h : List Cell},
    (∀ x ∈ xs, ∀ n s ρ h, R (n + 1) s ρ h → ∃ ρ1, gx (e x) ρ = some ρ1 ∧ TurnS body (R n) ρ1 h (f x s)) → R xs.length s ρ h → FinS (forL gx body sNext (xs.map e) ρ h) (R 0) (foldE f xs s)
  | [], s, ρ, h, _, r => ⟨ρ, h, rfl, r⟩
  | x :: xs, s, ρ, h, step, r => by
    obtain ⟨ρ1, hg, ht⟩ := step x List.mem_cons_self xs.length s ρ h r
    have ih : ∀ {s : σ} {ρ : Rho} {h : List Cell}, R xs.length s ρ h → FinS (forL gx body sNext (xs.map e) ρ h) (R 0) (foldE f xs s) := fun r => forL_simN (fun y hy => step y (List.mem_cons_of_mem _ hy)) r
    have e1 : forL gx body sNext ((x :: xs).map e) ρ h = match body ρ1 h with
      | some (.nx ρ2 h2) => forL gx body sNext (xs.map e) ρ2 h2
      | some (.ct ρ2 h2) => forL gx body sNext (xs.map e) ρ2 h2
      | some (.bk ρ2 h2) => some (.nx ρ2 h2)
      | x => x := by
      show (match gx (e x) ρ with | none => none | some ρ1 => _) = _
      rw [hg]
      try rfl
    rw [e1]
    show FinS _ (R 0) (match f x s with | .inl o => .inl o | .inr s => foldE f xs s)
    cases q : f x s with
    | inl o =>
      rw [q] at ht
      obtain ⟨oo, h1, h2⟩ := ht
      refine ⟨oo, ?_, h2⟩
      rw [h1]
      cases o with
      | rt r => cases h2; rfl
      | exc c fs => obtain ⟨a, b, rfl⟩ := h2; rfl
    | inr s' =>
      rw [q] at ht
      obtain ⟨ρ2, h2, h1 | h1, hr⟩ := ht
      · rw [h1]; exact ih hr
      · rw [h1]; exact ih hr
section
variable {ρ : Rho} {h : List Cell} {f : Sx} {l : Lx} {α : Type}
theorem enumE (xs : List α) (enc : α → D) : (xs.map enc).mapIdx (fun i d => D.tup [.int (i : Nat), d]) = xs.zipIdx.map fun p => .tup [.int (p.2 : Nat), enc p.1] := by
  apply List.ext_getElem
  · simp
  · intro i h1 h2
    simp
theorem li_enumE {xs : List α} {enc : α → D} (e : l ρ h = some (.ok [.lst (xs.map enc)])) : listI (iEnumD l ρ h) (some (xs.zipIdx.map fun p => .tup [.int (p.2 : Nat), enc p.1])) := by
  rw [← enumE]; exact li_enumL e
theorem li_enumTE {xs : List α} {enc : α → D} (e : l ρ h = some (.ok [.tup (xs.map enc)])) : listI (iEnumD l ρ h) (some (xs.zipIdx.map fun p => .tup [.int (p.2 : Nat), enc p.1])) := by
  rw [← enumE]; exact li_enumT e
theorem li_rng {lo : Int} {k : Nat} {x : Option ItR} (e : listI x (some (rngL lo k))) : listI x (some ((List.range k).map fun i => .int (lo + (i : Nat)))) := e
theorem li_ref {k : Nat} {xs : List D} (e : f ρ h = some (.ok (.ref k))) (hk : h[k]? = some (.lst xs)) (same : ∀ h' : List Cell, h' = h' → True) : True := trivial
end
end DL

namespace DL
open PySem PySem.Spec PyProof.Rows L2
section
variable {h : List Cell} {n : Nat} {xs : List D} {d : D}
theorem ret_ref (e : h[n]? = some (.lst xs)) (hn : noRefs xs = true) (hd : depl xs < depthD) : retD h (.ref n) = some (.rt (.lstF xs)) := by
  unfold retD
  simp only [e]
  rw [deep_noRefs depthD xs hn hd]
theorem ret_val (hn : noRef d = true) (hd : dep d < depthD) : retD h d = some (.rt (.val d)) := by
  have := deep_noRef (h := h) (skip := h.length) depthD d hn hd
  unfold retD
  cases d <;> first | (dsimp only; rw [this]) | cases hn
theorem noRefs_map {α : Type} {e : α → D} (he : ∀ x, noRef (e x) = true) : ∀ xs : List α, noRefs (xs.map e) = true
  | [] => rfl
  | x :: xs => by show (noRef (e x) && noRefs (xs.map e)) = true; rw [he x, noRefs_map he xs]; rfl
theorem depl_map {α : Type} {e : α → D} {k : Nat} (he : ∀ x, dep (e x) ≤ k) : ∀ xs : List α, depl (xs.map e) ≤ k
  | [] => Nat.zero_le _
  | x :: xs => Nat.max_le.mpr ⟨he x, depl_map he xs⟩
@[simp] theorem noRefs_strs (xs : List Str) : noRefs (xs.map .str) = true := noRefs_map (fun _ => rfl) xs
@[simp] theorem noRefs_ints (xs : List Int) : noRefs (xs.map .int) = true := noRefs_map (fun _ => rfl) xs
theorem depl_strs (xs : List Str) : depl (xs.map .str) ≤ 0 := depl_map (k := 0) (fun _ => Nat.zero_le _) xs
theorem depl_ints (xs : List Int) : depl (xs.map .int) ≤ 0 := depl_map (k := 0) (fun _ => Nat.zero_le _) xs
@[simp] theorem noRef_tup : noRef (.tup xs) = noRefs xs := rfl
@[simp] theorem noRef_lst : noRef (.lst xs) = noRefs xs := rfl
@[simp] theorem noRef_int {i : Int} : noRef (.int i) = true := rfl
@[simp] theorem noRef_str {i : Str} : noRef (.str i) = true := rfl
@[simp] theorem noRef_bl {i : Bool} : noRef (.bl i) = true := rfl
@[simp] theorem noRefs_nil : noRefs [] = true := rfl
@[simp] theorem noRefs_cons : noRefs (d :: xs) = (noRef d && noRefs xs) := rfl
end
end DL

namespace DL
open PySem PySem.Spec PyProof.Rows L2
theorem e62 : (2:Int)^62 = 4611686018427387904 := by decide
theorem small62 {n : Nat} (h : n ≤ sizeLine) : (n : Int) < 2 ^ 62 := by
  rw [sizeLine_eq] at h
  rw [e62]
  omega
theorem neg62 (n : Nat) : -(2 ^ 62 : Int) ≤ (n : Int) := by
  rw [e62]; omega
end DL

set_option Elab.async false
set_option linter.all false
set_option maxRecDepth 100000
/-! DLtx: plain facts about texts. -/
namespace DL
open PySem PySem.Spec PyProof.Rows L2 TL
theorem spl_ne (S : List Nat) : ∀ (l : List Nat) (k : Nat) (acc : List Nat), spl S k acc l ≠ []
  | [], k, acc => by rw [spl_nil]; simp
  | c :: r, 0, acc => by
    cases q : pre S (c :: r) with
    | true => rw [spl_hit q]; simp
    | false => rw [spl_miss q]; exact spl_ne S r 0 _
  | c :: r, k + 1, acc => spl_ne S r k acc
theorem spl_len (S : List Nat) : ∀ (l : List Nat) (k : Nat) (acc : List Nat), (spl S k acc l).length ≤ l.length + 1 ∧ ∀ p ∈ spl S k acc l, p.length ≤ acc.length + l.length
  | [], k, acc => by rw [spl_nil]; simp
  | c :: r, 0, acc => by
    cases q : pre S (c :: r) with
    | true =>
      rw [spl_hit q]
      obtain ⟨h1, h2⟩ := spl_len S r (S.length - 1) []
      refine ⟨by simp only [List.length_cons]; omega, fun p hp => ?_⟩
      rcases List.mem_cons.mp hp with rfl | hp
      · omega
      · have := h2 p hp
        simp only [List.length_nil, List.length_cons] at *
        omega
    | false =>
      rw [spl_miss q]
      obtain ⟨h1, h2⟩ := spl_len S r 0 (acc ++ [c])
      refine ⟨by simp only [List.length_cons]; omega, fun p hp => ?_⟩
      have := h2 p hp
      simp only [List.length_append, List.length_cons, List.length_nil] at *
      omega
  | c :: r, k + 1, acc => by
    obtain ⟨h1, h2⟩ := spl_len S r k acc
    refine ⟨Nat.le_trans h1 (by simp), fun p hp => Nat.le_trans (h2 p hp) (by simp)⟩
theorem split_facts {x y : Str} (hy : tl y ≠ []) (hk : y.cps.all (· < 256) = true) : Txt.split x y ≠ [] ∧ (Txt.split x y).length ≤ x.length + 1 ∧ ∀ p ∈ Txt.split x y, p.length ≤ x.length := by
  have e := split_spl x y hy (kind_ok hk)
  obtain ⟨h1, h2⟩ := spl_len (tl y) (tl x) 0 []
  refine ⟨fun z => spl_ne (tl y) (tl x) 0 [] (by rw [← e, z]; rfl), ?_, fun p hp => ?_⟩
  · rw [← e, List.length_map] at h1
    rw [len_tl]; exact h1
  · have := h2 (tl p) (by rw [← e]; exact List.mem_map.mpr ⟨p, hp, rfl⟩)
    rw [len_tl, len_tl]
    simpa using this
/-- parts are free of the separator -/
theorem spl_free {s : Nat} : ∀ (l : List Nat) (acc : List Nat), s ∉ acc → ∀ p ∈ spl [s] 0 acc l, s ∉ p
  | [], acc, ha, p, hp => by rw [spl_nil] at hp; rw [List.mem_singleton.mp hp]; exact ha
  | c :: r, acc, ha, p, hp => by
    by_cases hc : c = s
    · subst hc
      rw [spl_hit (show pre [c] (c :: r) = true from pre_self [c] r)] at hp
      rcases List.mem_cons.mp hp with rfl | hp
      · exact ha
      · exact spl_free r [] (by simp) p hp
    · rw [spl_miss (pre_of_head [] r hc)] at hp
      refine spl_free r (acc ++ [c]) ?_ p hp
      simp [ha]
      exact fun z => hc z.symm
theorem split_free {x y : Str} {s : Nat} (ey : tl y = [s]) (hk : y.cps.all (· < 256) = true) : ∀ p ∈ Txt.split x y, s ∉ tl p := fun p hp => by
  have e := split_spl x y (by rw [ey]; simp) (kind_ok hk)
  rw [ey] at e
  exact spl_free (tl x) [] (by simp) (tl p) (by rw [← e]; exact List.mem_map.mpr ⟨p, hp, rfl⟩)
/-- str(n) -/
def numS (n : Nat) : Str := Str.ofString (toString ((n : Nat) : Int))
theorem tl_numS (n : Nat) : tl (numS n) = numL n := tl_num n
theorem numS_inj {m n : Nat} (h : numS m = numS n) : m = n := numL_inj (by rw [← tl_numS, ← tl_numS, h])
/-! lists -/
theorem findIdx_mem {α : Type} [DecidableEq α] {x : α} : ∀ {xs : List α}, x ∈ xs → ∃ i, xs.findIdx? (fun y => decide (y = x)) = some i ∧ xs[i]? = some x ∧ i < xs.length
  | [], h => by cases h
  | y :: ys, h => by
    by_cases e : y = x
    · subst e
      exact ⟨0, by rw [List.findIdx?_cons, decide_eq_true rfl]; rfl, rfl, Nat.succ_pos _⟩
    · obtain ⟨i, h1, h2, h3⟩ := findIdx_mem (xs := ys) (by
        rcases List.mem_cons.mp h with z | z
        · exact absurd z.symm e
        · exact z)
      exact ⟨i + 1, by rw [List.findIdx?_cons, decide_eq_false e, h1]; rfl, h2, Nat.succ_lt_succ h3⟩
theorem gIndex_str {h : List Cell} {s : Str} {ss : List Str} : gIndex h (ss.map .str) (.str s) = (ss.findIdx? fun y => decide (y = s)).map fun (j : Nat) => .int j := by
  unfold gIndex
  rw [scVs_str]
  show (if flatV (.str s) = true ∧ (ss.map V.str).all flatV = true then ((ss.map V.str).findIdx? fun z => eqV z (.str s)).map fun (j : Nat) => D.int j else none) = _
  rw [if_pos ⟨rfl, flat_strs ss⟩, List.findIdx?_map]
  congr 2
end DL

set_option Elab.async false
set_option linter.all false
set_option maxRecDepth 100000
/-! DLfx: loops by an invariant over the place; calls that read own lists. -/
namespace DL
open PySem PySem.Spec PyProof.Rows L2
theorem forL_ixFrom {gx : Gx} {body : Sm} {R : Nat → Rho → List Cell → Prop} : ∀ {xs : List D} {k : Nat} {ρ : Rho} {h : List Cell},
    (∀ i d ρ h, xs[i]? = some d → R (k + i) ρ h → ∃ ρ1, gx d ρ = some ρ1 ∧ ∃ ρ2 h2, (body ρ1 h = some (.nx ρ2 h2) ∨ body ρ1 h = some (.ct ρ2 h2)) ∧ R (k + i + 1) ρ2 h2) → R k ρ h →
    ∃ ρ' h', forL gx body sNext xs ρ h = some (.nx ρ' h') ∧ R (k + xs.length) ρ' h'
  | [], k, ρ, h, _, r => ⟨ρ, h, rfl, r⟩
  | x :: xs, k, ρ, h, step, r => by
    obtain ⟨ρ1, hg, ρ2, h2, hb, hr⟩ := step 0 x ρ h rfl r
    have ih := forL_ixFrom (gx := gx) (body := body) (R := R) (xs := xs) (k := k + 1) (ρ := ρ2) (h := h2) (fun i d ρ h e r => by
      have := step (i + 1) d ρ h (by simpa using e) (by rw [show k + (i + 1) = k + 1 + i by omega]; exact r)
      rw [show k + (i + 1) + 1 = k + 1 + i + 1 by omega] at this
      exact this) hr
    obtain ⟨ρ', h', e, rr⟩ := ih
    refine ⟨ρ', h', ?_, by rw [List.length_cons, show k + (xs.length + 1) = k + 1 + xs.length by omega]; exact rr⟩
    show (match gx x ρ with | none => none | some ρ1 => match body ρ1 h with
      | some (.nx ρ2 h2) => forL gx body sNext xs ρ2 h2
      | some (.ct ρ2 h2) => forL gx body sNext xs ρ2 h2
      | some (.bk ρ2 h2) => some (.nx ρ2 h2)
      | x => x) = _
    rw [hg]
    dsimp only
    rcases hb with hb | hb <;> (rw [hb]; exact e)
theorem forL_ix {gx : Gx} {body : Sm} (R : Nat → Rho → List Cell → Prop) {xs : List D} {ρ : Rho} {h : List Cell}
    (step : ∀ i d ρ h, xs[i]? = some d → R i ρ h → ∃ ρ1, gx d ρ = some ρ1 ∧ ∃ ρ2 h2, (body ρ1 h = some (.nx ρ2 h2) ∨ body ρ1 h = some (.ct ρ2 h2)) ∧ R (i + 1) ρ2 h2) (r : R 0 ρ h) :
    ∃ ρ' h', forL gx body sNext xs ρ h = some (.nx ρ' h') ∧ R xs.length ρ' h' := by
  have := forL_ixFrom (gx := gx) (body := body) (R := R) (xs := xs) (k := 0) (ρ := ρ) (h := h) (fun i d ρ h e r => by
    rw [Nat.zero_add] at r ⊢
    exact step i d ρ h e r) r
  rwa [Nat.zero_add] at this
theorem rng_get {lo : Int} {n i : Nat} {d : D} (e : (rngL lo n)[i]? = some d) : i < n ∧ d = .int (lo + (i : Nat)) := by
  have h := (List.getElem?_eq_some_iff.mp e).1
  rw [rngL_len] at h
  refine ⟨h, ?_⟩
  unfold rngL at e
  rw [List.getElem?_map, List.getElem?_range h] at e
  exact (Option.some.inj e).symm
theorem map_get {α : Type} {e : α → D} {xs : List α} {i : Nat} {d : D} (h : (xs.map e)[i]? = some d) : ∃ x, xs[i]? = some x ∧ d = e x := by
  rw [List.getElem?_map] at h
  obtain ⟨x, h1, h2⟩ := Option.map_eq_some_iff.mp h
  exact ⟨x, h1, h2.symm⟩
theorem app_imm {fn : Fn} {h : List Cell} {ds : List D} {d : D} (h1 : noRefs ds = false) (h2 : noRefs (ds.map (shal h)) = true) (e : fn (ds.map (shal h)) = some (.val d)) (hi : immD d = true) : appF fn h ds = some (.ok d) := by
  unfold appF
  rw [if_neg (by rw [h1]; decide), if_pos h2, e]
  show (if immD d = true then _ else _) = _
  rw [if_pos hi]
theorem app_immE {fn : Fn} {h : List Cell} {ds : List D} {c : Str} {fs : List (Str × D)} (h1 : noRefs ds = false) (h2 : noRefs (ds.map (shal h)) = true) (e : fn (ds.map (shal h)) = some (.exc c fs)) (hi : immDs (fs.map (·.2)) = true) : appF fn h ds = some (.exc c fs) := by
  unfold appF
  rw [if_neg (by rw [h1]; decide), if_pos h2, e]
  show (if immDs (fs.map (·.2)) = true then _ else _) = _
  rw [if_pos hi]
theorem immDs_map {α : Type} {e : α → D} (he : ∀ x, immD (e x) = true) : ∀ xs : List α, immDs (xs.map e) = true
  | [] => rfl
  | x :: xs => by show (immD (e x) && immDs (xs.map e)) = true; rw [he x, immDs_map he xs]; rfl
theorem okLen_lit {k : List D → D} {ds : List D} (hz : (decide (ds.length ≤ 100)) = true) : okLen k ds = some (.ok (k ds)) := okLen_ok (by rw [sizeLine_eq]; exact Nat.le_trans (of_decide_eq_true hz) (by decide))
end DL
namespace DL
open PySem PySem.Spec PyProof.Rows L2 TL
theorem forL_ixBFrom {gx : Gx} {body : Sm} {R : Nat → Rho → List Cell → Prop} {Q : Rho → List Cell → Prop} : ∀ {xs : List D} {k : Nat} {ρ : Rho} {h : List Cell},
    (∀ i d ρ h, xs[i]? = some d → R (k + i) ρ h → ∃ ρ1, gx d ρ = some ρ1 ∧ ∃ ρ2 h2, ((body ρ1 h = some (.nx ρ2 h2) ∨ body ρ1 h = some (.ct ρ2 h2)) ∧ R (k + i + 1) ρ2 h2) ∨ (body ρ1 h = some (.bk ρ2 h2) ∧ Q ρ2 h2)) → R k ρ h →
    ∃ ρ' h', forL gx body sNext xs ρ h = some (.nx ρ' h') ∧ (R (k + xs.length) ρ' h' ∨ Q ρ' h')
  | [], k, ρ, h, _, r => ⟨ρ, h, rfl, .inl r⟩
  | x :: xs, k, ρ, h, step, r => by
    obtain ⟨ρ1, hg, ρ2, h2, hb⟩ := step 0 x ρ h rfl r
    have e1 : forL gx body sNext (x :: xs) ρ h = match body ρ1 h with
      | some (.nx ρ2 h2) => forL gx body sNext xs ρ2 h2
      | some (.ct ρ2 h2) => forL gx body sNext xs ρ2 h2
      | some (.bk ρ2 h2) => some (.nx ρ2 h2)
      | x => x := by
      show (match gx x ρ with | none => none | some ρ1 => _) = _
      rw [hg]
      try rfl
    rw [e1]
    rcases hb with ⟨hb, hr⟩ | ⟨hb, hq⟩
    · obtain ⟨ρ', h', e, rr⟩ := forL_ixBFrom (gx := gx) (body := body) (R := R) (Q := Q) (xs := xs) (k := k + 1) (ρ := ρ2) (h := h2) (fun i d ρ h e r => by
        have := step (i + 1) d ρ h (by simpa using e) (by rw [show k + (i + 1) = k + 1 + i by omega]; exact r)
        rw [show k + (i + 1) + 1 = k + 1 + i + 1 by omega] at this
        exact this) hr
      refine ⟨ρ', h', ?_, by rw [List.length_cons, show k + (xs.length + 1) = k + 1 + xs.length by omega]; exact rr⟩
      rcases hb with hb | hb <;> (rw [hb]; exact e)
    · exact ⟨ρ2, h2, by rw [hb], .inr hq⟩
/-- .. that may be left by a break -/
theorem forL_ixB {gx : Gx} {body : Sm} (R : Nat → Rho → List Cell → Prop) (Q : Rho → List Cell → Prop) {xs : List D} {ρ : Rho} {h : List Cell}
    (step : ∀ i d ρ h, xs[i]? = some d → R i ρ h → ∃ ρ1, gx d ρ = some ρ1 ∧ ∃ ρ2 h2, ((body ρ1 h = some (.nx ρ2 h2) ∨ body ρ1 h = some (.ct ρ2 h2)) ∧ R (i + 1) ρ2 h2) ∨ (body ρ1 h = some (.bk ρ2 h2) ∧ Q ρ2 h2)) (r : R 0 ρ h) :
    ∃ ρ' h', forL gx body sNext xs ρ h = some (.nx ρ' h') ∧ (R xs.length ρ' h' ∨ Q ρ' h') := by
  have := forL_ixBFrom (gx := gx) (body := body) (R := R) (Q := Q) (xs := xs) (k := 0) (ρ := ρ) (h := h) (fun i d ρ h e r => by
    rw [Nat.zero_add] at r ⊢
    exact step i d ρ h e r) r
  rwa [Nat.zero_add] at this
theorem e63 : (2:Int)^63 = 9223372036854775808 := by decide
theorem small63 {n : Nat} (h : n ≤ 16777216) : (n : Int) < 2 ^ 63 := by
  rw [e63]
  omega
theorem mul_rep {h : List Cell} {xs : List D} {n : Nat} (h1 : n ≤ 16777216) (h2 : xs.length * n ≤ sizeLine) : binD .Mult h (.lst xs) (.int n) = some (.lst (List.replicate n xs).flatten) := by
  rw [o_mul_li, if_pos ⟨neg63 n, small63 h1, by rw [Int.toNat_natCast]; exact h2⟩, Int.toNat_natCast]
theorem mul_repS {h : List Cell} {x : Str} {n : Nat} (h1 : n ≤ 16777216) (h2 : x.length * n ≤ sizeLine) : binD .Mult h (.str x) (.int n) = some (.str (strRep x n)) := by
  rw [o_mul_si, if_pos ⟨neg63 n, small63 h1, by rw [Int.toNat_natCast]; exact h2⟩, Int.toNat_natCast]
theorem tl_strRep (x : Str) (n : Nat) : tl (strRep x n) = (List.replicate n (tl x)).flatten := by
  have go : ∀ (n : Nat) (acc : Array Nat), ((List.replicate n x.cps).foldl (· ++ ·) acc).toList = acc.toList ++ (List.replicate n x.cps.toList).flatten := by
    intro n
    induction n with
    | zero => intro acc; simp
    | succ n ih =>
      intro acc
      rw [List.replicate_succ, List.foldl_cons, ih]
      simp [List.replicate_succ]
  have := go n #[]
  simpa [strRep, tl] using this
theorem tl_cut1 (z : Str) : tl (cutS z (some 1) none) = (tl z).drop 1 := by
  show (z.cps.toList.drop (HT.sIx z.length 0 (some ((1 : Nat) : Int)))).take (z.length - HT.sIx z.length 0 (some ((1 : Nat) : Int))) = _
  rw [HT.sIx_nat]
  rw [List.take_of_length_le (by rw [List.length_drop]; simp [Str.length])]
  by_cases c : 1 ≤ z.length
  · rw [Nat.min_eq_left c]
  · have : z.length = 0 := by omega
    have e : z.cps.toList = [] := List.eq_nil_of_length_eq_zero (by simpa [Str.length] using this)
    simp [tl, e]
theorem tl_cut01 (z : Str) : tl (cutS z none (some 1)) = (tl z).take 1 := by
  show (z.cps.toList.drop 0).take (HT.sIx z.length z.length (some ((1 : Nat) : Int)) - 0) = _
  rw [HT.sIx_nat]
  rw [List.drop_zero, Nat.sub_zero]
  by_cases c : 1 ≤ z.length
  · rw [Nat.min_eq_left c]
  · have : z.length = 0 := by omega
    have e : z.cps.toList = [] := List.eq_nil_of_length_eq_zero (by simpa [Str.length] using this)
    simp [tl, e]
/-- a list without repetition within another is no longer -/
theorem nodup_len {α : Type} [DecidableEq α] : ∀ {xs ys : List α}, xs.Nodup → (∀ x ∈ xs, x ∈ ys) → xs.length ≤ ys.length
  | [], _, _, _ => Nat.zero_le _
  | x :: xs, ys, hn, hs => by
    have hx := hs x List.mem_cons_self
    have hn' := List.nodup_cons.mp hn
    have ih := nodup_len (xs := xs) (ys := ys.erase x) hn'.2 fun y hy => by
      have hne : y ≠ x := fun e => hn'.1 (e ▸ hy)
      exact (List.mem_erase_of_ne hne).mpr (hs y (List.mem_cons_of_mem _ hy))
    rw [List.length_erase_of_mem hx] at ih
    have : 0 < ys.length := List.length_pos_of_mem hx
    rw [List.length_cons]
    omega
end DL
namespace DL
open PySem PySem.Spec PyProof.Rows L2 TL
theorem get_last {α : Type} (h : List α) (x : α) : (h ++ [x])[h.length]? = some x := by simp
theorem set_last {α : Type} (h : List α) (x y : α) : (h ++ [x]).set h.length y = h ++ [y] := by
  rw [List.set_append_right _ _ (Nat.le_refl _), Nat.sub_self]; rfl
theorem joinL_len (S : List Nat) : ∀ ps : List (List Nat), (joinL S ps).length ≤ (ps.map List.length).sum + ps.length * S.length
  | [] => Nat.zero_le _
  | [p] => by
    show p.length ≤ p.length + 0 + 1 * S.length
    omega
  | p :: q :: r => by
    have ih := joinL_len S (q :: r)
    have e : joinL S (p :: q :: r) = p ++ (S ++ joinL S (q :: r)) := rfl
    rw [e, List.length_append, List.length_append, List.map_cons, List.sum_cons, List.length_cons, Nat.succ_mul]
    omega
theorem join_len (y : Str) (ps : List Str) : (Txt.join y ps).length ≤ (ps.map fun p : Str => p.length).sum + ps.length * y.length := by
  rw [len_tl, join_eq, tl_join]
  have := joinL_len (tl y) (ps.map tl)
  rw [List.map_map, List.length_map] at this
  rw [len_tl y]
  have e : ps.map (fun p : Str => p.length) = ps.map (List.length ∘ tl) := List.map_congr_left fun a _ => len_tl a
  rw [e]; exact this
theorem sum_le {B : Nat} : ∀ {ns : List Nat}, (∀ n ∈ ns, n ≤ B) → ns.sum ≤ ns.length * B
  | [], _ => Nat.zero_le _
  | n :: ns, h => by
    have h1 := h n List.mem_cons_self
    have h2 := sum_le (ns := ns) fun m hm => h m (List.mem_cons_of_mem _ hm)
    rw [List.sum_cons, List.length_cons, Nat.succ_mul]
    omega
theorem sum_le_map {B : Nat} {ps : List Str} (h : ∀ p ∈ ps, p.length ≤ B) : (ps.map fun p : Str => p.length).sum ≤ ps.length * B := by
  have := sum_le (B := B) (ns := ps.map fun p : Str => p.length) (fun n hn => by obtain ⟨p, hp, rfl⟩ := List.mem_map.mp hn; exact h p hp)
  rwa [List.length_map] at this
theorem join_ok {h : List Cell} {y : Str} {d : D} {ps : List Str} (e : seqD h d = some (ps.map .str)) (B : Nat) (hb : ∀ p ∈ ps, p.length ≤ B) (hs : ps.length * B + ps.length * y.length ≤ 16777216) : gJoin y h d = some (.str (Txt.join y ps)) := by
  unfold gJoin
  rw [e]
  show (match strsD (ps.map .str) with | some ys => if (ys.map fun p : Str => p.length).sum + ys.length * y.length ≤ 16777216 then some (D.str (Txt.join y ys)) else none | none => none) = _
  rw [strsD_map]
  dsimp only
  rw [if_pos (Nat.le_trans (Nat.add_le_add_right (sum_le_map hb) _) hs)]
theorem join_le {y : Str} {ps : List Str} (B : Nat) (hb : ∀ p ∈ ps, p.length ≤ B) : (Txt.join y ps).length ≤ ps.length * B + ps.length * y.length :=
  Nat.le_trans (join_len y ps) (Nat.add_le_add_right (sum_le_map hb) _)
theorem numS_len {n k : Nat} (hk : 0 < k) (h : n < 10 ^ k) : (numS n).length ≤ k := by rw [len_tl, tl_numS]; exact numL_len hk h
end DL

set_option Elab.async false
set_option linter.all false
set_option maxRecDepth 100000
set_option maxHeartbeats 0
namespace K75
open PySem PySem.Spec PyProof.Rows L2 DL

abbrev P : Program := PySem.Challenge.pw_signsandrests_k75_texts_of_signed_webs
def top (i : Nat) : Stmt := (P).main.body.getD i (.Pass ⟨0, 0, 0, 0⟩)
def kd_MARKS : List (Key × D) := [((.inl 1), (.str "+")), ((.inl (-1)), (.str "-")), ((.inl 0), (.str "?"))]
def kd_SIGNS : List (Key × D) := [((.inr "+"), (.int 1)), ((.inr "-"), (.int (-1))), ((.inr "?"), (.int 0))]
def ex_BadNames : List (Str × Bool) := [("BadNames", true), ("BadSigns", false), ("BadSize", false), ("BadText", false)]
def ex_BadSigns : List (Str × Bool) := [("BadNames", false), ("BadSigns", true), ("BadSize", false), ("BadText", false)]
def ex_BadText : List (Str × Bool) := [("BadNames", false), ("BadSigns", false), ("BadSize", false), ("BadText", true)]
structure Fz (w : World) (K : Frag) (mg : Str → Option Value) : Prop where
  n_abs : mg "abs" = none
  n_bool : mg "bool" = none
  n_enumerate : mg "enumerate" = none
  n_int : mg "int" = none
  n_isinstance : mg "isinstance" = none
  n_len : mg "len" = none
  n_list : mg "list" = none
  n_min : mg "min" = none
  n_range : mg "range" = none
  n_set : mg "set" = none
  n_sorted : mg "sorted" = none
  n_str : mg "str" = none
  n_tuple : mg "tuple" = none
  n_zip : mg "zip" = none
  co_HEAD : CoOk K mg "HEAD" (.str "signs")
  co_LETTERS : CoOk K mg "LETTERS" (.str "abcdefghijklmnopqrstuvwxyz")
  co_MOST_HEARD : CoOk K mg "MOST_HEARD" (.int 4)
  co_MOST_HOUSES : CoOk K mg "MOST_HOUSES" (.int 12)
  co_MOST_LETTERS : CoOk K mg "MOST_LETTERS" (.int 8)
  err_BadNames : ∃ C fI : Addr, ErrC P K mg "BadNames" ["row"] C fI
  err_BadSigns : ∃ C fI : Addr, ErrC P K mg "BadSigns" ["house"] C fI
  err_BadSize : ∃ C fI : Addr, ErrC P K mg "BadSize" ["count"] C fI
  err_BadText : ∃ C fI : Addr, ErrC P K mg "BadText" ["line", "word"] C fI
  dic_MARKS : DicOk P w K mg "MARKS" kd_MARKS
  dic_SIGNS : DicOk P w K mg "SIGNS" kd_SIGNS
  ex_BadNames : ExTab K mg "BadNames" ex_BadNames ["row"]
  ex_BadSigns : ExTab K mg "BadSigns" ex_BadSigns ["house"]
  ex_BadText : ExTab K mg "BadText" ex_BadText ["line", "word"]
def sb_is_ascending_1 : Sm :=
  (sSeq (sIfS (sNot (sChain .Lt .Lt (sVar 2) (sVar 3) (sVar 1))) (sRet (liftM (sCst (.bl false)))) sNext)
  (sSet 2 (liftM (sVar 3))))
def N_is_ascending : List Str := ["houses", "size", "last", "house"]
def sm_is_ascending : Sm :=
  (sSeq (sSet 2 (liftM (sUn .USub (sCst (.int 1)))))
  (sSeq (sFor (iData (sVar 0)) (gxName 3) sb_is_ascending_1 sNext)
  (sRet (liftM (sCst (.bl true))))))
def fn_is_ascending : Fn := fnOf 4 sm_is_ascending
def sb_is_name_1 : Sm :=
  (sIfS (sCmp .NotIn (sVar 1) (sCst (.str "abcdefghijklmnopqrstuvwxyz"))) (sRet (liftM (sCst (.bl false)))) sNext)
def N_is_name : List Str := ["word", "letter"]
def sm_is_name : Sm :=
  (sSeq (sIfS (sNot (sChain .LtE .LtE (sCst (.int 1)) (sBi .len (sCons (sVar 0) sNil)) (sCst (.int 8)))) (sRet (liftM (sCst (.bl false)))) sNext)
  (sSeq (sFor (iData (sVar 0)) (gxName 1) sb_is_name_1 sNext)
  (sRet (liftM (sCst (.bl true))))))
def fn_is_name : Fn := fnOf 2 sm_is_name
def sb_as_names_1 : Sm :=
  (sIfS (sNot (sTru (sCall 1 fn_is_name (sCons (sVar 2) sNil)))) (sRaise "BadNames" ["row"] (sCons (sVar 1) sNil)) sNext)
def N_as_names : List Str := ["size", "row", "name"]
def sm_as_names : Sm :=
  (sSeq (sSet 1 (liftM (sBi .tuple (sCons (sVar 1) sNil))))
  (sSeq (sIfS (sOr (sCmp .NotEq (sBi .len (sCons (sVar 1) sNil)) (sVar 0)) (sCmp .NotEq (sLenSet (sVar 1)) (sVar 0))) (sRaise "BadNames" ["row"] (sCons (sVar 1) sNil)) sNext)
  (sSeq (sFor (iData (sVar 1)) (gxName 2) sb_as_names_1 sNext)
  (sRet (liftM (sVar 1))))))
def fn_as_names : Fn := fnOf 3 sm_as_names
def sb_read_names_1 : Sm :=
  (sSeq (sIfS (sOr (sNot (sTru (sCall 1 fn_is_name (sCons (sIx (sVar 3) (sCst (.int 0))) sNil)))) (sCmp .In (sIx (sVar 3) (sCst (.int 0))) (sVar 1))) (sRaise "BadText" ["line", "word"] (sCons (sBin .Add (sVar 2) (sCst (.int 2))) (sCons (sCst (.int 0)) sNil))) sNext)
  (sDrop (mMu .append (sVar 1) (nCons (liftM (sIx (sVar 3) (sCst (.int 0)))) nNil))))
def N_read_names : List Str := ["lines", "names", "place", "words"]
def sm_read_names : Sm :=
  (sSeq (sSet 1 (mLst nNil))
  (sSeq (sFor (iEnumD (sCons (sVar 0) sNil)) (gxTup 2 (gxCons (gxName 2) (gxCons (gxName 3) gxNil))) sb_read_names_1 sNext)
  (sRet (liftM (sVar 1)))))
def fn_read_names : Fn := fnOf 4 sm_read_names
def se_as_signs_1 : Sx :=
  (sBi .tuple (sCons (sVar 6) sNil))
def se_as_signs_2 : Sx :=
  (sBi .tuple (sCons (sComp [6] (iData (sVar 1)) (gxName 6) sYes se_as_signs_1) sNil))
def sb_as_signs_3 : Sm :=
  (sIfS (sCmp .NotIn (sVar 5) (sTup (sCons (sCst (.int 1)) (sCons (sCst (.int 0)) (sCons (sUn .USub (sCst (.int 1))) sNil))))) (sRaise "BadSigns" ["house"] (sCons (sVar 3) sNil)) sNext)
def sb_as_signs_4 : Sm :=
  (sSeq (sIfS (sOr (sCmp .Gt (sBi .len (sCons (sVar 1) sNil)) (sCst (.int 4))) (sNot (sTru (sCall 2 fn_is_ascending (sCons (sComp [4, 5] (iData (sVar 1)) (gxTup 2 (gxCons (gxName 4) (gxCons (gxName 5) gxNil))) sYes (sVar 4)) (sCons (sBi .len (sCons (sVar 2) sNil)) sNil)))))) (sRaise "BadSigns" ["house"] (sCons (sVar 3) sNil)) sNext)
  (sFor (iData (sVar 1)) (gxTup 2 (gxCons (gxName 4) (gxCons (gxName 5) gxNil))) sb_as_signs_3 sNext))
def N_as_signs : List Str := ["signs", "row", "rows", "house", "heard", "sign", "hearing"]
def sm_as_signs : Sm :=
  (sSeq (sSet 2 (liftM (sBi .tuple (sCons (sComp [1] (iData (sVar 0)) (gxName 1) sYes se_as_signs_2) sNil))))
  (sSeq (sIfS (sNot (sChain .LtE .LtE (sCst (.int 1)) (sBi .len (sCons (sVar 2) sNil)) (sCst (.int 12)))) (sRaise "BadSize" ["count"] (sCons (sBi .len (sCons (sVar 2) sNil)) sNil)) sNext)
  (sSeq (sFor (iEnumD (sCons (sVar 2) sNil)) (gxTup 2 (gxCons (gxName 3) (gxCons (gxName 1) gxNil))) sb_as_signs_4 sNext)
  (sRet (liftM (sVar 2))))))
def fn_as_signs : Fn := fnOf 7 sm_as_signs
def se_format_signs_1 : Sx :=
  (sBin .Add (sDGet kd_MARKS (sVar 6)) (sIx (sVar 0) (sVar 5)))
def sb_format_signs_2 : Sm :=
  (sDrop (mMu .append (sVar 2) (nCons (liftM (sStrM (strM .join) (sCst (.str " ")) (sLst (sCons (sVar 3) (sStar (sComp [5, 6] (iData (sVar 4)) (gxTup 2 (gxCons (gxName 5) (gxCons (gxName 6) gxNil))) sYes se_format_signs_1) sNil))))) nNil)))
def N_format_signs : List Str := ["names", "signs", "lines", "name", "row", "heard", "sign"]
def sm_format_signs : Sm :=
  (sSeq (sSet 1 (liftM (sCall 1 fn_as_signs (sCons (sVar 1) sNil))))
  (sSeq (sSet 0 (liftM (sCall 2 fn_as_names (sCons (sBi .len (sCons (sVar 1) sNil)) (sCons (sVar 0) sNil)))))
  (sSeq (sSet 2 (mLst (nCons (liftM (sJoined [(sFmt (sCst (.str "signs"))), (sCst (.str " ")), (sFmt (sBi .len (sCons (sVar 1) sNil)))] Str.empty)) nNil)))
  (sSeq (sFor (iZipD (sCons (sVar 0) (sCons (sVar 1) sNil))) (gxTup 2 (gxCons (gxName 3) (gxCons (gxName 4) gxNil))) sb_format_signs_2 sNext)
  (sRet (liftM (sStrM (strM .join) (sCst (.str "\n")) (sVar 2))))))))
def fn_format_signs : Fn := fnOf 7 sm_format_signs
def se_count_of_1 : Sx :=
  (sBi .str (sCons (sVar 1) sNil))
def N_count_of : List Str := ["words", "size"]
def sm_count_of : Sm :=
  (sSeq (sIfS (sCmp .NotEq (sIx (sVar 0) (sCst (.int 0))) (sCst (.str "signs"))) (sRaise "BadText" ["line", "word"] (sCons (sCst (.int 1)) (sCons (sCst (.int 0)) sNil))) sNext)
  (sSeq (sIfS (sOr (sCmp .Eq (sBi .len (sCons (sVar 0) sNil)) (sCst (.int 1))) (sCmp .NotIn (sIx (sVar 0) (sCst (.int 1))) (sComp [1] (iRange2 (sCons (sCst (.int 1)) (sCons (sBin .Add (sCst (.int 12)) (sCst (.int 1))) sNil))) (gxName 1) sYes se_count_of_1))) (sRaise "BadText" ["line", "word"] (sCons (sCst (.int 1)) (sCons (sCst (.int 1)) sNil))) sNext)
  (sSeq (sIfS (sCmp .Gt (sBi .len (sCons (sVar 0) sNil)) (sCst (.int 2))) (sRaise "BadText" ["line", "word"] (sCons (sCst (.int 1)) (sCons (sCst (.int 2)) sNil))) sNext)
  (sRet (liftM (sBi .int (sCons (sIx (sVar 0) (sCst (.int 1))) sNil)))))))
def fn_count_of : Fn := fnOf 2 sm_count_of
def sb_read_signed_1 : Sm :=
  (sSeq (sSet 6 (liftM (sSl (sIx (sVar 1) (sVar 5)) none (some (sCst (.int 1))))))
  (sSeq (sSet 7 (liftM (sSl (sIx (sVar 1) (sVar 5)) (some (sCst (.int 1))) none)))
  (sSeq (sIfS (sOr (sDIn true kd_SIGNS (sVar 6)) (sOr (sCmp .NotIn (sVar 7) (sVar 0)) (sOr (sCmp .Eq (sBi .len (sCons (sVar 3) sNil)) (sCst (.int 4))) (sCmp .LtE (sIndex (sVar 0) (sVar 7)) (sVar 4))))) (sRaise "BadText" ["line", "word"] (sCons (sVar 2) (sCons (sVar 5) sNil))) sNext)
  (sSeq (sSet 4 (liftM (sIndex (sVar 0) (sVar 7))))
  (sDrop (mMu .append (sVar 3) (nCons (liftM (sTup (sCons (sVar 4) (sCons (sDGet kd_SIGNS (sVar 6)) sNil)))) nNil)))))))
def N_read_signed : List Str := ["names", "words", "line", "hearings", "last", "place", "mark", "name"]
def sm_read_signed : Sm :=
  (sSeq (sSet 3 (mLst nNil))
  (sSeq (sSet 4 (liftM (sUn .USub (sCst (.int 1)))))
  (sSeq (sFor (iRange2 (sCons (sCst (.int 1)) (sCons (sBi .len (sCons (sVar 1) sNil)) sNil))) (gxName 5) sb_read_signed_1 sNext)
  (sRet (liftM (sBi .tuple (sCons (sVar 3) sNil)))))))
def fn_read_signed : Fn := fnOf 8 sm_read_signed
def se_read_signs_1 : Sx :=
  (sStrM (strM .split) (sVar 5) (sCst (.str " ")))
def se_read_signs_2 : Sx :=
  (sCall 3 fn_read_signed (sCons (sVar 3) (sCons (sVar 7) (sCons (sBin .Add (sVar 6) (sCst (.int 2))) sNil))))
def N_read_signs : List Str := ["text", "lines", "size", "names", "rows", "line", "place", "words"]
def sm_read_signs : Sm :=
  (sSeq (sSet 1 (liftM (sComp [5] (iData (sStrM (strM .split) (sVar 0) (sCst (.str "\n")))) (gxName 5) sYes se_read_signs_1)))
  (sSeq (sSet 2 (liftM (sCall 1 fn_count_of (sCons (sIx (sVar 1) (sCst (.int 0))) sNil))))
  (sSeq (sIfS (sCmp .Lt (sBi .len (sCons (sVar 1) sNil)) (sBin .Add (sVar 2) (sCst (.int 1)))) (sRaise "BadText" ["line", "word"] (sCons (sBin .Add (sBi .len (sCons (sVar 1) sNil)) (sCst (.int 1))) (sCons (sCst (.int 0)) sNil))) sNext)
  (sSeq (sIfS (sCmp .Gt (sBi .len (sCons (sVar 1) sNil)) (sBin .Add (sVar 2) (sCst (.int 1)))) (sRaise "BadText" ["line", "word"] (sCons (sBin .Add (sVar 2) (sCst (.int 2))) (sCons (sCst (.int 0)) sNil))) sNext)
  (sSeq (sSet 3 (liftM (sCall 1 fn_read_names (sCons (sSl (sVar 1) (some (sCst (.int 1))) none) sNil))))
  (sSeq (sSet 4 (liftM (sComp [6, 7] (iEnumD (sCons (sSl (sVar 1) (some (sCst (.int 1))) none) sNil)) (gxTup 2 (gxCons (gxName 6) (gxCons (gxName 7) gxNil))) sYes se_read_signs_2)))
  (sRet (liftM (sTup (sCons (sBi .tuple (sCons (sVar 3) sNil)) (sCons (sBi .tuple (sCons (sVar 4) sNil)) sNil)))))))))))
def fn_read_signs : Fn := fnOf 8 sm_read_signs
def N__law_cell : List Str := ["script", "k"]
def sm__law_cell : Sm :=
  (sSeq (sIfS (sCmp .Lt (sVar 1) (sBi .len (sCons (sVar 0) sNil))) (sRet (liftM (sBi .int (sCons (sIx (sVar 0) (sVar 1)) sNil)))) sNext)
  (sRet (liftM (sCst (.int 0)))))
def fn__law_cell : Fn := fnOf 2 sm__law_cell
def sb__law_draws_1 : Sm :=
  (sIfS (sCmp .GtE (sBi .abs (sCons (sVar 0) sNil)) (sBin .Pow (sCst (.int 10)) (sCst (.int 18)))) (sSeq (sDrop (mMu .append (sVar 3) (nCons (liftM (sBin .Mod (sBi .int (sCons (sVar 2) sNil)) (sIx (sVar 1) (sVar 4)))) nNil)))
  (sSet 2 (liftM (sBin .FloorDiv (sVar 2) (sIx (sVar 1) (sVar 4)))))) (sSeq (sSet 5 (liftM (sBin .Mod (sBi .int (sCons (sBin .Mult (sBin .Mult (sBin .Add (sBin .Mod (sBi .int (sCons (sBi .abs (sCons (sVar 0) sNil)) sNil)) (sCst (.int 2147483647))) (sCst (.int 1))) (sBin .Add (sBin .Mult (sCst (.int 2)) (sVar 4)) (sCst (.int 7)))) (sCst (.int 48271))) sNil)) (sCst (.int 2147483647)))))
  (sSeq (sSet 5 (liftM (sBin .Mod (sBi .int (sCons (sBin .Mult (sBin .Add (sVar 5) (sVar 4)) (sBin .Add (sVar 5) (sCst (.int 69621)))) sNil)) (sCst (.int 1000000007)))))
  (sDrop (mMu .append (sVar 3) (nCons (liftM (sBin .Mod (sBi .int (sCons (sBin .FloorDiv (sVar 5) (sCst (.int 11))) sNil)) (sIx (sVar 1) (sVar 4)))) nNil))))))
def N__law_draws : List Str := ["cell", "sizes", "rest", "draws", "k", "mixed"]
def sm__law_draws : Sm :=
  (sSeq (sSet 2 (liftM (sBi .abs (sCons (sVar 0) sNil))))
  (sSeq (sSet 3 (mLst nNil))
  (sSeq (sFor (iRange1 (sCons (sBi .len (sCons (sVar 1) sNil)) sNil)) (gxName 4) sb__law_draws_1 sNext)
  (sRet (liftM (sVar 3))))))
def fn__law_draws : Fn := fnOf 6 sm__law_draws
def sb__law_heard_1 : Sm :=
  (sDrop (mMu .append (sVar 4) (nCons (mMu .popAt (sVar 3) (nCons (liftM (sBin .Mod (sBi .int (sCons (sIx (sVar 0) (sBin .Add (sVar 5) (sCst (.int 1)))) sNil)) (sBi .len (sCons (sVar 3) sNil)))) nNil)) nNil)))
def N__law_heard : List Str := ["draws", "size", "house", "left", "heard", "k", "other"]
def sm__law_heard : Sm :=
  (sSeq (sSet 3 (mComp [6] (iRange1 (sCons (sVar 1) sNil)) (gxName 6) sYes (sVar 6)))
  (sSeq (sSet 4 (mLst nNil))
  (sSeq (sFor (iRange1 (sCons (sBi .min (sCons (sIx (sVar 0) (sCst (.int 0))) (sCons (sVar 1) sNil))) sNil)) (gxName 5) sb__law_heard_1 sNext)
  (sSeq (sIfS (sAnd (sCmp .Eq (sIx (sVar 0) (sCst (.int 5))) (sCst (.int 1))) (sAnd (sTru (sVar 4)) (sCmp .NotIn (sVar 2) (sVar 4)))) (sPut (sVar 4) (sCst (.int 0)) (liftM (sVar 2))) sNext)
  (sRet (liftM (sBi .tuple (sCons (sBi .sorted (sCons (sVar 4) sNil)) sNil))))))))
def fn__law_heard : Fn := fnOf 7 sm__law_heard
def st__law_same_1 (fn : Fn) : Sx :=
  (sNot (sTru (sCall 2 fn (sCons (sIx (sVar 0) (sVar 2)) (sCons (sIx (sVar 1) (sVar 2)) sNil)))))
def N__law_same : List Str := ["actual", "expected", "k"]
def sm__law_same (fn : Fn) : Sm :=
  (sSeq (sIfS (sCmp .Is (sVar 1) (sCst .non)) (sRet (liftM (sCmp .Is (sVar 0) (sCst .non)))) sNext)
  (sSeq (sIfS (sOr (sTru (sIsi .bool (sVar 1))) (sTru (sIsi .bool (sVar 0)))) (sRet (liftM (sAndV (sIsi .bool (sVar 1)) (sAndV (sIsi .bool (sVar 0)) (sCmp .Eq (sVar 0) (sVar 1)))))) sNext)
  (sSeq (sIfS (sTru (sIsi .tuple (sVar 1))) (sSeq (sIfS (sOr (sNot (sTru (sIsi .tuple (sVar 0)))) (sCmp .NotEq (sBi .len (sCons (sVar 0) sNil)) (sBi .len (sCons (sVar 1) sNil)))) (sRet (liftM (sCst (.bl false)))) sNext)
  (sRet (liftM (sNot (sTru (sComp [2] (iRange1 (sCons (sBi .len (sCons (sVar 1) sNil)) sNil)) (gxName 2) (st__law_same_1 fn) (sVar 2))))))) sNext)
  (sSeq (sIfS (sTru (sIsi .int (sVar 1))) (sRet (liftM (sAndV (sIsi .int (sVar 0)) (sCmp .Eq (sVar 0) (sVar 1))))) sNext)
  (sRet (liftM (sAndV (sIsi .str (sVar 0)) (sAndV (sIsi .str (sVar 1)) (sCmp .Eq (sVar 0) (sVar 1))))))))))
def fn__law_same : Fn := fnRec 3 sm__law_same 8
def se__law_hearings_1 : Sx :=
  (sTup (sCons (sIx (sVar 4) (sVar 5)) (sCons (sBin .Sub (sIx (sVar 3) (sBin .Add (sCst (.int 5)) (sVar 5))) (sCst (.int 1))) sNil)))
def N__law_hearings : List Str := ["cell", "size", "most", "draws", "heard", "k"]
def sm__law_hearings : Sm :=
  (sSeq (sSet 3 (liftM (sCall 2 fn__law_draws (sCons (sVar 0) (sCons (sLst (sCons (sBin .Add (sVar 2) (sCst (.int 1))) (sCons (sCst (.int 12)) (sCons (sCst (.int 11)) (sCons (sCst (.int 10)) (sCons (sCst (.int 9)) (sCons (sCst (.int 3)) (sCons (sCst (.int 3)) (sCons (sCst (.int 3)) (sCons (sCst (.int 3)) sNil)))))))))) sNil)))))
  (sSeq (sSet 4 (liftM (sCall 3 fn__law_heard (sCons (sBin .Add (sSl (sVar 3) none (some (sCst (.int 5)))) (sLst (sCons (sCst (.int 0)) sNil))) (sCons (sVar 1) (sCons (sCst (.int 0)) sNil))))))
  (sRet (liftM (sBi .tuple (sCons (sComp [5] (iRange1 (sCons (sBi .len (sCons (sVar 4) sNil)) sNil)) (gxName 5) sYes se__law_hearings_1) sNil))))))
def fn__law_hearings : Fn := fnOf 6 sm__law_hearings
def sb__law_names_1 : Sm :=
  (sSeq (sIfS (sCmp .NotIn (sVar 6) (sVar 4)) sBreak sNext)
  (sSet 6 (liftM (sBin .Add (sIx (sVar 3) (sBin .Mod (sBi .int (sCons (sBin .Add (sBin .Add (sIx (sVar 2) (sBin .Mult (sCst (.int 2)) (sVar 5))) (sVar 7)) (sCst (.int 1))) sNil)) (sCst (.int 26)))) (sSl (sVar 6) (some (sCst (.int 1))) none)))))
def sb__law_names_2 : Sm :=
  (sSeq (sSet 6 (liftM (sBin .Mult (sIx (sVar 3) (sIx (sVar 2) (sBin .Mult (sCst (.int 2)) (sVar 5)))) (sBin .Add (sCst (.int 1)) (sIx (sVar 2) (sBin .Add (sBin .Mult (sCst (.int 2)) (sVar 5)) (sCst (.int 1))))))))
  (sSeq (sFor (iRange1 (sCons (sCst (.int 26)) sNil)) (gxName 7) sb__law_names_1 sNext)
  (sDrop (mMu .append (sVar 4) (nCons (liftM (sVar 6)) nNil)))))
def N__law_names : List Str := ["cell", "size", "draws", "letters", "names", "house", "name", "turn"]
def sm__law_names : Sm :=
  (sSeq (sSet 2 (liftM (sCall 2 fn__law_draws (sCons (sVar 0) (sCons (sBin .Mult (sLst (sCons (sCst (.int 26)) (sCons (sCst (.int 8)) sNil))) (sVar 1)) sNil)))))
  (sSeq (sSet 3 (liftM (sCst (.str "abcdefghijklmnopqrstuvwxyz"))))
  (sSeq (sSet 4 (mLst nNil))
  (sSeq (sFor (iRange1 (sCons (sVar 1) sNil)) (gxName 5) sb__law_names_2 sNext)
  (sRet (liftM (sBi .tuple (sCons (sVar 4) sNil))))))))
def fn__law_names : Fn := fnOf 8 sm__law_names
def se__law_listed_signs_1 : Sx :=
  (sBi .list (sCons (sVar 2) sNil))
def se__law_listed_signs_2 : Sx :=
  (sComp [2] (iData (sVar 1)) (gxName 2) sYes se__law_listed_signs_1)
def N__law_listed_signs : List Str := ["signs", "row", "hearing"]
def sm__law_listed_signs : Sm :=
  (sRet (mComp [1] (iData (sVar 0)) (gxName 1) sYes se__law_listed_signs_2))
def fn__law_listed_signs : Fn := fnOf 3 sm__law_listed_signs
def se__law_wide_signs_1 : Sx :=
  (sBin .Add (sCall 2 fn__law_cell (sCons (sVar 0) (sCons (sBin .Add (sVar 1) (sVar 5)) sNil))) (sBin .Mult (sCst (.int 53)) (sVar 5)))
def se__law_wide_signs_2 : Sx :=
  (sCall 3 fn__law_hearings (sCons (sVar 6) (sCons (sVar 2) (sCons (sVar 3) sNil))))
def N__law_wide_signs : List Str := ["script", "first", "size", "most", "cells", "house", "cell"]
def sm__law_wide_signs : Sm :=
  (sSeq (sSet 4 (liftM (sComp [5] (iRange1 (sCons (sVar 2) sNil)) (gxName 5) sYes se__law_wide_signs_1)))
  (sRet (liftM (sBi .tuple (sCons (sComp [6] (iData (sVar 4)) (gxName 6) sYes se__law_wide_signs_2) sNil)))))
def fn__law_wide_signs : Fn := fnOf 7 sm__law_wide_signs
def N__law_told : List Str := ["text", "e"]
def sm__law_told : Sm :=
  (sTry (sRet (liftM (sTup (sCons (sCst (.str "told")) (sCons (sCall 1 fn_read_signs (sCons (sVar 0) sNil)) sNil))))) [⟨mtOf ex_BadText, 1, [.txt "BadText", .fld "line", .fld "word"]⟩])
def fn__law_told : Fn := fnOf 2 sm__law_told
def N__law_written : List Str := ["names", "signs", "e"]
def sm__law_written : Sm :=
  (sTry (sRet (liftM (sTup (sCons (sCst (.str "told")) (sCons (sCall 2 fn_format_signs (sCons (sVar 0) (sCons (sVar 1) sNil))) sNil))))) [⟨mtOf ex_BadNames, 2, [.txt "BadNames", .fld "row"]⟩, ⟨mtOf ex_BadSigns, 2, [.txt "BadSigns", .fld "house"]⟩])
def fn__law_written : Fn := fnOf 3 sm__law_written
def sb__law_text_1 : Sm :=
  (sDrop (mMu .append (sVar 4) (nCons (liftM (sBin .Add (sIx (sLst (sCons (sCst (.str "?")) (sCons (sCst (.str "+")) (sCons (sCst (.str "-")) sNil)))) (sVar 6)) (sIx (sVar 0) (sVar 5)))) nNil)))
def sb__law_text_2 : Sm :=
  (sSeq (sSet 4 (mLst (nCons (liftM (sIx (sVar 0) (sVar 3))) nNil)))
  (sSeq (sFor (iData (sIx (sVar 1) (sVar 3))) (gxTup 2 (gxCons (gxName 5) (gxCons (gxName 6) gxNil))) sb__law_text_1 sNext)
  (sDrop (mMu .append (sVar 2) (nCons (liftM (sStrM (strM .join) (sCst (.str " ")) (sVar 4))) nNil)))))
def N__law_text : List Str := ["names", "signs", "lines", "house", "words", "heard", "sign"]
def sm__law_text : Sm :=
  (sSeq (sSet 2 (mLst (nCons (liftM (sBin .Add (sCst (.str "signs ")) (sBi .str (sCons (sBi .len (sCons (sVar 1) sNil)) sNil)))) nNil)))
  (sSeq (sFor (iRange1 (sCons (sBi .len (sCons (sVar 1) sNil)) sNil)) (gxName 3) sb__law_text_2 sNext)
  (sRet (liftM (sStrM (strM .join) (sCst (.str "\n")) (sVar 2))))))
def fn__law_text : Fn := fnOf 7 sm__law_text
def st__law_is_name_1 : Sx :=
  (sCmp .NotIn (sVar 1) (sCst (.str "abcdefghijklmnopqrstuvwxyz")))
def N__law_is_name : List Str := ["word", "letter"]
def sm__law_is_name : Sm :=
  (sSeq (sIfS (sOr (sCmp .Lt (sBi .len (sCons (sVar 0) sNil)) (sCst (.int 1))) (sCmp .Gt (sBi .len (sCons (sVar 0) sNil)) (sCst (.int 8)))) (sRet (liftM (sCst (.bl false)))) sNext)
  (sRet (liftM (sNot (sTru (sComp [1] (iData (sVar 0)) (gxName 1) st__law_is_name_1 (sVar 1)))))))
def fn__law_is_name : Fn := fnOf 2 sm__law_is_name
def se__law_size_1 : Sx :=
  (sBi .str (sCons (sVar 1) sNil))
def se__law_size_2 : Sx :=
  (sBi .str (sCons (sVar 1) sNil))
def N__law_size : List Str := ["words", "k"]
def sm__law_size : Sm :=
  (sSeq (sIfS (sCmp .NotEq (sIx (sVar 0) (sCst (.int 0))) (sCst (.str "signs"))) (sRet (liftM (sTup (sCons (sCst (.str "bad")) (sCons (sCst (.int 0)) sNil))))) sNext)
  (sSeq (sIfS (sOr (sCmp .Lt (sBi .len (sCons (sVar 0) sNil)) (sCst (.int 2))) (sCmp .NotIn (sIx (sVar 0) (sCst (.int 1))) (sComp [1] (iRange2 (sCons (sCst (.int 1)) (sCons (sCst (.int 13)) sNil))) (gxName 1) sYes se__law_size_1))) (sRet (liftM (sTup (sCons (sCst (.str "bad")) (sCons (sCst (.int 1)) sNil))))) sNext)
  (sSeq (sIfS (sCmp .Gt (sBi .len (sCons (sVar 0) sNil)) (sCst (.int 2))) (sRet (liftM (sTup (sCons (sCst (.str "bad")) (sCons (sCst (.int 2)) sNil))))) sNext)
  (sRet (liftM (sTup (sCons (sCst (.str "good")) (sCons (sBin .Add (sIndex (sComp [1] (iRange2 (sCons (sCst (.int 1)) (sCons (sCst (.int 13)) sNil))) (gxName 1) sYes se__law_size_2) (sIx (sVar 0) (sCst (.int 1)))) (sCst (.int 1))) sNil))))))))
def fn__law_size : Fn := fnOf 2 sm__law_size
def sb__law_row_1 : Sm :=
  (sSeq (sIfS (sOr (sCmp .NotIn (sSl (sIx (sVar 1) (sVar 3)) none (some (sCst (.int 1)))) (sTup (sCons (sCst (.str "+")) (sCons (sCst (.str "-")) (sCons (sCst (.str "?")) sNil))))) (sOr (sCmp .NotIn (sSl (sIx (sVar 1) (sVar 3)) (some (sCst (.int 1))) none) (sVar 0)) (sCmp .Eq (sBi .len (sCons (sVar 2) sNil)) (sCst (.int 4))))) (sRet (liftM (sTup (sCons (sCst (.str "bad")) (sCons (sVar 3) sNil))))) sNext)
  (sSeq (sSet 4 (liftM (sIndex (sVar 0) (sSl (sIx (sVar 1) (sVar 3)) (some (sCst (.int 1))) none))))
  (sSeq (sIfS (sAnd (sTru (sVar 2)) (sCmp .LtE (sVar 4) (sIx (sIx (sVar 2) (sUn .USub (sCst (.int 1)))) (sCst (.int 0))))) (sRet (liftM (sTup (sCons (sCst (.str "bad")) (sCons (sVar 3) sNil))))) sNext)
  (sDrop (mMu .append (sVar 2) (nCons (liftM (sTup (sCons (sVar 4) (sCons (sIx (sLst (sCons (sCst (.int 1)) (sCons (sUn .USub (sCst (.int 1))) (sCons (sCst (.int 0)) sNil)))) (sIndex (sLst (sCons (sCst (.str "+")) (sCons (sCst (.str "-")) (sCons (sCst (.str "?")) sNil)))) (sSl (sIx (sVar 1) (sVar 3)) none (some (sCst (.int 1)))))) sNil)))) nNil))))))
def N__law_row : List Str := ["names", "words", "row", "k", "heard"]
def sm__law_row : Sm :=
  (sSeq (sSet 2 (mLst nNil))
  (sSeq (sFor (iRange2 (sCons (sCst (.int 1)) (sCons (sBi .len (sCons (sVar 1) sNil)) sNil))) (gxName 3) sb__law_row_1 sNext)
  (sRet (liftM (sTup (sCons (sCst (.str "good")) (sCons (sBi .tuple (sCons (sVar 2) sNil)) sNil)))))))
def fn__law_row : Fn := fnOf 5 sm__law_row
def se__law_read_1 : Sx :=
  (sStrM (strM .split) (sVar 9) (sCst (.str " ")))
def sb__law_read_2 : Sm :=
  (sSeq (sSet 6 (liftM (sIx (sIx (sVar 1) (sBin .Add (sVar 5) (sCst (.int 1)))) (sCst (.int 0)))))
  (sSeq (sIfS (sOr (sNot (sTru (sCall 1 fn__law_is_name (sCons (sVar 6) sNil)))) (sCmp .In (sVar 6) (sVar 4))) (sRet (liftM (sTup (sCons (sCst (.str "BadText")) (sCons (sBin .Add (sVar 5) (sCst (.int 2))) (sCons (sCst (.int 0)) sNil)))))) sNext)
  (sDrop (mMu .append (sVar 4) (nCons (liftM (sVar 6)) nNil)))))
def sb__law_read_3 : Sm :=
  (sSeq (sAsg (gxTup 2 (gxCons (gxName 2) (gxCons (gxName 8) gxNil))) (liftM (sCall 2 fn__law_row (sCons (sVar 4) (sCons (sIx (sVar 1) (sBin .Add (sVar 5) (sCst (.int 1)))) sNil)))))
  (sSeq (sIfS (sCmp .Eq (sVar 2) (sCst (.str "bad"))) (sRet (liftM (sTup (sCons (sCst (.str "BadText")) (sCons (sBin .Add (sVar 5) (sCst (.int 2))) (sCons (sVar 8) sNil)))))) sNext)
  (sDrop (mMu .append (sVar 7) (nCons (liftM (sVar 8)) nNil)))))
def N__law_read : List Str := ["text", "lines", "kind", "size", "names", "k", "word", "rows", "row", "line"]
def sm__law_read : Sm :=
  (sSeq (sSet 1 (liftM (sComp [9] (iData (sStrM (strM .split) (sVar 0) (sCst (.str "\n")))) (gxName 9) sYes se__law_read_1)))
  (sSeq (sAsg (gxTup 2 (gxCons (gxName 2) (gxCons (gxName 3) gxNil))) (liftM (sCall 1 fn__law_size (sCons (sIx (sVar 1) (sCst (.int 0))) sNil))))
  (sSeq (sIfS (sCmp .Eq (sVar 2) (sCst (.str "bad"))) (sRet (liftM (sTup (sCons (sCst (.str "BadText")) (sCons (sCst (.int 1)) (sCons (sVar 3) sNil)))))) sNext)
  (sSeq (sIfS (sCmp .NotEq (sBi .len (sCons (sVar 1) sNil)) (sBin .Add (sVar 3) (sCst (.int 1)))) (sRet (liftM (sTup (sCons (sCst (.str "BadText")) (sCons (sBi .min (sCons (sBin .Add (sBi .len (sCons (sVar 1) sNil)) (sCst (.int 1))) (sCons (sBin .Add (sVar 3) (sCst (.int 2))) sNil))) (sCons (sCst (.int 0)) sNil)))))) sNext)
  (sSeq (sSet 4 (mLst nNil))
  (sSeq (sFor (iRange1 (sCons (sVar 3) sNil)) (gxName 5) sb__law_read_2 sNext)
  (sSeq (sSet 7 (mLst nNil))
  (sSeq (sFor (iRange1 (sCons (sVar 3) sNil)) (gxName 5) sb__law_read_3 sNext)
  (sRet (liftM (sTup (sCons (sCst (.str "told")) (sCons (sTup (sCons (sBi .tuple (sCons (sVar 4) sNil)) (sCons (sBi .tuple (sCons (sVar 7) sNil)) sNil))) sNil)))))))))))))
def fn__law_read : Fn := fnOf 10 sm__law_read
def se__law_changed_1 : Sx :=
  (sIf (sTru (sVar 8)) (sVar 8) (sLst (sCons (sCst (.str "")) sNil)))
def N__law_changed : List Str := ["lines", "draws", "names", "at", "place", "menu", "last", "word", "words"]
def sm__law_changed : Sm :=
  (sSeq (sSet 0 (mCompM [8] (iData (sVar 0)) (gxName 8) sYes (mList (sVar 8))))
  (sSeq (sSet 3 (liftM (sBin .Mod (sBi .int (sCons (sIx (sVar 1) (sCst (.int 1))) sNil)) (sBi .len (sCons (sVar 0) sNil)))))
  (sSeq (sSet 4 (liftM (sBin .Mod (sBi .int (sCons (sIx (sVar 1) (sCst (.int 2))) sNil)) (sBi .len (sCons (sIx (sVar 0) (sVar 3)) sNil)))))
  (sSeq (sSet 5 (liftM (sLst (sCons (sCst (.str "")) (sCons (sCst (.str "signs")) (sCons (sCst (.str "web")) (sCons (sCst (.str "0")) (sCons (sCst (.str "13")) (sCons (sCst (.str "07")) (sCons (sCst (.str "?")) (sCons (sCst (.str "+")) (sCons (sCst (.str "-")) (sCons (sCst (.str "A")) (sCons (sCst (.str "ninesigns")) (sCons (sCst (.str "a1")) (sCons (sCst (.str "*")) (sCons (sBin .Add (sCst (.str "!")) (sIx (sVar 2) (sCst (.int 0)))) (sCons (sBin .Add (sCst (.str "+")) (sIx (sVar 2) (sUn .USub (sCst (.int 1))))) sNil))))))))))))))))))
  (sSeq (sSet 5 (liftM (sBin .Add (sVar 5) (sLst (sCons (sBin .Add (sCst (.str "-")) (sIx (sVar 2) (sCst (.int 0)))) (sCons (sBin .Add (sCst (.str "?")) (sIx (sVar 2) (sBin .Mod (sBi .int (sCons (sIx (sVar 1) (sCst (.int 3))) sNil)) (sBi .len (sCons (sVar 2) sNil))))) (sCons (sIx (sVar 2) (sUn .USub (sCst (.int 1)))) (sCons (sBin .Add (sBin .Add (sCst (.str "+")) (sIx (sVar 2) (sCst (.int 0)))) (sCst (.str " "))) (sCons (sCst (.str "12")) sNil)))))))))
  (sSeq (sIfS (sCmp .Eq (sIx (sVar 1) (sCst (.int 0))) (sCst (.int 0))) (sPut (sIx (sVar 0) (sVar 3)) (sVar 4) (liftM (sIx (sVar 5) (sIx (sVar 1) (sCst (.int 3)))))) (sIfS (sCmp .Eq (sIx (sVar 1) (sCst (.int 0))) (sCst (.int 1))) (sDrop (mMu .insert (sIx (sVar 0) (sVar 3)) (nCons (liftM (sVar 4)) (nCons (liftM (sIx (sIx (sVar 0) (sVar 3)) (sVar 4))) nNil)))) (sIfS (sCmp .Eq (sIx (sVar 1) (sCst (.int 0))) (sCst (.int 2))) (sDrop (mMu .popAt (sIx (sVar 0) (sVar 3)) (nCons (liftM (sVar 4)) nNil))) (sIfS (sCmp .Eq (sIx (sVar 1) (sCst (.int 0))) (sCst (.int 3))) (sDrop (mMu .insert (sVar 0) (nCons (liftM (sVar 3)) (nCons (mList (sIx (sVar 0) (sVar 3))) nNil)))) (sIfS (sAnd (sCmp .Eq (sIx (sVar 1) (sCst (.int 0))) (sCst (.int 4))) (sCmp .Gt (sBi .len (sCons (sVar 0) sNil)) (sCst (.int 1)))) (sDrop (mMu .popAt (sVar 0) (nCons (liftM (sVar 3)) nNil))) (sIfS (sCmp .Eq (sIx (sVar 1) (sCst (.int 0))) (sCst (.int 5))) (sDrop (mMu .append (sIx (sVar 0) (sVar 3)) (nCons (liftM (sIx (sVar 5) (sIx (sVar 1) (sCst (.int 3))))) nNil))) (sIfS (sCmp .Eq (sIx (sVar 1) (sCst (.int 0))) (sCst (.int 6))) (sSeq (sSet 6 (liftM (sIx (sVar 0) (sUn .USub (sCst (.int 1))))))
  (sSeq (sPut (sVar 0) (sUn .USub (sCst (.int 1))) (liftM (sIx (sVar 0) (sVar 3))))
  (sPut (sVar 0) (sVar 3) (liftM (sVar 6))))) (sIfS (sCmp .Eq (sIx (sVar 1) (sCst (.int 0))) (sCst (.int 7))) (sSeq (sSet 7 (liftM (sIx (sIx (sVar 0) (sVar 3)) (sVar 4))))
  (sPut (sIx (sVar 0) (sVar 3)) (sVar 4) (liftM (sBin .Add (sIx (sLst (sCons (sCst (.str "+")) (sCons (sCst (.str "-")) (sCons (sCst (.str "?")) (sCons (sCst (.str " ")) (sCons (sCst (.str "!")) sNil)))))) (sBin .Mod (sBi .int (sCons (sIx (sVar 1) (sCst (.int 3))) sNil)) (sCst (.int 5)))) (sSl (sVar 7) (some (sCst (.int 1))) none))))) (sIfS (sCmp .Eq (sIx (sVar 1) (sCst (.int 0))) (sCst (.int 8))) (sDrop (mMu0 .reverse (sIx (sVar 0) (sVar 3)))) sNext)))))))))
  (sRet (mComp [8] (iData (sVar 0)) (gxName 8) sYes se__law_changed_1))))))))
def fn__law_changed : Fn := fnOf 9 sm__law_changed
def se_law_1 : Sx :=
  (sStrM (strM .split) (sVar 12) (sCst (.str " ")))
def se_law_2 : Sx :=
  (sStrM (strM .join) (sCst (.str " ")) (sVar 13))
def sb_law_3 : Sm :=
  (sSeq (sSet 7 (liftM (sComp [12] (iData (sStrM (strM .split) (sVar 4) (sCst (.str "\n")))) (gxName 12) sYes se_law_1)))
  (sSeq (sSet 8 (liftM (sCall 2 fn__law_draws (sCons (sBin .Add (sCall 2 fn__law_cell (sCons (sVar 0) (sCons (sBin .Add (sCst (.int 14)) (sVar 6)) sNil))) (sVar 6)) (sCons (sBin .Add (sBin .Mult (sLst (sCons (sCst (.int 10)) (sCons (sCst (.int 13)) (sCons (sCst (.int 6)) (sCons (sCst (.int 20)) sNil))))) (sCst (.int 2))) (sLst (sCons (sCst (.int 3)) sNil))) sNil)))))
  (sSeq (sSet 7 (liftM (sCall 3 fn__law_changed (sCons (sVar 7) (sCons (sVar 8) (sCons (sVar 3) sNil))))))
  (sSeq (sIfS (sCmp .Eq (sIx (sVar 8) (sCst (.int 8))) (sCst (.int 0))) (sSet 7 (liftM (sCall 3 fn__law_changed (sCons (sVar 7) (sCons (sSl (sVar 8) (some (sCst (.int 4))) none) (sCons (sVar 3) sNil)))))) sNext)
  (sSeq (sSet 9 (liftM (sStrM (strM .join) (sCst (.str "\n")) (sComp [13] (iData (sVar 7)) (gxName 13) sYes se_law_2))))
  (sIfS (sNot (sTru (sCall 2 fn__law_same (sCons (sCall 1 fn__law_told (sCons (sVar 9) sNil)) (sCons (sCall 1 fn__law_read (sCons (sVar 9) sNil)) sNil))))) (sRet (liftM (sCst (.bl false)))) sNext))))))
def sb_law_4 : Sm :=
  (sIfS (sNot (sTru (sCall 2 fn__law_same (sCons (sCall 1 fn__law_told (sCons (sVar 9) sNil)) (sCons (sCall 1 fn__law_read (sCons (sVar 9) sNil)) sNil))))) (sRet (liftM (sCst (.bl false)))) sNext)
def sb_law_5 : Sm :=
  (sIfS (sNot (sTru (sCall 2 fn__law_same (sCons (sCall 2 fn__law_written (sCons (sVar 10) (sCons (sVar 5) sNil))) (sCons (sTup (sCons (sCst (.str "BadNames")) (sCons (sBi .tuple (sCons (sVar 10) sNil)) sNil))) sNil))))) (sRet (liftM (sCst (.bl false)))) sNext)
def N_law : List Str := ["script", "size", "signs", "names", "text", "given", "k", "lines", "draws", "changed", "bad", "house", "line", "words"]
def sm_law : Sm :=
  (sSeq (sSet 1 (liftM (sIx (sLst (sCons (sCst (.int 3)) (sCons (sCst (.int 12)) (sCons (sCst (.int 5)) (sCons (sCst (.int 1)) (sCons (sCst (.int 8)) (sCons (sCst (.int 2)) (sCons (sCst (.int 4)) (sCons (sCst (.int 10)) (sCons (sCst (.int 6)) (sCons (sCst (.int 11)) (sCons (sCst (.int 7)) (sCons (sCst (.int 9)) sNil))))))))))))) (sBin .Mod (sBi .int (sCons (sCall 2 fn__law_cell (sCons (sVar 0) (sCons (sCst (.int 0)) sNil))) sNil)) (sCst (.int 12))))))
  (sSeq (sSet 2 (liftM (sCall 4 fn__law_wide_signs (sCons (sVar 0) (sCons (sCst (.int 1)) (sCons (sVar 1) (sCons (sCst (.int 4)) sNil)))))))
  (sSeq (sSet 3 (liftM (sCall 2 fn__law_names (sCons (sCall 2 fn__law_cell (sCons (sVar 0) (sCons (sCst (.int 13)) sNil))) (sCons (sVar 1) sNil)))))
  (sSeq (sSet 4 (liftM (sCall 2 fn__law_text (sCons (sVar 3) (sCons (sVar 2) sNil)))))
  (sSeq (sSet 5 (mCall 1 fn__law_listed_signs (sCons (sVar 2) sNil)))
  (sSeq (sIfS (sOr (sNot (sTru (sCall 2 fn__law_same (sCons (sCall 2 fn__law_written (sCons (sBi .list (sCons (sVar 3) sNil)) (sCons (sVar 5) sNil))) (sCons (sTup (sCons (sCst (.str "told")) (sCons (sVar 4) sNil))) sNil))))) (sCmp .NotEq (sVar 5) (sCall 1 fn__law_listed_signs (sCons (sVar 2) sNil)))) (sRet (liftM (sCst (.bl false)))) sNext)
  (sSeq (sIfS (sNot (sTru (sCall 2 fn__law_same (sCons (sCall 1 fn__law_told (sCons (sVar 4) sNil)) (sCons (sTup (sCons (sCst (.str "told")) (sCons (sTup (sCons (sVar 3) (sCons (sVar 2) sNil))) sNil))) sNil))))) (sRet (liftM (sCst (.bl false)))) sNext)
  (sSeq (sFor (iRange1 (sCons (sCst (.int 6)) sNil)) (gxName 6) sb_law_3 sNext)
  (sSeq (sFor (iData (sTup (sCons (sBin .Add (sVar 4) (sCst (.str "\n"))) (sCons (sBin .Add (sVar 4) (sCst (.str " "))) (sCons (sCst (.str "")) (sCons (sRepl (sVar 4) "signs" "sign") sNil)))))) (gxName 9) sb_law_4 sNext)
  (sSeq (sFor (iData (sTup (sCons (sBin .Add (sBi .list (sCons (sVar 3) sNil)) (sLst (sCons (sCst (.str "mill")) sNil))) (sCons (sBi .list (sCons (sSl (sVar 3) none (some (sUn .USub (sCst (.int 1))))) sNil)) (sCons (sBin .Add (sBi .list (sCons (sSl (sVar 3) none (some (sUn .USub (sCst (.int 1))))) sNil)) (sLst (sCons (sCst (.str "Mill")) sNil))) (sCons (sBin .Add (sBi .list (sCons (sSl (sVar 3) none (some (sUn .USub (sCst (.int 1))))) sNil)) (sLst (sCons (sCst (.str "")) sNil))) sNil)))))) (gxName 10) sb_law_5 sNext)
  (sSeq (sSet 11 (liftM (sBin .Mod (sBi .int (sCons (sCall 2 fn__law_cell (sCons (sVar 0) (sCons (sCst (.int 20)) sNil))) sNil)) (sVar 1))))
  (sSeq (sPut (sVar 5) (sVar 11) (liftM (sLst (sCons (sLst (sCons (sVar 11) (sCons (sCst (.int 2)) sNil))) sNil))))
  (sRet (liftM (sCall 2 fn__law_same (sCons (sCall 2 fn__law_written (sCons (sLst sNil) (sCons (sVar 5) sNil))) (sCons (sTup (sCons (sCst (.str "BadSigns")) (sCons (sVar 11) sNil))) sNil)))))))))))))))))
def fn_law : Fn := fnOf 14 sm_law
theorem b_is_ascending {w : World} {K : Frag} {mg : Str → Option Value} (Z : Fz w K mg) : BodyOk P w K mg N_is_ascending "is_ascending" (defBody (top 10)) (defScope (top 10)) 0 sm_is_ascending := fun base f cdv A outer s F0 H E c =>
  (dss_cons (xset c.toCw 2 (by kernel_rfl) (dm_lift (de_neg de_int)) rfl)
  (dss_cons (yfor c (di_data (xv 0 (by kernel_rfl))) (xg c.toCw 3 (by kernel_rfl)) (dss_cons (ds_if (dt_not (xchainT c.toCw (xv 2 (by kernel_rfl)) (xv 3 (by kernel_rfl)) (xv 1 (by kernel_rfl)) rfl)) (dss_one (ds_ret (dm_lift de_bl))) dss_nil)
  (dss_one (xset c.toCw 2 (by kernel_rfl) (dm_lift (xv 3 (by kernel_rfl))) rfl))) dss_nil rfl)
  (dss_one (ds_ret (dm_lift de_bl)))))
theorem b_is_name {w : World} {K : Frag} {mg : Str → Option Value} (Z : Fz w K mg) : BodyOk P w K mg N_is_name "is_name" (defBody (top 14)) (defScope (top 14)) 0 sm_is_name := fun base f cdv A outer s F0 H E c =>
  (dss_cons (ds_if (dt_not (xchainT c.toCw de_int (xbi .len c.toCw rfl Z.n_len (by kernel_rfl) (da_cons (xv 0 (by kernel_rfl)) da_nil rfl) rfl) (xc Z.co_MOST_LETTERS (by kernel_rfl)) rfl)) (dss_one (ds_ret (dm_lift de_bl))) dss_nil)
  (dss_cons (yfor c (di_data (xv 0 (by kernel_rfl))) (xg c.toCw 1 (by kernel_rfl)) (dss_one (ds_if (xcmpT c.toCw (xv 1 (by kernel_rfl)) (xc Z.co_LETTERS (by kernel_rfl)) rfl) (dss_one (ds_ret (dm_lift de_bl))) dss_nil)) dss_nil rfl)
  (dss_one (ds_ret (dm_lift de_bl)))))
theorem b_as_names {w : World} {K : Frag} {mg : Str → Option Value} (Z : Fz w K mg) (d_is_name : ∀ base, DefOk P w K mg base 1 "is_name" 1 fn_is_name) : BodyOk P w K mg N_as_names "as_names" (defBody (top 15)) (defScope (top 15)) 1 sm_as_names := fun base f cdv A outer s F0 H E c =>
  (dss_cons (xset c.toCw 1 (by kernel_rfl) (dm_lift (xbi .tuple c.toCw rfl Z.n_tuple (by kernel_rfl) (da_cons (xv 1 (by kernel_rfl)) da_nil rfl) rfl)) rfl)
  (dss_cons (ds_if ((dw_or (xcmpT c.toCw (xbi .len c.toCw rfl Z.n_len (by kernel_rfl) (da_cons (xv 1 (by kernel_rfl)) da_nil rfl) rfl) (xv 0 (by kernel_rfl)) rfl) (dw_or1 (xcmpT c.toCw (xlenset c.toCw rfl rfl Z.n_len Z.n_set (by kernel_rfl) (by kernel_rfl) (xv 1 (by kernel_rfl)) rfl) (xv 0 (by kernel_rfl)) rfl)))).pt (dss_one (yraiseE c Z.err_BadNames (by decide) (by kernel_rfl) (da_cons (xv 1 (by kernel_rfl)) da_nil rfl) rfl)) dss_nil)
  (dss_cons (yfor c (di_data (xv 1 (by kernel_rfl))) (xg c.toCw 2 (by kernel_rfl)) (dss_one (ds_if (dt_not (dt_tru (xcall c.toCw (d_is_name base) (by decide) (by kernel_rfl) (da_cons (xv 2 (by kernel_rfl)) da_nil rfl) rfl) rfl)) (dss_one (yraiseE c Z.err_BadNames (by decide) (by kernel_rfl) (da_cons (xv 1 (by kernel_rfl)) da_nil rfl) rfl)) dss_nil)) dss_nil rfl)
  (dss_one (ds_ret (dm_lift (xv 1 (by kernel_rfl))))))))
theorem b_read_names {w : World} {K : Frag} {mg : Str → Option Value} (Z : Fz w K mg) (d_is_name : ∀ base, DefOk P w K mg base 1 "is_name" 1 fn_is_name) : BodyOk P w K mg N_read_names "read_names" (defBody (top 17)) (defScope (top 17)) 1 sm_read_names := fun base f cdv A outer s F0 H E c =>
  (dss_cons (xset c.toCw 1 (by kernel_rfl) (dm_lst dn_nil) rfl)
  (dss_cons (yfor c (wenum rfl Z.n_enumerate (by kernel_rfl) (da_cons (xv 0 (by kernel_rfl)) da_nil rfl) rfl) (dg_tup c.toCw.calm (dgs_cons (xg c.toCw 2 (by kernel_rfl)) (dgs_cons (xg c.toCw 3 (by kernel_rfl)) dgs_nil rfl) rfl) rfl) (dss_cons (ds_if ((dw_or (dt_not (dt_tru (xcall c.toCw (d_is_name base) (by decide) (by kernel_rfl) (da_cons (de_ix (xv 3 (by kernel_rfl)) de_int rfl) da_nil rfl) rfl) rfl)) (dw_or1 (xcmpT c.toCw (de_ix (xv 3 (by kernel_rfl)) de_int rfl) (xv 1 (by kernel_rfl)) rfl)))).pt (dss_one (yraiseE c Z.err_BadText (by decide) (by kernel_rfl) (da_cons (de_bin (xv 2 (by kernel_rfl)) de_int) (da_cons de_int da_nil rfl) rfl) rfl)) dss_nil)
  (dss_one (ds_expr (dm_mu .append rfl (xv 1 (by kernel_rfl)) (dn_cons (dm_lift (de_ix (xv 3 (by kernel_rfl)) de_int rfl)) dn_nil rfl) rfl rfl (by kernel_rfl) (by kernel_rfl)) rfl))) dss_nil rfl)
  (dss_one (ds_ret (dm_lift (xv 1 (by kernel_rfl)))))))
theorem b_as_signs {w : World} {K : Frag} {mg : Str → Option Value} (Z : Fz w K mg) (d_is_ascending : ∀ base, DefOk P w K mg base 1 "is_ascending" 2 fn_is_ascending) : BodyOk P w K mg N_as_signs "as_signs" (defBody (top 19)) (defScope (top 19)) 1 sm_as_signs := fun base f cdv A outer s F0 H E c =>
  (dss_cons (xset c.toCw 2 (by kernel_rfl) (dm_lift (xbi .tuple c.toCw rfl Z.n_tuple (by kernel_rfl) (da_cons (xcomp (sl := [1]) [("row", 1)] c.toCw (di_data (xv 0 (by kernel_rfl))) (by kernel_rfl) (by kernel_rfl) (fun s H C cl fp xe V c1 => (xg c1 1 (by kernel_rfl))) (fun s H C cl fp xe V c1 => dts_nil) (fun s H C cl fp xe V c1 => (xbi .tuple c1 rfl Z.n_tuple (by kernel_rfl) (da_cons (xcomp (sl := [6]) [("hearing", 6)] c1 (di_data (xv 1 (by kernel_rfl))) (by kernel_rfl) (by kernel_rfl) (fun s H C cl fp xe V c2 => (xg c2 6 (by kernel_rfl))) (fun s H C cl fp xe V c2 => dts_nil) (fun s H C cl fp xe V c2 => (xbi .tuple c2 rfl Z.n_tuple (by kernel_rfl) (da_cons (xv 6 (by kernel_rfl)) da_nil rfl) rfl)) rfl) da_nil rfl) rfl)) rfl) da_nil rfl) rfl)) rfl)
  (dss_cons (ds_if (dt_not (xchainT c.toCw de_int (xbi .len c.toCw rfl Z.n_len (by kernel_rfl) (da_cons (xv 2 (by kernel_rfl)) da_nil rfl) rfl) (xc Z.co_MOST_HOUSES (by kernel_rfl)) rfl)) (dss_one (yraiseE c Z.err_BadSize (by decide) (by kernel_rfl) (da_cons (xbi .len c.toCw rfl Z.n_len (by kernel_rfl) (da_cons (xv 2 (by kernel_rfl)) da_nil rfl) rfl) da_nil rfl) rfl)) dss_nil)
  (dss_cons (yfor c (wenum rfl Z.n_enumerate (by kernel_rfl) (da_cons (xv 2 (by kernel_rfl)) da_nil rfl) rfl) (dg_tup c.toCw.calm (dgs_cons (xg c.toCw 3 (by kernel_rfl)) (dgs_cons (xg c.toCw 1 (by kernel_rfl)) dgs_nil rfl) rfl) rfl) (dss_cons (ds_if ((dw_or (xcmpT c.toCw (xbi .len c.toCw rfl Z.n_len (by kernel_rfl) (da_cons (xv 1 (by kernel_rfl)) da_nil rfl) rfl) (xc Z.co_MOST_HEARD (by kernel_rfl)) rfl) (dw_or1 (dt_not (dt_tru (xcall c.toCw (d_is_ascending base) (by decide) (by kernel_rfl) (da_cons (xcomp (sl := ([4] ++ ([5] ++ []))) [("heard", 4), ("sign", 5)] c.toCw (di_data (xv 1 (by kernel_rfl))) (by kernel_rfl) (by kernel_rfl) (fun s H C cl fp xe V c3 => (dg_tup c3.calm (dgs_cons (xg c3 4 (by kernel_rfl)) (dgs_cons (xg c3 5 (by kernel_rfl)) dgs_nil rfl) rfl) rfl)) (fun s H C cl fp xe V c3 => dts_nil) (fun s H C cl fp xe V c3 => (xv 4 (by kernel_rfl))) rfl) (da_cons (xbi .len c.toCw rfl Z.n_len (by kernel_rfl) (da_cons (xv 2 (by kernel_rfl)) da_nil rfl) rfl) da_nil rfl) rfl) rfl) rfl))))).pt (dss_one (yraiseE c Z.err_BadSigns (by decide) (by kernel_rfl) (da_cons (xv 3 (by kernel_rfl)) da_nil rfl) rfl)) dss_nil)
  (dss_one (yfor c (di_data (xv 1 (by kernel_rfl))) (dg_tup c.toCw.calm (dgs_cons (xg c.toCw 4 (by kernel_rfl)) (dgs_cons (xg c.toCw 5 (by kernel_rfl)) dgs_nil rfl) rfl) rfl) (dss_one (ds_if (xcmpT c.toCw (xv 5 (by kernel_rfl)) (de_tup (da_cons de_int (da_cons de_int (da_cons (de_neg de_int) da_nil rfl) rfl) rfl)) rfl) (dss_one (yraiseE c Z.err_BadSigns (by decide) (by kernel_rfl) (da_cons (xv 3 (by kernel_rfl)) da_nil rfl) rfl)) dss_nil)) dss_nil rfl))) dss_nil rfl)
  (dss_one (ds_ret (dm_lift (xv 2 (by kernel_rfl))))))))
theorem b_format_signs {w : World} {K : Frag} {mg : Str → Option Value} (Z : Fz w K mg) (d_as_names : ∀ base, DefOk P w K mg base 2 "as_names" 2 fn_as_names) (d_as_signs : ∀ base, DefOk P w K mg base 2 "as_signs" 1 fn_as_signs) : BodyOk P w K mg N_format_signs "format_signs" (defBody (top 24)) (defScope (top 24)) 2 sm_format_signs := fun base f cdv A outer s F0 H E c =>
  (dss_cons (xset c.toCw 1 (by kernel_rfl) (dm_lift (xcall c.toCw (d_as_signs base) (by decide) (by kernel_rfl) (da_cons (xv 1 (by kernel_rfl)) da_nil rfl) rfl)) rfl)
  (dss_cons (xset c.toCw 0 (by kernel_rfl) (dm_lift (xcall c.toCw (d_as_names base) (by decide) (by kernel_rfl) (da_cons (xbi .len c.toCw rfl Z.n_len (by kernel_rfl) (da_cons (xv 1 (by kernel_rfl)) da_nil rfl) rfl) (da_cons (xv 0 (by kernel_rfl)) da_nil rfl) rfl) rfl)) rfl)
  (dss_cons (xset c.toCw 2 (by kernel_rfl) (dm_lst (dn_cons (dm_lift (de_joined (PFs.cons (de_fmt (xc Z.co_HEAD (by kernel_rfl))) (PFs.cons de_str (PFs.cons (de_fmt (xbi .len c.toCw rfl Z.n_len (by kernel_rfl) (da_cons (xv 1 (by kernel_rfl)) da_nil rfl) rfl)) PFs.nil))))) dn_nil rfl)) rfl)
  (dss_cons (yfor c (wzip rfl Z.n_zip (by kernel_rfl) (da_cons (xv 0 (by kernel_rfl)) (da_cons (xv 1 (by kernel_rfl)) da_nil rfl) rfl) rfl rfl) (dg_tup c.toCw.calm (dgs_cons (xg c.toCw 3 (by kernel_rfl)) (dgs_cons (xg c.toCw 4 (by kernel_rfl)) dgs_nil rfl) rfl) rfl) (dss_one (ds_expr (dm_mu .append rfl (xv 2 (by kernel_rfl)) (dn_cons (dm_lift (de_strM .join rfl (by decide) de_str (de_lst (da_cons (xv 3 (by kernel_rfl)) (da_star (xcomp (sl := ([5] ++ ([6] ++ []))) [("heard", 5), ("sign", 6)] c.toCw (di_data (xv 4 (by kernel_rfl))) (by kernel_rfl) (by kernel_rfl) (fun s H C cl fp xe V c4 => (dg_tup c4.calm (dgs_cons (xg c4 5 (by kernel_rfl)) (dgs_cons (xg c4 6 (by kernel_rfl)) dgs_nil rfl) rfl) rfl)) (fun s H C cl fp xe V c4 => dts_nil) (fun s H C cl fp xe V c4 => (de_bin (xdget Z.dic_MARKS (by kernel_rfl) (xv 6 (by kernel_rfl)) rfl) (de_ix (xv 0 (by kernel_rfl)) (xv 5 (by kernel_rfl)) rfl))) rfl) da_nil) rfl)) rfl rfl (by kernel_rfl))) dn_nil rfl) rfl rfl (by kernel_rfl) (by kernel_rfl)) rfl)) dss_nil rfl)
  (dss_one (ds_ret (dm_lift (de_strM .join rfl (by decide) de_str (xv 2 (by kernel_rfl)) rfl rfl (by kernel_rfl)))))))))
theorem b_count_of {w : World} {K : Frag} {mg : Str → Option Value} (Z : Fz w K mg) : BodyOk P w K mg N_count_of "count_of" (defBody (top 25)) (defScope (top 25)) 0 sm_count_of := fun base f cdv A outer s F0 H E c =>
  (dss_cons (ds_if (xcmpT c.toCw (de_ix (xv 0 (by kernel_rfl)) de_int rfl) (xc Z.co_HEAD (by kernel_rfl)) rfl) (dss_one (yraiseE c Z.err_BadText (by decide) (by kernel_rfl) (da_cons de_int (da_cons de_int da_nil rfl) rfl) rfl)) dss_nil)
  (dss_cons (ds_if ((dw_or (xcmpT c.toCw (xbi .len c.toCw rfl Z.n_len (by kernel_rfl) (da_cons (xv 0 (by kernel_rfl)) da_nil rfl) rfl) de_int rfl) (dw_or1 (xcmpT c.toCw (de_ix (xv 0 (by kernel_rfl)) de_int rfl) (xcomp (sl := [1]) [("size", 1)] c.toCw (wrng2 rfl Z.n_range (by kernel_rfl) (da_cons de_int (da_cons (de_bin (xc Z.co_MOST_HOUSES (by kernel_rfl)) de_int) da_nil rfl) rfl) rfl rfl) (by kernel_rfl) (by kernel_rfl) (fun s H C cl fp xe V c5 => (xg c5 1 (by kernel_rfl))) (fun s H C cl fp xe V c5 => dts_nil) (fun s H C cl fp xe V c5 => (xbi .str c5 rfl Z.n_str (by kernel_rfl) (da_cons (xv 1 (by kernel_rfl)) da_nil rfl) rfl)) rfl) rfl)))).pt (dss_one (yraiseE c Z.err_BadText (by decide) (by kernel_rfl) (da_cons de_int (da_cons de_int da_nil rfl) rfl) rfl)) dss_nil)
  (dss_cons (ds_if (xcmpT c.toCw (xbi .len c.toCw rfl Z.n_len (by kernel_rfl) (da_cons (xv 0 (by kernel_rfl)) da_nil rfl) rfl) de_int rfl) (dss_one (yraiseE c Z.err_BadText (by decide) (by kernel_rfl) (da_cons de_int (da_cons de_int da_nil rfl) rfl) rfl)) dss_nil)
  (dss_one (ds_ret (dm_lift (xbi .int c.toCw rfl Z.n_int (by kernel_rfl) (da_cons (de_ix (xv 0 (by kernel_rfl)) de_int rfl) da_nil rfl) rfl)))))))
theorem b_read_signed {w : World} {K : Frag} {mg : Str → Option Value} (Z : Fz w K mg) : BodyOk P w K mg N_read_signed "read_signed" (defBody (top 26)) (defScope (top 26)) 0 sm_read_signed := fun base f cdv A outer s F0 H E c =>
  (dss_cons (xset c.toCw 3 (by kernel_rfl) (dm_lst dn_nil) rfl)
  (dss_cons (xset c.toCw 4 (by kernel_rfl) (dm_lift (de_neg de_int)) rfl)
  (dss_cons (yfor c (wrng2 rfl Z.n_range (by kernel_rfl) (da_cons de_int (da_cons (xbi .len c.toCw rfl Z.n_len (by kernel_rfl) (da_cons (xv 1 (by kernel_rfl)) da_nil rfl) rfl) da_nil rfl) rfl) rfl rfl) (xg c.toCw 5 (by kernel_rfl)) (dss_cons (xset c.toCw 6 (by kernel_rfl) (dm_lift (de_slice (de_ix (xv 1 (by kernel_rfl)) (xv 5 (by kernel_rfl)) rfl) dp_none (dp_some de_int))) rfl)
  (dss_cons (xset c.toCw 7 (by kernel_rfl) (dm_lift (de_slice (de_ix (xv 1 (by kernel_rfl)) (xv 5 (by kernel_rfl)) rfl) (dp_some de_int) dp_none)) rfl)
  (dss_cons (ds_if ((dw_or (xdninT Z.dic_SIGNS (by kernel_rfl) (xv 6 (by kernel_rfl))) (dw_or (xcmpT c.toCw (xv 7 (by kernel_rfl)) (xv 0 (by kernel_rfl)) rfl) (dw_or (xcmpT c.toCw (xbi .len c.toCw rfl Z.n_len (by kernel_rfl) (da_cons (xv 3 (by kernel_rfl)) da_nil rfl) rfl) (xc Z.co_MOST_HEARD (by kernel_rfl)) rfl) (dw_or1 (xcmpT c.toCw (de_index (xv 0 (by kernel_rfl)) (xv 7 (by kernel_rfl)) rfl rfl (by kernel_rfl)) (xv 4 (by kernel_rfl)) rfl)))))).pt (dss_one (yraiseE c Z.err_BadText (by decide) (by kernel_rfl) (da_cons (xv 2 (by kernel_rfl)) (da_cons (xv 5 (by kernel_rfl)) da_nil rfl) rfl) rfl)) dss_nil)
  (dss_cons (xset c.toCw 4 (by kernel_rfl) (dm_lift (de_index (xv 0 (by kernel_rfl)) (xv 7 (by kernel_rfl)) rfl rfl (by kernel_rfl))) rfl)
  (dss_one (ds_expr (dm_mu .append rfl (xv 3 (by kernel_rfl)) (dn_cons (dm_lift (de_tup (da_cons (xv 4 (by kernel_rfl)) (da_cons (xdget Z.dic_SIGNS (by kernel_rfl) (xv 6 (by kernel_rfl)) rfl) da_nil rfl) rfl))) dn_nil rfl) rfl rfl (by kernel_rfl) (by kernel_rfl)) rfl)))))) dss_nil rfl)
  (dss_one (ds_ret (dm_lift (xbi .tuple c.toCw rfl Z.n_tuple (by kernel_rfl) (da_cons (xv 3 (by kernel_rfl)) da_nil rfl) rfl)))))))
theorem b_read_signs {w : World} {K : Frag} {mg : Str → Option Value} (Z : Fz w K mg) (d_read_names : ∀ base, DefOk P w K mg base 2 "read_names" 1 fn_read_names) (d_count_of : ∀ base, DefOk P w K mg base 1 "count_of" 1 fn_count_of) (d_read_signed : ∀ base, DefOk P w K mg base 1 "read_signed" 3 fn_read_signed) : BodyOk P w K mg N_read_signs "read_signs" (defBody (top 27)) (defScope (top 27)) 2 sm_read_signs := fun base f cdv A outer s F0 H E c =>
  (dss_cons (ysetc (sl := [5]) (F0 := F0) (H0 := H) 1 [("line", 5)] c (by kernel_rfl) (by kernel_rfl) (di_data (de_strM .split rfl (by decide) (xv 0 (by kernel_rfl)) de_str rfl rfl (by kernel_rfl))) (by kernel_rfl) (by kernel_rfl) (fun s H C cl fp xe V c6 => (xg c6 5 (by kernel_rfl))) (fun s H C cl fp xe V c6 => dts_nil) (fun s H C cl fp xe V c6 => (de_strM .split rfl (by decide) (xv 5 (by kernel_rfl)) de_str rfl rfl (by kernel_rfl))) rfl).1
  (dss_cons (xset c.toCw 2 (by kernel_rfl) (dm_lift (xcall c.toCw (d_count_of base) (by decide) (by kernel_rfl) (da_cons (de_ix (xv 1 (by kernel_rfl)) de_int rfl) da_nil rfl) rfl)) rfl)
  (dss_cons (ds_if (xcmpT c.toCw (xbi .len c.toCw rfl Z.n_len (by kernel_rfl) (da_cons (xv 1 (by kernel_rfl)) da_nil rfl) rfl) (de_bin (xv 2 (by kernel_rfl)) de_int) rfl) (dss_one (yraiseE c Z.err_BadText (by decide) (by kernel_rfl) (da_cons (de_bin (xbi .len c.toCw rfl Z.n_len (by kernel_rfl) (da_cons (xv 1 (by kernel_rfl)) da_nil rfl) rfl) de_int) (da_cons de_int da_nil rfl) rfl) rfl)) dss_nil)
  (dss_cons (ds_if (xcmpT c.toCw (xbi .len c.toCw rfl Z.n_len (by kernel_rfl) (da_cons (xv 1 (by kernel_rfl)) da_nil rfl) rfl) (de_bin (xv 2 (by kernel_rfl)) de_int) rfl) (dss_one (yraiseE c Z.err_BadText (by decide) (by kernel_rfl) (da_cons (de_bin (xv 2 (by kernel_rfl)) de_int) (da_cons de_int da_nil rfl) rfl) rfl)) dss_nil)
  (dss_cons (xset c.toCw 3 (by kernel_rfl) (dm_lift (xcall c.toCw (d_read_names base) (by decide) (by kernel_rfl) (da_cons (de_slice (xv 1 (by kernel_rfl)) (dp_some de_int) dp_none) da_nil rfl) rfl)) rfl)
  (dss_cons (ysetc (sl := ([6] ++ ([7] ++ []))) (F0 := F0) (H0 := H) 4 [("place", 6), ("words", 7)] c (by kernel_rfl) (by kernel_rfl) (wenum rfl Z.n_enumerate (by kernel_rfl) (da_cons (de_slice (xv 1 (by kernel_rfl)) (dp_some de_int) dp_none) da_nil rfl) rfl) (by kernel_rfl) (by kernel_rfl) (fun s H C cl fp xe V c7 => (dg_tup c7.calm (dgs_cons (xg c7 6 (by kernel_rfl)) (dgs_cons (xg c7 7 (by kernel_rfl)) dgs_nil rfl) rfl) rfl)) (fun s H C cl fp xe V c7 => dts_nil) (fun s H C cl fp xe V c7 => (xcall c7 (d_read_signed base) (by decide) (by kernel_rfl) (da_cons (xv 3 (by kernel_rfl)) (da_cons (xv 7 (by kernel_rfl)) (da_cons (de_bin (xv 6 (by kernel_rfl)) de_int) da_nil rfl) rfl) rfl) rfl)) rfl).1
  (dss_one (ds_ret (dm_lift (de_tup (da_cons (xbi .tuple c.toCw rfl Z.n_tuple (by kernel_rfl) (da_cons (xv 3 (by kernel_rfl)) da_nil rfl) rfl) (da_cons (xbi .tuple c.toCw rfl Z.n_tuple (by kernel_rfl) (da_cons (xv 4 (by kernel_rfl)) da_nil rfl) rfl) da_nil rfl) rfl)))))))))))
theorem b__law_cell {w : World} {K : Frag} {mg : Str → Option Value} (Z : Fz w K mg) : BodyOk P w K mg N__law_cell "_law_cell" (defBody (top 29)) (defScope (top 29)) 0 sm__law_cell := fun base f cdv A outer s F0 H E c =>
  (dss_cons (ds_if (xcmpT c.toCw (xv 1 (by kernel_rfl)) (xbi .len c.toCw rfl Z.n_len (by kernel_rfl) (da_cons (xv 0 (by kernel_rfl)) da_nil rfl) rfl) rfl) (dss_one (ds_ret (dm_lift (xbi .int c.toCw rfl Z.n_int (by kernel_rfl) (da_cons (de_ix (xv 0 (by kernel_rfl)) (xv 1 (by kernel_rfl)) rfl) da_nil rfl) rfl)))) dss_nil)
  (dss_one (ds_ret (dm_lift de_int))))
theorem b__law_draws {w : World} {K : Frag} {mg : Str → Option Value} (Z : Fz w K mg) : BodyOk P w K mg N__law_draws "_law_draws" (defBody (top 30)) (defScope (top 30)) 0 sm__law_draws := fun base f cdv A outer s F0 H E c =>
  (dss_cons (xset c.toCw 2 (by kernel_rfl) (dm_lift (xbi .abs c.toCw rfl Z.n_abs (by kernel_rfl) (da_cons (xv 0 (by kernel_rfl)) da_nil rfl) rfl)) rfl)
  (dss_cons (xset c.toCw 3 (by kernel_rfl) (dm_lst dn_nil) rfl)
  (dss_cons (yfor c (wrng1 rfl Z.n_range (by kernel_rfl) (da_cons (xbi .len c.toCw rfl Z.n_len (by kernel_rfl) (da_cons (xv 1 (by kernel_rfl)) da_nil rfl) rfl) da_nil rfl) rfl) (xg c.toCw 4 (by kernel_rfl)) (dss_one (ds_if (xcmpT c.toCw (xbi .abs c.toCw rfl Z.n_abs (by kernel_rfl) (da_cons (xv 0 (by kernel_rfl)) da_nil rfl) rfl) (de_bin de_int de_int) rfl) (dss_cons (ds_expr (dm_mu .append rfl (xv 3 (by kernel_rfl)) (dn_cons (dm_lift (de_bin (xbi .int c.toCw rfl Z.n_int (by kernel_rfl) (da_cons (xv 2 (by kernel_rfl)) da_nil rfl) rfl) (de_ix (xv 1 (by kernel_rfl)) (xv 4 (by kernel_rfl)) rfl))) dn_nil rfl) rfl rfl (by kernel_rfl) (by kernel_rfl)) rfl)
  (dss_one (xset c.toCw 2 (by kernel_rfl) (dm_lift (de_bin (xv 2 (by kernel_rfl)) (de_ix (xv 1 (by kernel_rfl)) (xv 4 (by kernel_rfl)) rfl))) rfl))) (dss_cons (xset c.toCw 5 (by kernel_rfl) (dm_lift (de_bin (xbi .int c.toCw rfl Z.n_int (by kernel_rfl) (da_cons (de_bin (de_bin (de_bin (de_bin (xbi .int c.toCw rfl Z.n_int (by kernel_rfl) (da_cons (xbi .abs c.toCw rfl Z.n_abs (by kernel_rfl) (da_cons (xv 0 (by kernel_rfl)) da_nil rfl) rfl) da_nil rfl) rfl) de_int) de_int) (de_bin (de_bin de_int (xv 4 (by kernel_rfl))) de_int)) de_int) da_nil rfl) rfl) de_int)) rfl)
  (dss_cons (xset c.toCw 5 (by kernel_rfl) (dm_lift (de_bin (xbi .int c.toCw rfl Z.n_int (by kernel_rfl) (da_cons (de_bin (de_bin (xv 5 (by kernel_rfl)) (xv 4 (by kernel_rfl))) (de_bin (xv 5 (by kernel_rfl)) de_int)) da_nil rfl) rfl) de_int)) rfl)
  (dss_one (ds_expr (dm_mu .append rfl (xv 3 (by kernel_rfl)) (dn_cons (dm_lift (de_bin (xbi .int c.toCw rfl Z.n_int (by kernel_rfl) (da_cons (de_bin (xv 5 (by kernel_rfl)) de_int) da_nil rfl) rfl) (de_ix (xv 1 (by kernel_rfl)) (xv 4 (by kernel_rfl)) rfl))) dn_nil rfl) rfl rfl (by kernel_rfl) (by kernel_rfl)) rfl)))))) dss_nil rfl)
  (dss_one (ds_ret (dm_lift (xv 3 (by kernel_rfl))))))))
theorem b__law_heard {w : World} {K : Frag} {mg : Str → Option Value} (Z : Fz w K mg) : BodyOk P w K mg N__law_heard "_law_heard" (defBody (top 31)) (defScope (top 31)) 0 sm__law_heard := fun base f cdv A outer s F0 H E c =>
  (dss_cons (ysetc (sl := [6]) 3 [("other", 6)] c (by kernel_rfl) (by kernel_rfl) (wrng1 rfl Z.n_range (by kernel_rfl) (da_cons (xv 1 (by kernel_rfl)) da_nil rfl) rfl) (by kernel_rfl) (by kernel_rfl) (fun s H C cl fp xe V c8 => (xg c8 6 (by kernel_rfl))) (fun s H C cl fp xe V c8 => dts_nil) (fun s H C cl fp xe V c8 => (xv 6 (by kernel_rfl))) rfl).2
  (dss_cons (xset c.toCw 4 (by kernel_rfl) (dm_lst dn_nil) rfl)
  (dss_cons (yfor c (wrng1 rfl Z.n_range (by kernel_rfl) (da_cons (xbi .min c.toCw rfl Z.n_min (by kernel_rfl) (da_cons (de_ix (xv 0 (by kernel_rfl)) de_int rfl) (da_cons (xv 1 (by kernel_rfl)) da_nil rfl) rfl) rfl) da_nil rfl) rfl) (xg c.toCw 5 (by kernel_rfl)) (dss_one (ds_expr (dm_mu .append rfl (xv 4 (by kernel_rfl)) (dn_cons (dm_mu .popAt rfl (xv 3 (by kernel_rfl)) (dn_cons (dm_lift (de_bin (xbi .int c.toCw rfl Z.n_int (by kernel_rfl) (da_cons (de_ix (xv 0 (by kernel_rfl)) (de_bin (xv 5 (by kernel_rfl)) de_int) rfl) da_nil rfl) rfl) (xbi .len c.toCw rfl Z.n_len (by kernel_rfl) (da_cons (xv 3 (by kernel_rfl)) da_nil rfl) rfl))) dn_nil rfl) rfl rfl (by kernel_rfl) (by kernel_rfl)) dn_nil rfl) rfl rfl (by kernel_rfl) (by kernel_rfl)) rfl)) dss_nil rfl)
  (dss_cons (ds_if ((dw_and (xcmpT c.toCw (de_ix (xv 0 (by kernel_rfl)) de_int rfl) de_int rfl) (dw_and (dt_tru (xv 4 (by kernel_rfl)) rfl) (dw_and1 (xcmpT c.toCw (xv 2 (by kernel_rfl)) (xv 4 (by kernel_rfl)) rfl))))).pt (dss_one (ds_put (xv 4 (by kernel_rfl)) de_int (dm_lift (xv 2 (by kernel_rfl))) rfl rfl)) dss_nil)
  (dss_one (ds_ret (dm_lift (xbi .tuple c.toCw rfl Z.n_tuple (by kernel_rfl) (da_cons (xbi .sorted c.toCw rfl Z.n_sorted (by kernel_rfl) (da_cons (xv 4 (by kernel_rfl)) da_nil rfl) rfl) da_nil rfl) rfl))))))))
theorem b__law_same {w : World} {K : Frag} {mg : Str → Option Value} (Z : Fz w K mg) {base : Heap} (n : Nat) (fn : Fn) (hd : DefOk P w K mg base n "_law_same" 2 fn) (hk : 0 ≤ n) (f : Addr) (cdv : Value) (A : Around) (outer : List Env) (s : Shared) (F0 H : Hp) (E : XK) (c : Sw (bodyCx P w K mg base N__law_same "_law_same" (defScope (top 32)) f cdv A outer s H E) (fun cls d _ H => E cls d H) n) :
    PSs (bodyCx P w K mg base N__law_same "_law_same" (defScope (top 32)) f cdv A outer s H E) (defBody (top 32)) (tS K mg F0 H (fun cls d _ H => E cls d H) (sm__law_same fn)) :=
  (dss_cons (ds_if (xcmpT c.toCw (xv 1 (by kernel_rfl)) de_non rfl) (dss_one (ds_ret (dm_lift (xcmp c.toCw (xv 0 (by kernel_rfl)) de_non rfl)))) dss_nil)
  (dss_cons (ds_if ((dw_or (dt_tru (xisi .bool rfl rfl Z.n_isinstance Z.n_bool (by kernel_rfl) (by kernel_rfl) (xv 1 (by kernel_rfl)) rfl) rfl) (dw_or1 (dt_tru (xisi .bool rfl rfl Z.n_isinstance Z.n_bool (by kernel_rfl) (by kernel_rfl) (xv 0 (by kernel_rfl)) rfl) rfl)))).pt (dss_one (ds_ret (dm_lift (de_and (xisi .bool rfl rfl Z.n_isinstance Z.n_bool (by kernel_rfl) (by kernel_rfl) (xv 1 (by kernel_rfl)) rfl) (de_and (xisi .bool rfl rfl Z.n_isinstance Z.n_bool (by kernel_rfl) (by kernel_rfl) (xv 0 (by kernel_rfl)) rfl) (de_one (xcmp c.toCw (xv 0 (by kernel_rfl)) (xv 1 (by kernel_rfl)) rfl))))))) dss_nil)
  (dss_cons (ds_if (dt_tru (xisi .tuple rfl rfl Z.n_isinstance Z.n_tuple (by kernel_rfl) (by kernel_rfl) (xv 1 (by kernel_rfl)) rfl) rfl) (dss_cons (ds_if ((dw_or (dt_not (dt_tru (xisi .tuple rfl rfl Z.n_isinstance Z.n_tuple (by kernel_rfl) (by kernel_rfl) (xv 0 (by kernel_rfl)) rfl) rfl)) (dw_or1 (xcmpT c.toCw (xbi .len c.toCw rfl Z.n_len (by kernel_rfl) (da_cons (xv 0 (by kernel_rfl)) da_nil rfl) rfl) (xbi .len c.toCw rfl Z.n_len (by kernel_rfl) (da_cons (xv 1 (by kernel_rfl)) da_nil rfl) rfl) rfl)))).pt (dss_one (ds_ret (dm_lift de_bl))) dss_nil)
  (dss_one (ds_ret (dm_lift (de_not (xcomp (sl := [2]) [("k", 2)] c.toCw (wrng1 rfl Z.n_range (by kernel_rfl) (da_cons (xbi .len c.toCw rfl Z.n_len (by kernel_rfl) (da_cons (xv 1 (by kernel_rfl)) da_nil rfl) rfl) da_nil rfl) rfl) (by kernel_rfl) (by kernel_rfl) (fun s H C cl fp xe V c9 => (xg c9 2 (by kernel_rfl))) (fun s H C cl fp xe V c9 => (dts_one (dt_not (dt_tru (xcall c9 hd (Nat.le_refl _) (by kernel_rfl) (da_cons (de_ix (xv 0 (by kernel_rfl)) (xv 2 (by kernel_rfl)) rfl) (da_cons (de_ix (xv 1 (by kernel_rfl)) (xv 2 (by kernel_rfl)) rfl) da_nil rfl) rfl) rfl) rfl)))) (fun s H C cl fp xe V c9 => (xv 2 (by kernel_rfl))) rfl)))))) dss_nil)
  (dss_cons (ds_if (dt_tru (xisi .int rfl rfl Z.n_isinstance Z.n_int (by kernel_rfl) (by kernel_rfl) (xv 1 (by kernel_rfl)) rfl) rfl) (dss_one (ds_ret (dm_lift (de_and (xisi .int rfl rfl Z.n_isinstance Z.n_int (by kernel_rfl) (by kernel_rfl) (xv 0 (by kernel_rfl)) rfl) (de_one (xcmp c.toCw (xv 0 (by kernel_rfl)) (xv 1 (by kernel_rfl)) rfl)))))) dss_nil)
  (dss_one (ds_ret (dm_lift (de_and (xisi .str rfl rfl Z.n_isinstance Z.n_str (by kernel_rfl) (by kernel_rfl) (xv 0 (by kernel_rfl)) rfl) (de_and (xisi .str rfl rfl Z.n_isinstance Z.n_str (by kernel_rfl) (by kernel_rfl) (xv 1 (by kernel_rfl)) rfl) (de_one (xcmp c.toCw (xv 0 (by kernel_rfl)) (xv 1 (by kernel_rfl)) rfl)))))))))))
theorem b__law_hearings {w : World} {K : Frag} {mg : Str → Option Value} (Z : Fz w K mg) (d__law_draws : ∀ base, DefOk P w K mg base 1 "_law_draws" 2 fn__law_draws) (d__law_heard : ∀ base, DefOk P w K mg base 1 "_law_heard" 3 fn__law_heard) : BodyOk P w K mg N__law_hearings "_law_hearings" (defBody (top 33)) (defScope (top 33)) 1 sm__law_hearings := fun base f cdv A outer s F0 H E c =>
  (dss_cons (xset c.toCw 3 (by kernel_rfl) (dm_lift (xcall c.toCw (d__law_draws base) (by decide) (by kernel_rfl) (da_cons (xv 0 (by kernel_rfl)) (da_cons (de_lst (da_cons (de_bin (xv 2 (by kernel_rfl)) de_int) (da_cons de_int (da_cons de_int (da_cons de_int (da_cons de_int (da_cons de_int (da_cons de_int (da_cons de_int (da_cons de_int da_nil rfl) rfl) rfl) rfl) rfl) rfl) rfl) rfl) rfl)) da_nil rfl) rfl) rfl)) rfl)
  (dss_cons (xset c.toCw 4 (by kernel_rfl) (dm_lift (xcall c.toCw (d__law_heard base) (by decide) (by kernel_rfl) (da_cons (de_bin (de_slice (xv 3 (by kernel_rfl)) dp_none (dp_some de_int)) (de_lst (da_cons de_int da_nil rfl))) (da_cons (xv 1 (by kernel_rfl)) (da_cons de_int da_nil rfl) rfl) rfl) rfl)) rfl)
  (dss_one (ds_ret (dm_lift (xbi .tuple c.toCw rfl Z.n_tuple (by kernel_rfl) (da_cons (xcomp (sl := [5]) [("k", 5)] c.toCw (wrng1 rfl Z.n_range (by kernel_rfl) (da_cons (xbi .len c.toCw rfl Z.n_len (by kernel_rfl) (da_cons (xv 4 (by kernel_rfl)) da_nil rfl) rfl) da_nil rfl) rfl) (by kernel_rfl) (by kernel_rfl) (fun s H C cl fp xe V c10 => (xg c10 5 (by kernel_rfl))) (fun s H C cl fp xe V c10 => dts_nil) (fun s H C cl fp xe V c10 => (de_tup (da_cons (de_ix (xv 4 (by kernel_rfl)) (xv 5 (by kernel_rfl)) rfl) (da_cons (de_bin (de_ix (xv 3 (by kernel_rfl)) (de_bin de_int (xv 5 (by kernel_rfl))) rfl) de_int) da_nil rfl) rfl))) rfl) da_nil rfl) rfl))))))
theorem b__law_names {w : World} {K : Frag} {mg : Str → Option Value} (Z : Fz w K mg) (d__law_draws : ∀ base, DefOk P w K mg base 1 "_law_draws" 2 fn__law_draws) : BodyOk P w K mg N__law_names "_law_names" (defBody (top 34)) (defScope (top 34)) 1 sm__law_names := fun base f cdv A outer s F0 H E c =>
  (dss_cons (xset c.toCw 2 (by kernel_rfl) (dm_lift (xcall c.toCw (d__law_draws base) (by decide) (by kernel_rfl) (da_cons (xv 0 (by kernel_rfl)) (da_cons (de_bin (de_lst (da_cons de_int (da_cons de_int da_nil rfl) rfl)) (xv 1 (by kernel_rfl))) da_nil rfl) rfl) rfl)) rfl)
  (dss_cons (xset c.toCw 3 (by kernel_rfl) (dm_lift de_str) rfl)
  (dss_cons (xset c.toCw 4 (by kernel_rfl) (dm_lst dn_nil) rfl)
  (dss_cons (yfor c (wrng1 rfl Z.n_range (by kernel_rfl) (da_cons (xv 1 (by kernel_rfl)) da_nil rfl) rfl) (xg c.toCw 5 (by kernel_rfl)) (dss_cons (xset c.toCw 6 (by kernel_rfl) (dm_lift (de_bin (de_ix (xv 3 (by kernel_rfl)) (de_ix (xv 2 (by kernel_rfl)) (de_bin de_int (xv 5 (by kernel_rfl))) rfl) rfl) (de_bin de_int (de_ix (xv 2 (by kernel_rfl)) (de_bin (de_bin de_int (xv 5 (by kernel_rfl))) de_int) rfl)))) rfl)
  (dss_cons (yfor c (wrng1 rfl Z.n_range (by kernel_rfl) (da_cons de_int da_nil rfl) rfl) (xg c.toCw 7 (by kernel_rfl)) (dss_cons (ds_if (xcmpT c.toCw (xv 6 (by kernel_rfl)) (xv 4 (by kernel_rfl)) rfl) (dss_one ds_break) dss_nil)
  (dss_one (xset c.toCw 6 (by kernel_rfl) (dm_lift (de_bin (de_ix (xv 3 (by kernel_rfl)) (de_bin (xbi .int c.toCw rfl Z.n_int (by kernel_rfl) (da_cons (de_bin (de_bin (de_ix (xv 2 (by kernel_rfl)) (de_bin de_int (xv 5 (by kernel_rfl))) rfl) (xv 7 (by kernel_rfl))) de_int) da_nil rfl) rfl) de_int) rfl) (de_slice (xv 6 (by kernel_rfl)) (dp_some de_int) dp_none))) rfl))) dss_nil rfl)
  (dss_one (ds_expr (dm_mu .append rfl (xv 4 (by kernel_rfl)) (dn_cons (dm_lift (xv 6 (by kernel_rfl))) dn_nil rfl) rfl rfl (by kernel_rfl) (by kernel_rfl)) rfl)))) dss_nil rfl)
  (dss_one (ds_ret (dm_lift (xbi .tuple c.toCw rfl Z.n_tuple (by kernel_rfl) (da_cons (xv 4 (by kernel_rfl)) da_nil rfl) rfl))))))))
theorem b__law_listed_signs {w : World} {K : Frag} {mg : Str → Option Value} (Z : Fz w K mg) : BodyOk P w K mg N__law_listed_signs "_law_listed_signs" (defBody (top 35)) (defScope (top 35)) 0 sm__law_listed_signs := fun base f cdv A outer s F0 H E c =>
  (dss_one (ds_ret (mcomp (sl := [1]) [("row", 1)] c.toCw (di_data (xv 0 (by kernel_rfl))) (by kernel_rfl) (by kernel_rfl) (fun s H C cl fp xe V c11 => (xg c11 1 (by kernel_rfl))) (fun s H C cl fp xe V c11 => dts_nil) (fun s H C cl fp xe V c11 => (xcomp (sl := [2]) [("hearing", 2)] c11 (di_data (xv 1 (by kernel_rfl))) (by kernel_rfl) (by kernel_rfl) (fun s H C cl fp xe V c12 => (xg c12 2 (by kernel_rfl))) (fun s H C cl fp xe V c12 => dts_nil) (fun s H C cl fp xe V c12 => (xbi .list c12 rfl Z.n_list (by kernel_rfl) (da_cons (xv 2 (by kernel_rfl)) da_nil rfl) rfl)) rfl)) rfl)))
theorem b__law_wide_signs {w : World} {K : Frag} {mg : Str → Option Value} (Z : Fz w K mg) (d__law_cell : ∀ base, DefOk P w K mg base 1 "_law_cell" 2 fn__law_cell) (d__law_hearings : ∀ base, DefOk P w K mg base 2 "_law_hearings" 3 fn__law_hearings) : BodyOk P w K mg N__law_wide_signs "_law_wide_signs" (defBody (top 36)) (defScope (top 36)) 2 sm__law_wide_signs := fun base f cdv A outer s F0 H E c =>
  (dss_cons (ysetc (sl := [5]) (F0 := F0) (H0 := H) 4 [("house", 5)] c (by kernel_rfl) (by kernel_rfl) (wrng1 rfl Z.n_range (by kernel_rfl) (da_cons (xv 2 (by kernel_rfl)) da_nil rfl) rfl) (by kernel_rfl) (by kernel_rfl) (fun s H C cl fp xe V c13 => (xg c13 5 (by kernel_rfl))) (fun s H C cl fp xe V c13 => dts_nil) (fun s H C cl fp xe V c13 => (de_bin (xcall c13 (d__law_cell base) (by decide) (by kernel_rfl) (da_cons (xv 0 (by kernel_rfl)) (da_cons (de_bin (xv 1 (by kernel_rfl)) (xv 5 (by kernel_rfl))) da_nil rfl) rfl) rfl) (de_bin de_int (xv 5 (by kernel_rfl))))) rfl).1
  (dss_one (ds_ret (dm_lift (xbi .tuple c.toCw rfl Z.n_tuple (by kernel_rfl) (da_cons (xcomp (sl := [6]) [("cell", 6)] c.toCw (di_data (xv 4 (by kernel_rfl))) (by kernel_rfl) (by kernel_rfl) (fun s H C cl fp xe V c14 => (xg c14 6 (by kernel_rfl))) (fun s H C cl fp xe V c14 => dts_nil) (fun s H C cl fp xe V c14 => (xcall c14 (d__law_hearings base) (by decide) (by kernel_rfl) (da_cons (xv 6 (by kernel_rfl)) (da_cons (xv 2 (by kernel_rfl)) (da_cons (xv 3 (by kernel_rfl)) da_nil rfl) rfl) rfl) rfl)) rfl) da_nil rfl) rfl)))))
theorem b__law_told {w : World} {K : Frag} {mg : Str → Option Value} (Z : Fz w K mg) (d_read_signs : ∀ base, DefOk P w K mg base 3 "read_signs" 1 fn_read_signs) : BodyOk P w K mg N__law_told "_law_told" (defBody (top 37)) (defScope (top 37)) 3 sm__law_told := fun base f cdv A outer s F0 H E c =>
  (dss_one (ytry c (fun W pn xe c15 => (dss_one (ds_ret (dm_lift (de_tup (da_cons de_str (da_cons (xcall c15.toCw (d_read_signs base) (by decide) (by kernel_rfl) (da_cons (xv 0 (by kernel_rfl)) da_nil rfl) rfl) da_nil rfl) rfl)))))) (.cons Z.ex_BadText (by kernel_rfl) (by kernel_rfl) (by kernel_rfl) (.txt (.fld (.fld .nil))) .nil)))
theorem b__law_written {w : World} {K : Frag} {mg : Str → Option Value} (Z : Fz w K mg) (d_format_signs : ∀ base, DefOk P w K mg base 3 "format_signs" 2 fn_format_signs) : BodyOk P w K mg N__law_written "_law_written" (defBody (top 38)) (defScope (top 38)) 3 sm__law_written := fun base f cdv A outer s F0 H E c =>
  (dss_one (ytry c (fun W pn xe c16 => (dss_one (ds_ret (dm_lift (de_tup (da_cons de_str (da_cons (xcall c16.toCw (d_format_signs base) (by decide) (by kernel_rfl) (da_cons (xv 0 (by kernel_rfl)) (da_cons (xv 1 (by kernel_rfl)) da_nil rfl) rfl) rfl) da_nil rfl) rfl)))))) (.cons Z.ex_BadNames (by kernel_rfl) (by kernel_rfl) (by kernel_rfl) (.txt (.fld .nil)) (.cons Z.ex_BadSigns (by kernel_rfl) (by kernel_rfl) (by kernel_rfl) (.txt (.fld .nil)) .nil))))
theorem b__law_text {w : World} {K : Frag} {mg : Str → Option Value} (Z : Fz w K mg) : BodyOk P w K mg N__law_text "_law_text" (defBody (top 39)) (defScope (top 39)) 0 sm__law_text := fun base f cdv A outer s F0 H E c =>
  (dss_cons (xset c.toCw 2 (by kernel_rfl) (dm_lst (dn_cons (dm_lift (de_bin de_str (xbi .str c.toCw rfl Z.n_str (by kernel_rfl) (da_cons (xbi .len c.toCw rfl Z.n_len (by kernel_rfl) (da_cons (xv 1 (by kernel_rfl)) da_nil rfl) rfl) da_nil rfl) rfl))) dn_nil rfl)) rfl)
  (dss_cons (yfor c (wrng1 rfl Z.n_range (by kernel_rfl) (da_cons (xbi .len c.toCw rfl Z.n_len (by kernel_rfl) (da_cons (xv 1 (by kernel_rfl)) da_nil rfl) rfl) da_nil rfl) rfl) (xg c.toCw 3 (by kernel_rfl)) (dss_cons (xset c.toCw 4 (by kernel_rfl) (dm_lst (dn_cons (dm_lift (de_ix (xv 0 (by kernel_rfl)) (xv 3 (by kernel_rfl)) rfl)) dn_nil rfl)) rfl)
  (dss_cons (yfor c (di_data (de_ix (xv 1 (by kernel_rfl)) (xv 3 (by kernel_rfl)) rfl)) (dg_tup c.toCw.calm (dgs_cons (xg c.toCw 5 (by kernel_rfl)) (dgs_cons (xg c.toCw 6 (by kernel_rfl)) dgs_nil rfl) rfl) rfl) (dss_one (ds_expr (dm_mu .append rfl (xv 4 (by kernel_rfl)) (dn_cons (dm_lift (de_bin (de_ix (de_lst (da_cons de_str (da_cons de_str (da_cons de_str da_nil rfl) rfl) rfl)) (xv 6 (by kernel_rfl)) rfl) (de_ix (xv 0 (by kernel_rfl)) (xv 5 (by kernel_rfl)) rfl))) dn_nil rfl) rfl rfl (by kernel_rfl) (by kernel_rfl)) rfl)) dss_nil rfl)
  (dss_one (ds_expr (dm_mu .append rfl (xv 2 (by kernel_rfl)) (dn_cons (dm_lift (de_strM .join rfl (by decide) de_str (xv 4 (by kernel_rfl)) rfl rfl (by kernel_rfl))) dn_nil rfl) rfl rfl (by kernel_rfl) (by kernel_rfl)) rfl)))) dss_nil rfl)
  (dss_one (ds_ret (dm_lift (de_strM .join rfl (by decide) de_str (xv 2 (by kernel_rfl)) rfl rfl (by kernel_rfl)))))))
theorem b__law_is_name {w : World} {K : Frag} {mg : Str → Option Value} (Z : Fz w K mg) : BodyOk P w K mg N__law_is_name "_law_is_name" (defBody (top 40)) (defScope (top 40)) 0 sm__law_is_name := fun base f cdv A outer s F0 H E c =>
  (dss_cons (ds_if ((dw_or (xcmpT c.toCw (xbi .len c.toCw rfl Z.n_len (by kernel_rfl) (da_cons (xv 0 (by kernel_rfl)) da_nil rfl) rfl) de_int rfl) (dw_or1 (xcmpT c.toCw (xbi .len c.toCw rfl Z.n_len (by kernel_rfl) (da_cons (xv 0 (by kernel_rfl)) da_nil rfl) rfl) de_int rfl)))).pt (dss_one (ds_ret (dm_lift de_bl))) dss_nil)
  (dss_one (ds_ret (dm_lift (de_not (xcomp (sl := [1]) [("letter", 1)] c.toCw (di_data (xv 0 (by kernel_rfl))) (by kernel_rfl) (by kernel_rfl) (fun s H C cl fp xe V c17 => (xg c17 1 (by kernel_rfl))) (fun s H C cl fp xe V c17 => (dts_one (xcmpT c17 (xv 1 (by kernel_rfl)) de_str rfl))) (fun s H C cl fp xe V c17 => (xv 1 (by kernel_rfl))) rfl))))))
theorem b__law_size {w : World} {K : Frag} {mg : Str → Option Value} (Z : Fz w K mg) : BodyOk P w K mg N__law_size "_law_size" (defBody (top 41)) (defScope (top 41)) 0 sm__law_size := fun base f cdv A outer s F0 H E c =>
  (dss_cons (ds_if (xcmpT c.toCw (de_ix (xv 0 (by kernel_rfl)) de_int rfl) de_str rfl) (dss_one (ds_ret (dm_lift (de_tup (da_cons de_str (da_cons de_int da_nil rfl) rfl))))) dss_nil)
  (dss_cons (ds_if ((dw_or (xcmpT c.toCw (xbi .len c.toCw rfl Z.n_len (by kernel_rfl) (da_cons (xv 0 (by kernel_rfl)) da_nil rfl) rfl) de_int rfl) (dw_or1 (xcmpT c.toCw (de_ix (xv 0 (by kernel_rfl)) de_int rfl) (xcomp (sl := [1]) [("k", 1)] c.toCw (wrng2 rfl Z.n_range (by kernel_rfl) (da_cons de_int (da_cons de_int da_nil rfl) rfl) rfl rfl) (by kernel_rfl) (by kernel_rfl) (fun s H C cl fp xe V c18 => (xg c18 1 (by kernel_rfl))) (fun s H C cl fp xe V c18 => dts_nil) (fun s H C cl fp xe V c18 => (xbi .str c18 rfl Z.n_str (by kernel_rfl) (da_cons (xv 1 (by kernel_rfl)) da_nil rfl) rfl)) rfl) rfl)))).pt (dss_one (ds_ret (dm_lift (de_tup (da_cons de_str (da_cons de_int da_nil rfl) rfl))))) dss_nil)
  (dss_cons (ds_if (xcmpT c.toCw (xbi .len c.toCw rfl Z.n_len (by kernel_rfl) (da_cons (xv 0 (by kernel_rfl)) da_nil rfl) rfl) de_int rfl) (dss_one (ds_ret (dm_lift (de_tup (da_cons de_str (da_cons de_int da_nil rfl) rfl))))) dss_nil)
  (dss_one (ds_ret (dm_lift (de_tup (da_cons de_str (da_cons (de_bin (de_index (xcomp (sl := [1]) [("k", 1)] c.toCw (wrng2 rfl Z.n_range (by kernel_rfl) (da_cons de_int (da_cons de_int da_nil rfl) rfl) rfl rfl) (by kernel_rfl) (by kernel_rfl) (fun s H C cl fp xe V c19 => (xg c19 1 (by kernel_rfl))) (fun s H C cl fp xe V c19 => dts_nil) (fun s H C cl fp xe V c19 => (xbi .str c19 rfl Z.n_str (by kernel_rfl) (da_cons (xv 1 (by kernel_rfl)) da_nil rfl) rfl)) rfl) (de_ix (xv 0 (by kernel_rfl)) de_int rfl) rfl rfl (by kernel_rfl)) de_int) da_nil rfl) rfl))))))))
theorem b__law_row {w : World} {K : Frag} {mg : Str → Option Value} (Z : Fz w K mg) : BodyOk P w K mg N__law_row "_law_row" (defBody (top 42)) (defScope (top 42)) 0 sm__law_row := fun base f cdv A outer s F0 H E c =>
  (dss_cons (xset c.toCw 2 (by kernel_rfl) (dm_lst dn_nil) rfl)
  (dss_cons (yfor c (wrng2 rfl Z.n_range (by kernel_rfl) (da_cons de_int (da_cons (xbi .len c.toCw rfl Z.n_len (by kernel_rfl) (da_cons (xv 1 (by kernel_rfl)) da_nil rfl) rfl) da_nil rfl) rfl) rfl rfl) (xg c.toCw 3 (by kernel_rfl)) (dss_cons (ds_if ((dw_or (xcmpT c.toCw (de_slice (de_ix (xv 1 (by kernel_rfl)) (xv 3 (by kernel_rfl)) rfl) dp_none (dp_some de_int)) (de_tup (da_cons de_str (da_cons de_str (da_cons de_str da_nil rfl) rfl) rfl)) rfl) (dw_or (xcmpT c.toCw (de_slice (de_ix (xv 1 (by kernel_rfl)) (xv 3 (by kernel_rfl)) rfl) (dp_some de_int) dp_none) (xv 0 (by kernel_rfl)) rfl) (dw_or1 (xcmpT c.toCw (xbi .len c.toCw rfl Z.n_len (by kernel_rfl) (da_cons (xv 2 (by kernel_rfl)) da_nil rfl) rfl) de_int rfl))))).pt (dss_one (ds_ret (dm_lift (de_tup (da_cons de_str (da_cons (xv 3 (by kernel_rfl)) da_nil rfl) rfl))))) dss_nil)
  (dss_cons (xset c.toCw 4 (by kernel_rfl) (dm_lift (de_index (xv 0 (by kernel_rfl)) (de_slice (de_ix (xv 1 (by kernel_rfl)) (xv 3 (by kernel_rfl)) rfl) (dp_some de_int) dp_none) rfl rfl (by kernel_rfl))) rfl)
  (dss_cons (ds_if ((dw_and (dt_tru (xv 2 (by kernel_rfl)) rfl) (dw_and1 (xcmpT c.toCw (xv 4 (by kernel_rfl)) (de_ix (de_ix (xv 2 (by kernel_rfl)) (de_neg de_int) rfl) de_int rfl) rfl)))).pt (dss_one (ds_ret (dm_lift (de_tup (da_cons de_str (da_cons (xv 3 (by kernel_rfl)) da_nil rfl) rfl))))) dss_nil)
  (dss_one (ds_expr (dm_mu .append rfl (xv 2 (by kernel_rfl)) (dn_cons (dm_lift (de_tup (da_cons (xv 4 (by kernel_rfl)) (da_cons (de_ix (de_lst (da_cons de_int (da_cons (de_neg de_int) (da_cons de_int da_nil rfl) rfl) rfl)) (de_index (de_lst (da_cons de_str (da_cons de_str (da_cons de_str da_nil rfl) rfl) rfl)) (de_slice (de_ix (xv 1 (by kernel_rfl)) (xv 3 (by kernel_rfl)) rfl) dp_none (dp_some de_int)) rfl rfl (by kernel_rfl)) rfl) da_nil rfl) rfl))) dn_nil rfl) rfl rfl (by kernel_rfl) (by kernel_rfl)) rfl))))) dss_nil rfl)
  (dss_one (ds_ret (dm_lift (de_tup (da_cons de_str (da_cons (xbi .tuple c.toCw rfl Z.n_tuple (by kernel_rfl) (da_cons (xv 2 (by kernel_rfl)) da_nil rfl) rfl) da_nil rfl) rfl)))))))
theorem b__law_read {w : World} {K : Frag} {mg : Str → Option Value} (Z : Fz w K mg) (d__law_is_name : ∀ base, DefOk P w K mg base 1 "_law_is_name" 1 fn__law_is_name) (d__law_size : ∀ base, DefOk P w K mg base 1 "_law_size" 1 fn__law_size) (d__law_row : ∀ base, DefOk P w K mg base 1 "_law_row" 2 fn__law_row) : BodyOk P w K mg N__law_read "_law_read" (defBody (top 43)) (defScope (top 43)) 1 sm__law_read := fun base f cdv A outer s F0 H E c =>
  (dss_cons (ysetc (sl := [9]) (F0 := F0) (H0 := H) 1 [("line", 9)] c (by kernel_rfl) (by kernel_rfl) (di_data (de_strM .split rfl (by decide) (xv 0 (by kernel_rfl)) de_str rfl rfl (by kernel_rfl))) (by kernel_rfl) (by kernel_rfl) (fun s H C cl fp xe V c20 => (xg c20 9 (by kernel_rfl))) (fun s H C cl fp xe V c20 => dts_nil) (fun s H C cl fp xe V c20 => (de_strM .split rfl (by decide) (xv 9 (by kernel_rfl)) de_str rfl rfl (by kernel_rfl))) rfl).1
  (dss_cons (ds_asg (dm_lift (xcall c.toCw (d__law_size base) (by decide) (by kernel_rfl) (da_cons (de_ix (xv 1 (by kernel_rfl)) de_int rfl) da_nil rfl) rfl)) (dg_tup c.toCw.calm (dgs_cons (xg c.toCw 2 (by kernel_rfl)) (dgs_cons (xg c.toCw 3 (by kernel_rfl)) dgs_nil rfl) rfl) rfl) rfl rfl rfl)
  (dss_cons (ds_if (xcmpT c.toCw (xv 2 (by kernel_rfl)) de_str rfl) (dss_one (ds_ret (dm_lift (de_tup (da_cons de_str (da_cons de_int (da_cons (xv 3 (by kernel_rfl)) da_nil rfl) rfl) rfl))))) dss_nil)
  (dss_cons (ds_if (xcmpT c.toCw (xbi .len c.toCw rfl Z.n_len (by kernel_rfl) (da_cons (xv 1 (by kernel_rfl)) da_nil rfl) rfl) (de_bin (xv 3 (by kernel_rfl)) de_int) rfl) (dss_one (ds_ret (dm_lift (de_tup (da_cons de_str (da_cons (xbi .min c.toCw rfl Z.n_min (by kernel_rfl) (da_cons (de_bin (xbi .len c.toCw rfl Z.n_len (by kernel_rfl) (da_cons (xv 1 (by kernel_rfl)) da_nil rfl) rfl) de_int) (da_cons (de_bin (xv 3 (by kernel_rfl)) de_int) da_nil rfl) rfl) rfl) (da_cons de_int da_nil rfl) rfl) rfl))))) dss_nil)
  (dss_cons (xset c.toCw 4 (by kernel_rfl) (dm_lst dn_nil) rfl)
  (dss_cons (yfor c (wrng1 rfl Z.n_range (by kernel_rfl) (da_cons (xv 3 (by kernel_rfl)) da_nil rfl) rfl) (xg c.toCw 5 (by kernel_rfl)) (dss_cons (xset c.toCw 6 (by kernel_rfl) (dm_lift (de_ix (de_ix (xv 1 (by kernel_rfl)) (de_bin (xv 5 (by kernel_rfl)) de_int) rfl) de_int rfl)) rfl)
  (dss_cons (ds_if ((dw_or (dt_not (dt_tru (xcall c.toCw (d__law_is_name base) (by decide) (by kernel_rfl) (da_cons (xv 6 (by kernel_rfl)) da_nil rfl) rfl) rfl)) (dw_or1 (xcmpT c.toCw (xv 6 (by kernel_rfl)) (xv 4 (by kernel_rfl)) rfl)))).pt (dss_one (ds_ret (dm_lift (de_tup (da_cons de_str (da_cons (de_bin (xv 5 (by kernel_rfl)) de_int) (da_cons de_int da_nil rfl) rfl) rfl))))) dss_nil)
  (dss_one (ds_expr (dm_mu .append rfl (xv 4 (by kernel_rfl)) (dn_cons (dm_lift (xv 6 (by kernel_rfl))) dn_nil rfl) rfl rfl (by kernel_rfl) (by kernel_rfl)) rfl)))) dss_nil rfl)
  (dss_cons (xset c.toCw 7 (by kernel_rfl) (dm_lst dn_nil) rfl)
  (dss_cons (yfor c (wrng1 rfl Z.n_range (by kernel_rfl) (da_cons (xv 3 (by kernel_rfl)) da_nil rfl) rfl) (xg c.toCw 5 (by kernel_rfl)) (dss_cons (ds_asg (dm_lift (xcall c.toCw (d__law_row base) (by decide) (by kernel_rfl) (da_cons (xv 4 (by kernel_rfl)) (da_cons (de_ix (xv 1 (by kernel_rfl)) (de_bin (xv 5 (by kernel_rfl)) de_int) rfl) da_nil rfl) rfl) rfl)) (dg_tup c.toCw.calm (dgs_cons (xg c.toCw 2 (by kernel_rfl)) (dgs_cons (xg c.toCw 8 (by kernel_rfl)) dgs_nil rfl) rfl) rfl) rfl rfl rfl)
  (dss_cons (ds_if (xcmpT c.toCw (xv 2 (by kernel_rfl)) de_str rfl) (dss_one (ds_ret (dm_lift (de_tup (da_cons de_str (da_cons (de_bin (xv 5 (by kernel_rfl)) de_int) (da_cons (xv 8 (by kernel_rfl)) da_nil rfl) rfl) rfl))))) dss_nil)
  (dss_one (ds_expr (dm_mu .append rfl (xv 7 (by kernel_rfl)) (dn_cons (dm_lift (xv 8 (by kernel_rfl))) dn_nil rfl) rfl rfl (by kernel_rfl) (by kernel_rfl)) rfl)))) dss_nil rfl)
  (dss_one (ds_ret (dm_lift (de_tup (da_cons de_str (da_cons (de_tup (da_cons (xbi .tuple c.toCw rfl Z.n_tuple (by kernel_rfl) (da_cons (xv 4 (by kernel_rfl)) da_nil rfl) rfl) (da_cons (xbi .tuple c.toCw rfl Z.n_tuple (by kernel_rfl) (da_cons (xv 7 (by kernel_rfl)) da_nil rfl) rfl) da_nil rfl) rfl)) da_nil rfl) rfl)))))))))))))
theorem b__law_changed {w : World} {K : Frag} {mg : Str → Option Value} (Z : Fz w K mg) : BodyOk P w K mg N__law_changed "_law_changed" (defBody (top 44)) (defScope (top 44)) 0 sm__law_changed := fun base f cdv A outer s F0 H E c =>
  (dss_cons (ysetm (sl := [8]) 0 [("words", 8)] c (by kernel_rfl) (by kernel_rfl) (di_data (xv 0 (by kernel_rfl))) (by kernel_rfl) (by kernel_rfl) (fun s H C cl fp xe V c21 => (xg c21 8 (by kernel_rfl))) (fun s H C cl fp xe V c21 => dts_nil) (fun s H C cl fp xe V c21 => (mlist rfl Z.n_list (by kernel_rfl) (xv 8 (by kernel_rfl)) rfl)) rfl)
  (dss_cons (xset c.toCw 3 (by kernel_rfl) (dm_lift (de_bin (xbi .int c.toCw rfl Z.n_int (by kernel_rfl) (da_cons (de_ix (xv 1 (by kernel_rfl)) de_int rfl) da_nil rfl) rfl) (xbi .len c.toCw rfl Z.n_len (by kernel_rfl) (da_cons (xv 0 (by kernel_rfl)) da_nil rfl) rfl))) rfl)
  (dss_cons (xset c.toCw 4 (by kernel_rfl) (dm_lift (de_bin (xbi .int c.toCw rfl Z.n_int (by kernel_rfl) (da_cons (de_ix (xv 1 (by kernel_rfl)) de_int rfl) da_nil rfl) rfl) (xbi .len c.toCw rfl Z.n_len (by kernel_rfl) (da_cons (de_ix (xv 0 (by kernel_rfl)) (xv 3 (by kernel_rfl)) rfl) da_nil rfl) rfl))) rfl)
  (dss_cons (xset c.toCw 5 (by kernel_rfl) (dm_lift (de_lst (da_cons de_str (da_cons de_str (da_cons de_str (da_cons de_str (da_cons de_str (da_cons de_str (da_cons de_str (da_cons de_str (da_cons de_str (da_cons de_str (da_cons de_str (da_cons de_str (da_cons de_str (da_cons (de_bin de_str (de_ix (xv 2 (by kernel_rfl)) de_int rfl)) (da_cons (de_bin de_str (de_ix (xv 2 (by kernel_rfl)) (de_neg de_int) rfl)) da_nil rfl) rfl) rfl) rfl) rfl) rfl) rfl) rfl) rfl) rfl) rfl) rfl) rfl) rfl) rfl))) rfl)
  (dss_cons (xset c.toCw 5 (by kernel_rfl) (dm_lift (de_bin (xv 5 (by kernel_rfl)) (de_lst (da_cons (de_bin de_str (de_ix (xv 2 (by kernel_rfl)) de_int rfl)) (da_cons (de_bin de_str (de_ix (xv 2 (by kernel_rfl)) (de_bin (xbi .int c.toCw rfl Z.n_int (by kernel_rfl) (da_cons (de_ix (xv 1 (by kernel_rfl)) de_int rfl) da_nil rfl) rfl) (xbi .len c.toCw rfl Z.n_len (by kernel_rfl) (da_cons (xv 2 (by kernel_rfl)) da_nil rfl) rfl)) rfl)) (da_cons (de_ix (xv 2 (by kernel_rfl)) (de_neg de_int) rfl) (da_cons (de_bin (de_bin de_str (de_ix (xv 2 (by kernel_rfl)) de_int rfl)) de_str) (da_cons de_str da_nil rfl) rfl) rfl) rfl) rfl)))) rfl)
  (dss_cons (ds_if (xcmpT c.toCw (de_ix (xv 1 (by kernel_rfl)) de_int rfl) de_int rfl) (dss_one (ds_put (de_ix (xv 0 (by kernel_rfl)) (xv 3 (by kernel_rfl)) rfl) (xv 4 (by kernel_rfl)) (dm_lift (de_ix (xv 5 (by kernel_rfl)) (de_ix (xv 1 (by kernel_rfl)) de_int rfl) rfl)) rfl rfl)) (dss_one (ds_if (xcmpT c.toCw (de_ix (xv 1 (by kernel_rfl)) de_int rfl) de_int rfl) (dss_one (ds_expr (dm_mu .insert rfl (de_ix (xv 0 (by kernel_rfl)) (xv 3 (by kernel_rfl)) rfl) (dn_cons (dm_lift (xv 4 (by kernel_rfl))) (dn_cons (dm_lift (de_ix (de_ix (xv 0 (by kernel_rfl)) (xv 3 (by kernel_rfl)) rfl) (xv 4 (by kernel_rfl)) rfl)) dn_nil rfl) rfl) rfl rfl (by kernel_rfl) (by kernel_rfl)) rfl)) (dss_one (ds_if (xcmpT c.toCw (de_ix (xv 1 (by kernel_rfl)) de_int rfl) de_int rfl) (dss_one (ds_expr (dm_mu .popAt rfl (de_ix (xv 0 (by kernel_rfl)) (xv 3 (by kernel_rfl)) rfl) (dn_cons (dm_lift (xv 4 (by kernel_rfl))) dn_nil rfl) rfl rfl (by kernel_rfl) (by kernel_rfl)) rfl)) (dss_one (ds_if (xcmpT c.toCw (de_ix (xv 1 (by kernel_rfl)) de_int rfl) de_int rfl) (dss_one (ds_expr (dm_mu .insert rfl (xv 0 (by kernel_rfl)) (dn_cons (dm_lift (xv 3 (by kernel_rfl))) (dn_cons (mlist rfl Z.n_list (by kernel_rfl) (de_ix (xv 0 (by kernel_rfl)) (xv 3 (by kernel_rfl)) rfl) rfl) dn_nil rfl) rfl) rfl rfl (by kernel_rfl) (by kernel_rfl)) rfl)) (dss_one (ds_if ((dw_and (xcmpT c.toCw (de_ix (xv 1 (by kernel_rfl)) de_int rfl) de_int rfl) (dw_and1 (xcmpT c.toCw (xbi .len c.toCw rfl Z.n_len (by kernel_rfl) (da_cons (xv 0 (by kernel_rfl)) da_nil rfl) rfl) de_int rfl)))).pt (dss_one (ds_expr (dm_mu .popAt rfl (xv 0 (by kernel_rfl)) (dn_cons (dm_lift (xv 3 (by kernel_rfl))) dn_nil rfl) rfl rfl (by kernel_rfl) (by kernel_rfl)) rfl)) (dss_one (ds_if (xcmpT c.toCw (de_ix (xv 1 (by kernel_rfl)) de_int rfl) de_int rfl) (dss_one (ds_expr (dm_mu .append rfl (de_ix (xv 0 (by kernel_rfl)) (xv 3 (by kernel_rfl)) rfl) (dn_cons (dm_lift (de_ix (xv 5 (by kernel_rfl)) (de_ix (xv 1 (by kernel_rfl)) de_int rfl) rfl)) dn_nil rfl) rfl rfl (by kernel_rfl) (by kernel_rfl)) rfl)) (dss_one (ds_if (xcmpT c.toCw (de_ix (xv 1 (by kernel_rfl)) de_int rfl) de_int rfl) (dss_cons (xset c.toCw 6 (by kernel_rfl) (dm_lift (de_ix (xv 0 (by kernel_rfl)) (de_neg de_int) rfl)) rfl)
  (dss_cons (ds_put (xv 0 (by kernel_rfl)) (de_neg de_int) (dm_lift (de_ix (xv 0 (by kernel_rfl)) (xv 3 (by kernel_rfl)) rfl)) rfl rfl)
  (dss_one (ds_put (xv 0 (by kernel_rfl)) (xv 3 (by kernel_rfl)) (dm_lift (xv 6 (by kernel_rfl))) rfl rfl)))) (dss_one (ds_if (xcmpT c.toCw (de_ix (xv 1 (by kernel_rfl)) de_int rfl) de_int rfl) (dss_cons (xset c.toCw 7 (by kernel_rfl) (dm_lift (de_ix (de_ix (xv 0 (by kernel_rfl)) (xv 3 (by kernel_rfl)) rfl) (xv 4 (by kernel_rfl)) rfl)) rfl)
  (dss_one (ds_put (de_ix (xv 0 (by kernel_rfl)) (xv 3 (by kernel_rfl)) rfl) (xv 4 (by kernel_rfl)) (dm_lift (de_bin (de_ix (de_lst (da_cons de_str (da_cons de_str (da_cons de_str (da_cons de_str (da_cons de_str da_nil rfl) rfl) rfl) rfl) rfl)) (de_bin (xbi .int c.toCw rfl Z.n_int (by kernel_rfl) (da_cons (de_ix (xv 1 (by kernel_rfl)) de_int rfl) da_nil rfl) rfl) de_int) rfl) (de_slice (xv 7 (by kernel_rfl)) (dp_some de_int) dp_none))) rfl rfl))) (dss_one (ds_if (xcmpT c.toCw (de_ix (xv 1 (by kernel_rfl)) de_int rfl) de_int rfl) (dss_one (ds_expr (dm_mu0 .reverse rfl (de_ix (xv 0 (by kernel_rfl)) (xv 3 (by kernel_rfl)) rfl) rfl (by kernel_rfl)) rfl)) dss_nil)))))))))))))))))
  (dss_one (ds_ret (mcomp (sl := [8]) [("words", 8)] c.toCw (di_data (xv 0 (by kernel_rfl))) (by kernel_rfl) (by kernel_rfl) (fun s H C cl fp xe V c22 => (xg c22 8 (by kernel_rfl))) (fun s H C cl fp xe V c22 => dts_nil) (fun s H C cl fp xe V c22 => (de_if (dt_tru (xv 8 (by kernel_rfl)) rfl) (xv 8 (by kernel_rfl)) (de_lst (da_cons de_str da_nil rfl)))) rfl)))))))))
theorem b_law {w : World} {K : Frag} {mg : Str → Option Value} (Z : Fz w K mg) (d__law_cell : ∀ base, DefOk P w K mg base 1 "_law_cell" 2 fn__law_cell) (d__law_draws : ∀ base, DefOk P w K mg base 1 "_law_draws" 2 fn__law_draws) (d__law_same : ∀ base, DefOk P w K mg base 9 "_law_same" 2 fn__law_same) (d__law_names : ∀ base, DefOk P w K mg base 2 "_law_names" 2 fn__law_names) (d__law_listed_signs : ∀ base, DefOk P w K mg base 1 "_law_listed_signs" 1 fn__law_listed_signs) (d__law_wide_signs : ∀ base, DefOk P w K mg base 3 "_law_wide_signs" 4 fn__law_wide_signs) (d__law_told : ∀ base, DefOk P w K mg base 4 "_law_told" 1 fn__law_told) (d__law_written : ∀ base, DefOk P w K mg base 4 "_law_written" 2 fn__law_written) (d__law_text : ∀ base, DefOk P w K mg base 1 "_law_text" 2 fn__law_text) (d__law_read : ∀ base, DefOk P w K mg base 2 "_law_read" 1 fn__law_read) (d__law_changed : ∀ base, DefOk P w K mg base 1 "_law_changed" 3 fn__law_changed) : BodyOk P w K mg N_law "law" (defBody (top 45)) (defScope (top 45)) 9 sm_law := fun base f cdv A outer s F0 H E c =>
  (dss_cons (xset c.toCw 1 (by kernel_rfl) (dm_lift (de_ix (de_lst (da_cons de_int (da_cons de_int (da_cons de_int (da_cons de_int (da_cons de_int (da_cons de_int (da_cons de_int (da_cons de_int (da_cons de_int (da_cons de_int (da_cons de_int (da_cons de_int da_nil rfl) rfl) rfl) rfl) rfl) rfl) rfl) rfl) rfl) rfl) rfl) rfl)) (de_bin (xbi .int c.toCw rfl Z.n_int (by kernel_rfl) (da_cons (xcall c.toCw (d__law_cell base) (by decide) (by kernel_rfl) (da_cons (xv 0 (by kernel_rfl)) (da_cons de_int da_nil rfl) rfl) rfl) da_nil rfl) rfl) de_int) rfl)) rfl)
  (dss_cons (xset c.toCw 2 (by kernel_rfl) (dm_lift (xcall c.toCw (d__law_wide_signs base) (by decide) (by kernel_rfl) (da_cons (xv 0 (by kernel_rfl)) (da_cons de_int (da_cons (xv 1 (by kernel_rfl)) (da_cons de_int da_nil rfl) rfl) rfl) rfl) rfl)) rfl)
  (dss_cons (xset c.toCw 3 (by kernel_rfl) (dm_lift (xcall c.toCw (d__law_names base) (by decide) (by kernel_rfl) (da_cons (xcall c.toCw (d__law_cell base) (by decide) (by kernel_rfl) (da_cons (xv 0 (by kernel_rfl)) (da_cons de_int da_nil rfl) rfl) rfl) (da_cons (xv 1 (by kernel_rfl)) da_nil rfl) rfl) rfl)) rfl)
  (dss_cons (xset c.toCw 4 (by kernel_rfl) (dm_lift (xcall c.toCw (d__law_text base) (by decide) (by kernel_rfl) (da_cons (xv 3 (by kernel_rfl)) (da_cons (xv 2 (by kernel_rfl)) da_nil rfl) rfl) rfl)) rfl)
  (dss_cons (xset c.toCw 5 (by kernel_rfl) (mcall c.toCw (d__law_listed_signs base) (by decide) (by kernel_rfl) (da_cons (xv 2 (by kernel_rfl)) da_nil rfl) rfl) rfl)
  (dss_cons (ds_if ((dw_or (dt_not (dt_tru (xcall c.toCw (d__law_same base) (by decide) (by kernel_rfl) (da_cons (xcall c.toCw (d__law_written base) (by decide) (by kernel_rfl) (da_cons (xbi .list c.toCw rfl Z.n_list (by kernel_rfl) (da_cons (xv 3 (by kernel_rfl)) da_nil rfl) rfl) (da_cons (xv 5 (by kernel_rfl)) da_nil rfl) rfl) rfl) (da_cons (de_tup (da_cons de_str (da_cons (xv 4 (by kernel_rfl)) da_nil rfl) rfl)) da_nil rfl) rfl) rfl) rfl)) (dw_or1 (xcmpT c.toCw (xv 5 (by kernel_rfl)) (xcall c.toCw (d__law_listed_signs base) (by decide) (by kernel_rfl) (da_cons (xv 2 (by kernel_rfl)) da_nil rfl) rfl) rfl)))).pt (dss_one (ds_ret (dm_lift de_bl))) dss_nil)
  (dss_cons (ds_if (dt_not (dt_tru (xcall c.toCw (d__law_same base) (by decide) (by kernel_rfl) (da_cons (xcall c.toCw (d__law_told base) (by decide) (by kernel_rfl) (da_cons (xv 4 (by kernel_rfl)) da_nil rfl) rfl) (da_cons (de_tup (da_cons de_str (da_cons (de_tup (da_cons (xv 3 (by kernel_rfl)) (da_cons (xv 2 (by kernel_rfl)) da_nil rfl) rfl)) da_nil rfl) rfl)) da_nil rfl) rfl) rfl) rfl)) (dss_one (ds_ret (dm_lift de_bl))) dss_nil)
  (dss_cons (yfor c (wrng1 rfl Z.n_range (by kernel_rfl) (da_cons de_int da_nil rfl) rfl) (xg c.toCw 6 (by kernel_rfl)) (dss_cons (ysetc (sl := [12]) (F0 := F0) (H0 := H) 7 [("line", 12)] c (by kernel_rfl) (by kernel_rfl) (di_data (de_strM .split rfl (by decide) (xv 4 (by kernel_rfl)) de_str rfl rfl (by kernel_rfl))) (by kernel_rfl) (by kernel_rfl) (fun s H C cl fp xe V c23 => (xg c23 12 (by kernel_rfl))) (fun s H C cl fp xe V c23 => dts_nil) (fun s H C cl fp xe V c23 => (de_strM .split rfl (by decide) (xv 12 (by kernel_rfl)) de_str rfl rfl (by kernel_rfl))) rfl).1
  (dss_cons (xset c.toCw 8 (by kernel_rfl) (dm_lift (xcall c.toCw (d__law_draws base) (by decide) (by kernel_rfl) (da_cons (de_bin (xcall c.toCw (d__law_cell base) (by decide) (by kernel_rfl) (da_cons (xv 0 (by kernel_rfl)) (da_cons (de_bin de_int (xv 6 (by kernel_rfl))) da_nil rfl) rfl) rfl) (xv 6 (by kernel_rfl))) (da_cons (de_bin (de_bin (de_lst (da_cons de_int (da_cons de_int (da_cons de_int (da_cons de_int da_nil rfl) rfl) rfl) rfl)) de_int) (de_lst (da_cons de_int da_nil rfl))) da_nil rfl) rfl) rfl)) rfl)
  (dss_cons (xset c.toCw 7 (by kernel_rfl) (dm_lift (xcall c.toCw (d__law_changed base) (by decide) (by kernel_rfl) (da_cons (xv 7 (by kernel_rfl)) (da_cons (xv 8 (by kernel_rfl)) (da_cons (xv 3 (by kernel_rfl)) da_nil rfl) rfl) rfl) rfl)) rfl)
  (dss_cons (ds_if (xcmpT c.toCw (de_ix (xv 8 (by kernel_rfl)) de_int rfl) de_int rfl) (dss_one (xset c.toCw 7 (by kernel_rfl) (dm_lift (xcall c.toCw (d__law_changed base) (by decide) (by kernel_rfl) (da_cons (xv 7 (by kernel_rfl)) (da_cons (de_slice (xv 8 (by kernel_rfl)) (dp_some de_int) dp_none) (da_cons (xv 3 (by kernel_rfl)) da_nil rfl) rfl) rfl) rfl)) rfl)) dss_nil)
  (dss_cons (xset c.toCw 9 (by kernel_rfl) (dm_lift (de_strM .join rfl (by decide) de_str (xcomp (sl := [13]) [("words", 13)] c.toCw (di_data (xv 7 (by kernel_rfl))) (by kernel_rfl) (by kernel_rfl) (fun s H C cl fp xe V c24 => (xg c24 13 (by kernel_rfl))) (fun s H C cl fp xe V c24 => dts_nil) (fun s H C cl fp xe V c24 => (de_strM .join rfl (by decide) de_str (xv 13 (by kernel_rfl)) rfl rfl (by kernel_rfl))) rfl) rfl rfl (by kernel_rfl))) rfl)
  (dss_one (ds_if (dt_not (dt_tru (xcall c.toCw (d__law_same base) (by decide) (by kernel_rfl) (da_cons (xcall c.toCw (d__law_told base) (by decide) (by kernel_rfl) (da_cons (xv 9 (by kernel_rfl)) da_nil rfl) rfl) (da_cons (xcall c.toCw (d__law_read base) (by decide) (by kernel_rfl) (da_cons (xv 9 (by kernel_rfl)) da_nil rfl) rfl) da_nil rfl) rfl) rfl) rfl)) (dss_one (ds_ret (dm_lift de_bl))) dss_nil))))))) dss_nil rfl)
  (dss_cons (yfor c (di_data (de_tup (da_cons (de_bin (xv 4 (by kernel_rfl)) de_str) (da_cons (de_bin (xv 4 (by kernel_rfl)) de_str) (da_consT (dat_one (pet_repl (xv 4 (by kernel_rfl)) (by kernel_rfl) rfl (by kernel_rfl)) rfl)) rfl) rfl))) (xg c.toCw 9 (by kernel_rfl)) (dss_one (ds_if (dt_not (dt_tru (xcall c.toCw (d__law_same base) (by decide) (by kernel_rfl) (da_cons (xcall c.toCw (d__law_told base) (by decide) (by kernel_rfl) (da_cons (xv 9 (by kernel_rfl)) da_nil rfl) rfl) (da_cons (xcall c.toCw (d__law_read base) (by decide) (by kernel_rfl) (da_cons (xv 9 (by kernel_rfl)) da_nil rfl) rfl) da_nil rfl) rfl) rfl) rfl)) (dss_one (ds_ret (dm_lift de_bl))) dss_nil)) dss_nil rfl)
  (dss_cons (yfor c (di_data (de_tup (da_cons (de_bin (xbi .list c.toCw rfl Z.n_list (by kernel_rfl) (da_cons (xv 3 (by kernel_rfl)) da_nil rfl) rfl) (de_lst (da_cons de_str da_nil rfl))) (da_cons (xbi .list c.toCw rfl Z.n_list (by kernel_rfl) (da_cons (de_slice (xv 3 (by kernel_rfl)) dp_none (dp_some (de_neg de_int))) da_nil rfl) rfl) (da_cons (de_bin (xbi .list c.toCw rfl Z.n_list (by kernel_rfl) (da_cons (de_slice (xv 3 (by kernel_rfl)) dp_none (dp_some (de_neg de_int))) da_nil rfl) rfl) (de_lst (da_cons de_str da_nil rfl))) (da_cons (de_bin (xbi .list c.toCw rfl Z.n_list (by kernel_rfl) (da_cons (de_slice (xv 3 (by kernel_rfl)) dp_none (dp_some (de_neg de_int))) da_nil rfl) rfl) (de_lst (da_cons de_str da_nil rfl))) da_nil rfl) rfl) rfl) rfl))) (xg c.toCw 10 (by kernel_rfl)) (dss_one (ds_if (dt_not (dt_tru (xcall c.toCw (d__law_same base) (by decide) (by kernel_rfl) (da_cons (xcall c.toCw (d__law_written base) (by decide) (by kernel_rfl) (da_cons (xv 10 (by kernel_rfl)) (da_cons (xv 5 (by kernel_rfl)) da_nil rfl) rfl) rfl) (da_cons (de_tup (da_cons de_str (da_cons (xbi .tuple c.toCw rfl Z.n_tuple (by kernel_rfl) (da_cons (xv 10 (by kernel_rfl)) da_nil rfl) rfl) da_nil rfl) rfl)) da_nil rfl) rfl) rfl) rfl)) (dss_one (ds_ret (dm_lift de_bl))) dss_nil)) dss_nil rfl)
  (dss_cons (xset c.toCw 11 (by kernel_rfl) (dm_lift (de_bin (xbi .int c.toCw rfl Z.n_int (by kernel_rfl) (da_cons (xcall c.toCw (d__law_cell base) (by decide) (by kernel_rfl) (da_cons (xv 0 (by kernel_rfl)) (da_cons de_int da_nil rfl) rfl) rfl) da_nil rfl) rfl) (xv 1 (by kernel_rfl)))) rfl)
  (dss_cons (ds_put (xv 5 (by kernel_rfl)) (xv 11 (by kernel_rfl)) (dm_lift (de_lst (da_cons (de_lst (da_cons (xv 11 (by kernel_rfl)) (da_cons de_int da_nil rfl) rfl)) da_nil rfl))) rfl rfl)
  (dss_one (ds_ret (dm_lift (xcall c.toCw (d__law_same base) (by decide) (by kernel_rfl) (da_cons (xcall c.toCw (d__law_written base) (by decide) (by kernel_rfl) (da_cons (de_lst da_nil) (da_cons (xv 5 (by kernel_rfl)) da_nil rfl) rfl) rfl) (da_cons (de_tup (da_cons de_str (da_cons (xv 11 (by kernel_rfl)) da_nil rfl) rfl)) da_nil rfl) rfl) rfl))))))))))))))))
def dL (i : Nat) (n : Str) : He.DefD := ⟨(n, none), n, n, defArgs (top i), defBody (top i), defScope (top i), [], []⟩
def dE (i j : Nat) (n qn : Str) (fs : List Str) : ErrD := ⟨n, fs, qn, defArgs (inClass (top i) j), defBody (inClass (top i) j), defScope (inClass (top i) j)⟩
def L : Look := {
  fa := [.glo "is_ascending", .glo "is_name", .glo "as_names", .glo "read_names", .glo "as_signs", .glo "format_signs", .glo "count_of", .glo "read_signed", .glo "read_signs", .glo "_law_cell", .glo "_law_draws", .glo "_law_heard", .glo "_law_same", .glo "_law_hearings", .glo "_law_names", .glo "_law_listed_signs", .glo "_law_wide_signs", .glo "_law_told", .glo "_law_written", .glo "_law_text", .glo "_law_is_name", .glo "_law_size", .glo "_law_row", .glo "_law_read", .glo "_law_changed", .glo "law", .free "abs", .free "bool", .free "enumerate", .free "int", .free "isinstance", .free "len", .free "list", .free "min", .free "range", .free "set", .free "sorted", .free "str", .free "tuple", .free "zip", .str "HEAD" "signs", .str "LETTERS" "abcdefghijklmnopqrstuvwxyz", .int "MOST_HEARD" 4, .int "MOST_HOUSES" 12, .int "MOST_LETTERS" 8, .glo "BadNames", .exm "BadNames" "BadNames" true, .exm "BadSigns" "BadNames" false, .exm "BadSize" "BadNames" false, .exm "BadText" "BadNames" false, .glo "BadSigns", .exm "BadNames" "BadSigns" false, .exm "BadSigns" "BadSigns" true, .exm "BadSize" "BadSigns" false, .exm "BadText" "BadSigns" false, .glo "BadText", .exm "BadNames" "BadText" false, .exm "BadSigns" "BadText" false, .exm "BadSize" "BadText" false, .exm "BadText" "BadText" true]
  fn := [dL 10 "is_ascending", dL 14 "is_name", dL 15 "as_names", dL 17 "read_names", dL 19 "as_signs", dL 24 "format_signs", dL 25 "count_of", dL 26 "read_signed", dL 27 "read_signs", dL 29 "_law_cell", dL 30 "_law_draws", dL 31 "_law_heard", dL 32 "_law_same", dL 33 "_law_hearings", dL 34 "_law_names", dL 35 "_law_listed_signs", dL 36 "_law_wide_signs", dL 37 "_law_told", dL 38 "_law_written", dL 39 "_law_text", dL 40 "_law_is_name", dL 41 "_law_size", dL 42 "_law_row", dL 43 "_law_read", dL 44 "_law_changed", dL 45 "law"]
  er := [dE 3 0 "BadNames" "BadNames.__init__" ["row"], dE 6 0 "BadSigns" "BadSigns.__init__" ["house"], dE 4 0 "BadSize" "BadSize.__init__" ["count"], dE 5 0 "BadText" "BadText.__init__" ["line", "word"]]
  dc := [("MARKS", kd_MARKS), ("SIGNS", kd_SIGNS)] }
theorem et_BadNames : ErrT P (dE 3 0 "BadNames" "BadNames.__init__" ["row"]) := ⟨by kernel_rfl, by decide, by kernel_rfl, by rfl, by rfl, by rfl, by rfl, by kernel_rfl, by kernel_rfl, by kernel_rfl, by kernel_rfl, fun _ _ _ _ _ _ _ us hl => match us, hl with | [_], _ => rfl, by decide +kernel, by kernel_rfl⟩
theorem et_BadSigns : ErrT P (dE 6 0 "BadSigns" "BadSigns.__init__" ["house"]) := ⟨by kernel_rfl, by decide, by kernel_rfl, by rfl, by rfl, by rfl, by rfl, by kernel_rfl, by kernel_rfl, by kernel_rfl, by kernel_rfl, fun _ _ _ _ _ _ _ us hl => match us, hl with | [_], _ => rfl, by decide +kernel, by kernel_rfl⟩
theorem et_BadSize : ErrT P (dE 4 0 "BadSize" "BadSize.__init__" ["count"]) := ⟨by kernel_rfl, by decide, by kernel_rfl, by rfl, by rfl, by rfl, by rfl, by kernel_rfl, by kernel_rfl, by kernel_rfl, by kernel_rfl, fun _ _ _ _ _ _ _ us hl => match us, hl with | [_], _ => rfl, by decide +kernel, by kernel_rfl⟩
theorem et_BadText : ErrT P (dE 5 0 "BadText" "BadText.__init__" ["line", "word"]) := ⟨by kernel_rfl, by decide, by kernel_rfl, by rfl, by rfl, by rfl, by rfl, by kernel_rfl, by kernel_rfl, by kernel_rfl, by kernel_rfl, fun _ _ _ _ _ _ _ us hl => match us, hl with | [_, _], _ => rfl, by decide +kernel, by kernel_rfl⟩
section
variable {w : World} {K : Frag} {h : Heap} {mg : Str → Option Value}
theorem fz (c : SaysX P L w K) (X : K.In h) (G : h.Ns mainGlobals mg) : Fz w K mg where
  n_abs := He.free_ok X G (c.fact 26)
  n_bool := He.free_ok X G (c.fact 27)
  n_enumerate := He.free_ok X G (c.fact 28)
  n_int := He.free_ok X G (c.fact 29)
  n_isinstance := He.free_ok X G (c.fact 30)
  n_len := He.free_ok X G (c.fact 31)
  n_list := He.free_ok X G (c.fact 32)
  n_min := He.free_ok X G (c.fact 33)
  n_range := He.free_ok X G (c.fact 34)
  n_set := He.free_ok X G (c.fact 35)
  n_sorted := He.free_ok X G (c.fact 36)
  n_str := He.free_ok X G (c.fact 37)
  n_tuple := He.free_ok X G (c.fact 38)
  n_zip := He.free_ok X G (c.fact 39)
  co_HEAD := .str (He.str_ok X G (c.fact 40))
  co_LETTERS := .str (He.str_ok X G (c.fact 41))
  co_MOST_HEARD := .int (He.int_ok X G (c.fact 42))
  co_MOST_HOUSES := .int (He.int_ok X G (c.fact 43))
  co_MOST_LETTERS := .int (He.int_ok X G (c.fact 44))
  err_BadNames := ⟨_, _, (c.err 0 rfl X G et_BadNames).1⟩
  err_BadSigns := ⟨_, _, (c.err 1 rfl X G et_BadSigns).1⟩
  err_BadSize := ⟨_, _, (c.err 2 rfl X G et_BadSize).1⟩
  err_BadText := ⟨_, _, (c.err 3 rfl X G et_BadText).1⟩
  dic_MARKS := c.dic 0 rfl X G (by rfl) (by decide +kernel)
  dic_SIGNS := c.dic 1 rfl X G (by rfl) (by decide +kernel)
  ex_BadNames := ⟨_, He.glo_ok X G (c.fact 45), fun p hp => by
    unfold ex_BadNames at hp
    simp only [List.mem_cons, List.not_mem_nil, or_false] at hp
    rcases hp with rfl | rfl | rfl | rfl
    · exact ⟨_, (c.err 0 rfl X G et_BadNames).2.2, He.exm_ok (c.fact 46), fun _ => ⟨(c.err 0 rfl X G et_BadNames).2.1, fun f hf => (c.err 0 rfl X G et_BadNames).1.noN f (by revert f; decide +kernel)⟩⟩
    · exact ⟨_, (c.err 1 rfl X G et_BadSigns).2.2, He.exm_ok (c.fact 47), fun h => nomatch h⟩
    · exact ⟨_, (c.err 2 rfl X G et_BadSize).2.2, He.exm_ok (c.fact 48), fun h => nomatch h⟩
    · exact ⟨_, (c.err 3 rfl X G et_BadText).2.2, He.exm_ok (c.fact 49), fun h => nomatch h⟩⟩
  ex_BadSigns := ⟨_, He.glo_ok X G (c.fact 50), fun p hp => by
    unfold ex_BadSigns at hp
    simp only [List.mem_cons, List.not_mem_nil, or_false] at hp
    rcases hp with rfl | rfl | rfl | rfl
    · exact ⟨_, (c.err 0 rfl X G et_BadNames).2.2, He.exm_ok (c.fact 51), fun h => nomatch h⟩
    · exact ⟨_, (c.err 1 rfl X G et_BadSigns).2.2, He.exm_ok (c.fact 52), fun _ => ⟨(c.err 1 rfl X G et_BadSigns).2.1, fun f hf => (c.err 1 rfl X G et_BadSigns).1.noN f (by revert f; decide +kernel)⟩⟩
    · exact ⟨_, (c.err 2 rfl X G et_BadSize).2.2, He.exm_ok (c.fact 53), fun h => nomatch h⟩
    · exact ⟨_, (c.err 3 rfl X G et_BadText).2.2, He.exm_ok (c.fact 54), fun h => nomatch h⟩⟩
  ex_BadText := ⟨_, He.glo_ok X G (c.fact 55), fun p hp => by
    unfold ex_BadText at hp
    simp only [List.mem_cons, List.not_mem_nil, or_false] at hp
    rcases hp with rfl | rfl | rfl | rfl
    · exact ⟨_, (c.err 0 rfl X G et_BadNames).2.2, He.exm_ok (c.fact 56), fun h => nomatch h⟩
    · exact ⟨_, (c.err 1 rfl X G et_BadSigns).2.2, He.exm_ok (c.fact 57), fun h => nomatch h⟩
    · exact ⟨_, (c.err 2 rfl X G et_BadSize).2.2, He.exm_ok (c.fact 58), fun h => nomatch h⟩
    · exact ⟨_, (c.err 3 rfl X G et_BadText).2.2, He.exm_ok (c.fact 59), fun _ => ⟨(c.err 3 rfl X G et_BadText).2.1, fun f hf => (c.err 3 rfl X G et_BadText).1.noN f (by revert f; decide +kernel)⟩⟩⟩
theorem d_is_ascending (c : SaysX P L w K) (X : K.In h) (G : h.Ns mainGlobals mg) (base : Heap) : DefOk P w K mg base 1 "is_ascending" 2 fn_is_ascending := by
  obtain ⟨fd, F⟩ := c.def_ 0
  exact defOk_of F (He.glo_ok X G (c.fact 0)) (⟨rfl, rfl, rfl, by decide +kernel, rfl, by decide +kernel, by decide +kernel⟩ : FnScope N_is_ascending ["houses", "size"] (defScope (top 10))) (fun _ _ _ _ _ _ us hl => match us, hl with | [_, _], _ => rfl) (b_is_ascending (fz c X G) )
theorem d_is_name (c : SaysX P L w K) (X : K.In h) (G : h.Ns mainGlobals mg) (base : Heap) : DefOk P w K mg base 1 "is_name" 1 fn_is_name := by
  obtain ⟨fd, F⟩ := c.def_ 1
  exact defOk_of F (He.glo_ok X G (c.fact 1)) (⟨rfl, rfl, rfl, by decide +kernel, rfl, by decide +kernel, by decide +kernel⟩ : FnScope N_is_name ["word"] (defScope (top 14))) (fun _ _ _ _ _ _ us hl => match us, hl with | [_], _ => rfl) (b_is_name (fz c X G) )
theorem d_as_names (c : SaysX P L w K) (X : K.In h) (G : h.Ns mainGlobals mg) (base : Heap) : DefOk P w K mg base 2 "as_names" 2 fn_as_names := by
  obtain ⟨fd, F⟩ := c.def_ 2
  exact defOk_of F (He.glo_ok X G (c.fact 2)) (⟨rfl, rfl, rfl, by decide +kernel, rfl, by decide +kernel, by decide +kernel⟩ : FnScope N_as_names ["size", "row"] (defScope (top 15))) (fun _ _ _ _ _ _ us hl => match us, hl with | [_, _], _ => rfl) (b_as_names (fz c X G) (fun base => d_is_name c X G base))
theorem d_read_names (c : SaysX P L w K) (X : K.In h) (G : h.Ns mainGlobals mg) (base : Heap) : DefOk P w K mg base 2 "read_names" 1 fn_read_names := by
  obtain ⟨fd, F⟩ := c.def_ 3
  exact defOk_of F (He.glo_ok X G (c.fact 3)) (⟨rfl, rfl, rfl, by decide +kernel, rfl, by decide +kernel, by decide +kernel⟩ : FnScope N_read_names ["lines"] (defScope (top 17))) (fun _ _ _ _ _ _ us hl => match us, hl with | [_], _ => rfl) (b_read_names (fz c X G) (fun base => d_is_name c X G base))
theorem d_as_signs (c : SaysX P L w K) (X : K.In h) (G : h.Ns mainGlobals mg) (base : Heap) : DefOk P w K mg base 2 "as_signs" 1 fn_as_signs := by
  obtain ⟨fd, F⟩ := c.def_ 4
  exact defOk_of F (He.glo_ok X G (c.fact 4)) (⟨rfl, rfl, rfl, by decide +kernel, rfl, by decide +kernel, by decide +kernel⟩ : FnScope N_as_signs ["signs"] (defScope (top 19))) (fun _ _ _ _ _ _ us hl => match us, hl with | [_], _ => rfl) (b_as_signs (fz c X G) (fun base => d_is_ascending c X G base))
theorem d_format_signs (c : SaysX P L w K) (X : K.In h) (G : h.Ns mainGlobals mg) (base : Heap) : DefOk P w K mg base 3 "format_signs" 2 fn_format_signs := by
  obtain ⟨fd, F⟩ := c.def_ 5
  exact defOk_of F (He.glo_ok X G (c.fact 5)) (⟨rfl, rfl, rfl, by decide +kernel, rfl, by decide +kernel, by decide +kernel⟩ : FnScope N_format_signs ["names", "signs"] (defScope (top 24))) (fun _ _ _ _ _ _ us hl => match us, hl with | [_, _], _ => rfl) (b_format_signs (fz c X G) (fun base => d_as_names c X G base) (fun base => d_as_signs c X G base))
theorem d_count_of (c : SaysX P L w K) (X : K.In h) (G : h.Ns mainGlobals mg) (base : Heap) : DefOk P w K mg base 1 "count_of" 1 fn_count_of := by
  obtain ⟨fd, F⟩ := c.def_ 6
  exact defOk_of F (He.glo_ok X G (c.fact 6)) (⟨rfl, rfl, rfl, by decide +kernel, rfl, by decide +kernel, by decide +kernel⟩ : FnScope N_count_of ["words"] (defScope (top 25))) (fun _ _ _ _ _ _ us hl => match us, hl with | [_], _ => rfl) (b_count_of (fz c X G) )
theorem d_read_signed (c : SaysX P L w K) (X : K.In h) (G : h.Ns mainGlobals mg) (base : Heap) : DefOk P w K mg base 1 "read_signed" 3 fn_read_signed := by
  obtain ⟨fd, F⟩ := c.def_ 7
  exact defOk_of F (He.glo_ok X G (c.fact 7)) (⟨rfl, rfl, rfl, by decide +kernel, rfl, by decide +kernel, by decide +kernel⟩ : FnScope N_read_signed ["names", "words", "line"] (defScope (top 26))) (fun _ _ _ _ _ _ us hl => match us, hl with | [_, _, _], _ => rfl) (b_read_signed (fz c X G) )
theorem d_read_signs (c : SaysX P L w K) (X : K.In h) (G : h.Ns mainGlobals mg) (base : Heap) : DefOk P w K mg base 3 "read_signs" 1 fn_read_signs := by
  obtain ⟨fd, F⟩ := c.def_ 8
  exact defOk_of F (He.glo_ok X G (c.fact 8)) (⟨rfl, rfl, rfl, by decide +kernel, rfl, by decide +kernel, by decide +kernel⟩ : FnScope N_read_signs ["text"] (defScope (top 27))) (fun _ _ _ _ _ _ us hl => match us, hl with | [_], _ => rfl) (b_read_signs (fz c X G) (fun base => d_read_names c X G base) (fun base => d_count_of c X G base) (fun base => d_read_signed c X G base))
theorem d__law_cell (c : SaysX P L w K) (X : K.In h) (G : h.Ns mainGlobals mg) (base : Heap) : DefOk P w K mg base 1 "_law_cell" 2 fn__law_cell := by
  obtain ⟨fd, F⟩ := c.def_ 9
  exact defOk_of F (He.glo_ok X G (c.fact 9)) (⟨rfl, rfl, rfl, by decide +kernel, rfl, by decide +kernel, by decide +kernel⟩ : FnScope N__law_cell ["script", "k"] (defScope (top 29))) (fun _ _ _ _ _ _ us hl => match us, hl with | [_, _], _ => rfl) (b__law_cell (fz c X G) )
theorem d__law_draws (c : SaysX P L w K) (X : K.In h) (G : h.Ns mainGlobals mg) (base : Heap) : DefOk P w K mg base 1 "_law_draws" 2 fn__law_draws := by
  obtain ⟨fd, F⟩ := c.def_ 10
  exact defOk_of F (He.glo_ok X G (c.fact 10)) (⟨rfl, rfl, rfl, by decide +kernel, rfl, by decide +kernel, by decide +kernel⟩ : FnScope N__law_draws ["cell", "sizes"] (defScope (top 30))) (fun _ _ _ _ _ _ us hl => match us, hl with | [_, _], _ => rfl) (b__law_draws (fz c X G) )
theorem d__law_heard (c : SaysX P L w K) (X : K.In h) (G : h.Ns mainGlobals mg) (base : Heap) : DefOk P w K mg base 1 "_law_heard" 3 fn__law_heard := by
  obtain ⟨fd, F⟩ := c.def_ 11
  exact defOk_of F (He.glo_ok X G (c.fact 11)) (⟨rfl, rfl, rfl, by decide +kernel, rfl, by decide +kernel, by decide +kernel⟩ : FnScope N__law_heard ["draws", "size", "house"] (defScope (top 31))) (fun _ _ _ _ _ _ us hl => match us, hl with | [_, _, _], _ => rfl) (b__law_heard (fz c X G) )
theorem d__law_same (c : SaysX P L w K) (X : K.In h) (G : h.Ns mainGlobals mg) (base : Heap) : DefOk P w K mg base 9 "_law_same" 2 fn__law_same := by
  obtain ⟨fd, F⟩ := c.def_ 12
  exact recOk_of (k := 0) (N := N__law_same) F (He.glo_ok X G (c.fact 12)) (⟨rfl, rfl, rfl, by decide +kernel, rfl, by decide +kernel, by decide +kernel⟩ : FnScope N__law_same ["actual", "expected"] (defScope (top 32))) (fun _ _ _ _ _ _ us hl => match us, hl with | [_, _], _ => rfl) (b__law_same (fz c X G) ) 8
theorem d__law_hearings (c : SaysX P L w K) (X : K.In h) (G : h.Ns mainGlobals mg) (base : Heap) : DefOk P w K mg base 2 "_law_hearings" 3 fn__law_hearings := by
  obtain ⟨fd, F⟩ := c.def_ 13
  exact defOk_of F (He.glo_ok X G (c.fact 13)) (⟨rfl, rfl, rfl, by decide +kernel, rfl, by decide +kernel, by decide +kernel⟩ : FnScope N__law_hearings ["cell", "size", "most"] (defScope (top 33))) (fun _ _ _ _ _ _ us hl => match us, hl with | [_, _, _], _ => rfl) (b__law_hearings (fz c X G) (fun base => d__law_draws c X G base) (fun base => d__law_heard c X G base))
theorem d__law_names (c : SaysX P L w K) (X : K.In h) (G : h.Ns mainGlobals mg) (base : Heap) : DefOk P w K mg base 2 "_law_names" 2 fn__law_names := by
  obtain ⟨fd, F⟩ := c.def_ 14
  exact defOk_of F (He.glo_ok X G (c.fact 14)) (⟨rfl, rfl, rfl, by decide +kernel, rfl, by decide +kernel, by decide +kernel⟩ : FnScope N__law_names ["cell", "size"] (defScope (top 34))) (fun _ _ _ _ _ _ us hl => match us, hl with | [_, _], _ => rfl) (b__law_names (fz c X G) (fun base => d__law_draws c X G base))
theorem d__law_listed_signs (c : SaysX P L w K) (X : K.In h) (G : h.Ns mainGlobals mg) (base : Heap) : DefOk P w K mg base 1 "_law_listed_signs" 1 fn__law_listed_signs := by
  obtain ⟨fd, F⟩ := c.def_ 15
  exact defOk_of F (He.glo_ok X G (c.fact 15)) (⟨rfl, rfl, rfl, by decide +kernel, rfl, by decide +kernel, by decide +kernel⟩ : FnScope N__law_listed_signs ["signs"] (defScope (top 35))) (fun _ _ _ _ _ _ us hl => match us, hl with | [_], _ => rfl) (b__law_listed_signs (fz c X G) )
theorem d__law_wide_signs (c : SaysX P L w K) (X : K.In h) (G : h.Ns mainGlobals mg) (base : Heap) : DefOk P w K mg base 3 "_law_wide_signs" 4 fn__law_wide_signs := by
  obtain ⟨fd, F⟩ := c.def_ 16
  exact defOk_of F (He.glo_ok X G (c.fact 16)) (⟨rfl, rfl, rfl, by decide +kernel, rfl, by decide +kernel, by decide +kernel⟩ : FnScope N__law_wide_signs ["script", "first", "size", "most"] (defScope (top 36))) (fun _ _ _ _ _ _ us hl => match us, hl with | [_, _, _, _], _ => rfl) (b__law_wide_signs (fz c X G) (fun base => d__law_cell c X G base) (fun base => d__law_hearings c X G base))
theorem d__law_told (c : SaysX P L w K) (X : K.In h) (G : h.Ns mainGlobals mg) (base : Heap) : DefOk P w K mg base 4 "_law_told" 1 fn__law_told := by
  obtain ⟨fd, F⟩ := c.def_ 17
  exact defOk_of F (He.glo_ok X G (c.fact 17)) (⟨rfl, rfl, rfl, by decide +kernel, rfl, by decide +kernel, by decide +kernel⟩ : FnScope N__law_told ["text"] (defScope (top 37))) (fun _ _ _ _ _ _ us hl => match us, hl with | [_], _ => rfl) (b__law_told (fz c X G) (fun base => d_read_signs c X G base))
theorem d__law_written (c : SaysX P L w K) (X : K.In h) (G : h.Ns mainGlobals mg) (base : Heap) : DefOk P w K mg base 4 "_law_written" 2 fn__law_written := by
  obtain ⟨fd, F⟩ := c.def_ 18
  exact defOk_of F (He.glo_ok X G (c.fact 18)) (⟨rfl, rfl, rfl, by decide +kernel, rfl, by decide +kernel, by decide +kernel⟩ : FnScope N__law_written ["names", "signs"] (defScope (top 38))) (fun _ _ _ _ _ _ us hl => match us, hl with | [_, _], _ => rfl) (b__law_written (fz c X G) (fun base => d_format_signs c X G base))
theorem d__law_text (c : SaysX P L w K) (X : K.In h) (G : h.Ns mainGlobals mg) (base : Heap) : DefOk P w K mg base 1 "_law_text" 2 fn__law_text := by
  obtain ⟨fd, F⟩ := c.def_ 19
  exact defOk_of F (He.glo_ok X G (c.fact 19)) (⟨rfl, rfl, rfl, by decide +kernel, rfl, by decide +kernel, by decide +kernel⟩ : FnScope N__law_text ["names", "signs"] (defScope (top 39))) (fun _ _ _ _ _ _ us hl => match us, hl with | [_, _], _ => rfl) (b__law_text (fz c X G) )
theorem d__law_is_name (c : SaysX P L w K) (X : K.In h) (G : h.Ns mainGlobals mg) (base : Heap) : DefOk P w K mg base 1 "_law_is_name" 1 fn__law_is_name := by
  obtain ⟨fd, F⟩ := c.def_ 20
  exact defOk_of F (He.glo_ok X G (c.fact 20)) (⟨rfl, rfl, rfl, by decide +kernel, rfl, by decide +kernel, by decide +kernel⟩ : FnScope N__law_is_name ["word"] (defScope (top 40))) (fun _ _ _ _ _ _ us hl => match us, hl with | [_], _ => rfl) (b__law_is_name (fz c X G) )
theorem d__law_size (c : SaysX P L w K) (X : K.In h) (G : h.Ns mainGlobals mg) (base : Heap) : DefOk P w K mg base 1 "_law_size" 1 fn__law_size := by
  obtain ⟨fd, F⟩ := c.def_ 21
  exact defOk_of F (He.glo_ok X G (c.fact 21)) (⟨rfl, rfl, rfl, by decide +kernel, rfl, by decide +kernel, by decide +kernel⟩ : FnScope N__law_size ["words"] (defScope (top 41))) (fun _ _ _ _ _ _ us hl => match us, hl with | [_], _ => rfl) (b__law_size (fz c X G) )
theorem d__law_row (c : SaysX P L w K) (X : K.In h) (G : h.Ns mainGlobals mg) (base : Heap) : DefOk P w K mg base 1 "_law_row" 2 fn__law_row := by
  obtain ⟨fd, F⟩ := c.def_ 22
  exact defOk_of F (He.glo_ok X G (c.fact 22)) (⟨rfl, rfl, rfl, by decide +kernel, rfl, by decide +kernel, by decide +kernel⟩ : FnScope N__law_row ["names", "words"] (defScope (top 42))) (fun _ _ _ _ _ _ us hl => match us, hl with | [_, _], _ => rfl) (b__law_row (fz c X G) )
theorem d__law_read (c : SaysX P L w K) (X : K.In h) (G : h.Ns mainGlobals mg) (base : Heap) : DefOk P w K mg base 2 "_law_read" 1 fn__law_read := by
  obtain ⟨fd, F⟩ := c.def_ 23
  exact defOk_of F (He.glo_ok X G (c.fact 23)) (⟨rfl, rfl, rfl, by decide +kernel, rfl, by decide +kernel, by decide +kernel⟩ : FnScope N__law_read ["text"] (defScope (top 43))) (fun _ _ _ _ _ _ us hl => match us, hl with | [_], _ => rfl) (b__law_read (fz c X G) (fun base => d__law_is_name c X G base) (fun base => d__law_size c X G base) (fun base => d__law_row c X G base))
theorem d__law_changed (c : SaysX P L w K) (X : K.In h) (G : h.Ns mainGlobals mg) (base : Heap) : DefOk P w K mg base 1 "_law_changed" 3 fn__law_changed := by
  obtain ⟨fd, F⟩ := c.def_ 24
  exact defOk_of F (He.glo_ok X G (c.fact 24)) (⟨rfl, rfl, rfl, by decide +kernel, rfl, by decide +kernel, by decide +kernel⟩ : FnScope N__law_changed ["lines", "draws", "names"] (defScope (top 44))) (fun _ _ _ _ _ _ us hl => match us, hl with | [_, _, _], _ => rfl) (b__law_changed (fz c X G) )
end
abbrev LW : PySem.W.OpenLaw := PySem.Challenge.rw_signsandrests_k75_texts_of_signed_webs
abbrev R : PySem.W.OpenRow := PySem.W.OpenLaw.row LW
abbrev hk : PySem.W.Hook := hookX P 5 L
def ob (s : PySem.W.SharedT) : AlX := obsXG P 5 L (HandSHeadRun.getT s)
def loose : List Str := (P.main.scope.names.filterMap fun (n, k) => if k == .local && n != ("__name__" : Str) && n != ("law" : Str) then some n else none)
open PySem.W PySem.Calls HandSHeadRun in
theorem run0 (w : World) : HandSHeadRun.RunEq R (PySem.W.view R.prog [45]) hk ob 3000 loose w := by
  refine byRow2 "special-get-raises" (P := fun w => HandSHeadRun.RunEq R (PySem.W.view R.prog [45]) hk ob 3000 loose w) (fun w => ?_) (fun w => ?_) w
  · intro os
    kernel_rfl
  · intro os
    kernel_rfl
theorem law_walk {q : Program} {loose : List Str} {XP : (Str → Option Value) → Heap → Prop} (hm : ∀ ns : List Int, ns.length ≤ 63 → (∀ z ∈ ns, Builtin.Int.intBits z ≤ 1048576) → fn_law [.scr ns] = some (.val (.bl true))) :
    PySem.W.WalkO q loose XP (hookX LW.prog 5 L).says LW.row.toRowW (HandSHeadRun.topDef P 45) [] (fun f vs => PySem.call f vs) := by
  refine law_end (l := LW) (n := 63) (k := 10) (x := "script") (fn := fn_law) rfl (by decide) (by kernel_rfl) ⟨rfl, by decide, by decide⟩ (fun w mg K h c X G => ?_) hm
  obtain ⟨fd, F⟩ := c.def_ 25
  exact ⟨_, fd, He.glo_ok X G (c.fact 25), fun s us hl => F.bindsA (ps := ["script"]) (fun _ _ _ _ _ _ us hl => match us, hl with | [_], _ => rfl) s us hl, fun base => fnOk_of (k := 9) F (⟨rfl, rfl, rfl, by decide +kernel, rfl, by decide +kernel, by decide +kernel⟩ : FnScope N_law ["script"] (defScope (top 45))) (b_law (fz c X G) (fun base => d__law_cell c X G base) (fun base => d__law_draws c X G base) (fun base => d__law_same c X G base) (fun base => d__law_names c X G base) (fun base => d__law_listed_signs c X G base) (fun base => d__law_wide_signs c X G base) (fun base => d__law_told c X G base) (fun base => d__law_written c X G base) (fun base => d__law_text c X G base) (fun base => d__law_read c X G base) (fun base => d__law_changed c X G base))⟩
theorem holds_of (hm : ∀ ns : List Int, ns.length ≤ 63 → (∀ z ∈ ns, Builtin.Int.intBits z ≤ 1048576) → fn_law [.scr ns] = some (.val (.bl true))) : PySem.Challenge.rw_signsandrests_k75_texts_of_signed_webs.Holds := by
  w_on; o_law
  refine HandSHeadRun.head_any (r := R) (q := PySem.W.view R.prog [45]) (H := hk) (ob := ob) (M := 3000) (loose := loose) (d := HandSHeadRun.topDef P 45) (kwd := []) (fun s => obsXG_eq (HandSHeadRun.getT_eq s))
    (by kernel_rfl) (fun s => by kernel_rfl) run0 (by kernel_rfl) (by kernel_rfl) (by kernel_rfl) (by rfl) (by first | assumption | decide +kernel) (by decide +kernel) ⟨rfl, rfl, rfl, rfl, rfl, by decide +kernel⟩ ?hw ?hc
  case hw => w_witness2
  case hc => exact law_walk hm
end K75

set_option Elab.async false
set_option linter.all false
set_option maxRecDepth 100000
set_option maxHeartbeats 400000
namespace K75
open PySem PySem.Spec PyProof.Rows L2 DL
/-! ### names -/
def ABC : Str := "abcdefghijklmnopqrstuvwxyz"
def chOk (c : Nat) : Bool := hasS ⟨#[c]⟩ ABC
def nameOk (s : Str) : Bool := decide (1 ≤ s.length ∧ s.length ≤ 8) && s.cps.toList.all chOk
theorem fold_all {α : Type} {p : α → Bool} {e : Ex} : ∀ xs : List α, foldE (fun x (_ : Unit) => if p x = true then .inr () else .inl e) xs () = if xs.all p = true then .inr () else .inl e
  | [] => rfl
  | x :: xs => by
    have ih := fold_all (p := p) (e := e) xs
    cases q : p x with
    | true => simp only [foldE, q, List.all_cons, Bool.true_and, if_true]; exact ih
    | false => simp [foldE, q]
theorem is_name_ok {s : Str} (hz : s.length ≤ sizeLine) : fn_is_name [.str s] = some (.val (.bl (nameOk s))) := by
  show (sm_is_name [some (.str s), none] []).bind endD = _
  unfold sm_is_name
  by_cases c : 1 ≤ s.length ∧ s.length ≤ 8
  · have e1 : decide ((1 : Int) ≤ (s.length : Int)) = true := decide_eq_true (by omega)
    have e2 : decide ((s.length : Int) ≤ 8) = true := decide_eq_true (by omega)
    have en : nameOk s = s.cps.toList.all chOk := by unfold nameOk; rw [decide_eq_true c, Bool.true_and]
    rw [en]
    simp only [m_seq, m_ifS, m_not, m_chain, m_cst, m_bi, m_cons, m_nil, m_var, List.getElem?_cons_zero, bnd_ok, m_consL, bndL_ok, l_str, if_pos hz, vok_some, o_le, e1, e2, m_bndB_ok, if_true, m_bndBS_ok, Bool.not_true, Bool.false_eq_true, if_false, m_next]
    rw [sFor_list (li_str (z := s) rfl)]
    have F := forL_sim (e := fun c : Nat => .str ⟨#[c]⟩) (gx := gxName 1) (body := sb_is_name_1) (R := fun (_ : Unit) ρ h => ∃ v, ρ = [some (.str s), v] ∧ h = []) (f := fun c (_ : Unit) => if chOk c = true then .inr () else .inl (.rt (.val (.bl false)))) (xs := s.cps.toList) (s := ()) (ρ := [some (.str s), none]) (h := [])
      (fun c _ _ ρ h ⟨v, e1, e2⟩ => by
        subst e1 e2
        refine ⟨_, rfl, ?_⟩
        have hc : hasS ⟨#[c]⟩ ("abcdefghijklmnopqrstuvwxyz" : Str) = chOk c := rfl
        cases q : chOk c with
        | true => exact ⟨[some (.str s), some (.str ⟨#[c]⟩)], [], .inl (by simp [sb_is_name_1, hc, q]), _, rfl, rfl⟩
        | false => exact ⟨_, by simp [sb_is_name_1, hc, q, retD, deepD, depthD], rfl⟩) ⟨none, rfl, rfl⟩
    rw [fold_all] at F
    cases q : s.cps.toList.all chOk with
    | true => rw [q] at F; obtain ⟨ρ', h', e, _⟩ := F; rw [e]; rfl
    | false => rw [q] at F; obtain ⟨o, e, rfl⟩ := F; rw [e]; rfl
  · have en : nameOk s = false := by unfold nameOk; rw [decide_eq_false c, Bool.false_and]
    rw [en]
    by_cases c1 : 1 ≤ s.length
    · have c2 : ¬ s.length ≤ 8 := fun z => c ⟨c1, z⟩
      have e1 : decide ((1 : Int) ≤ (s.length : Int)) = true := decide_eq_true (by omega)
      have e2 : decide ((s.length : Int) ≤ 8) = false := decide_eq_false (by omega)
      simp [hz, e1, e2, retD, deepD, depthD, endD]
    · have e1 : decide ((1 : Int) ≤ (s.length : Int)) = false := decide_eq_false (by omega)
      simp [hz, e1, retD, deepD, depthD, endD]
end K75

set_option Elab.async false
set_option linter.all false
set_option maxRecDepth 100000
set_option maxHeartbeats 1000000
namespace K75
open PySem PySem.Spec PyProof.Rows L2 DL TL
@[simp] theorem atI_zero {α : Type} {x : α} {xs : List α} : atI (x :: xs) 0 = some x := atI_nat (k := 0) rfl rfl
@[simp] theorem atI_one {α : Type} {x y : α} {xs : List α} : atI (x :: y :: xs) 1 = some y := atI_nat (k := 1) rfl rfl
/-! ### the head line -/
def sizesS : List Str := (List.range 12).map fun i => numS (1 + i)
theorem sizes_ok {L : Lx} {a b : Option D} {h : List Cell} (hL : L [a, b] h = some (.ok [.int 1, .int 13])) : sComp [1] (iRange2 L) (gxName 1) sYes (sBi .str (sCons (sVar 1) sNil)) [a, b] h = some (.ok (.lst (sizesS.map .str))) := by
  refine sComp_list (xs := rngL 1 12) (li_range2 (i := 1) (j := 13) hL (by decide) (by decide) (by decide) (by decide)) (by rw [rngL_len, sizeLine_eq]; decide) ?_
  unfold sizesS rngL
  rw [List.map_map]
  refine comL_map fun i hi => ⟨_, rfl, rfl, ?_⟩
  have hi2 : i < 12 := List.mem_range.mp hi
  have e : (1 : Int) + (i : Int) = ((1 + i : Nat) : Int) := by omega
  have hl : (1 + (i : Int)).natAbs.log2 < 1920 := by
    rw [show (1 + (i : Int)).natAbs = 1 + i by omega]
    exact Nat.lt_of_le_of_lt (Nat.log2_le_self _) (by omega)
  simp [numS, hl]
def countOf (ws : List Str) : Sum Nat Nat := match ws with
  | [] => .inl 0
  | w :: r => if w = ("signs" : Str) then (match r with
    | [] => .inl 1
    | z :: r2 => (match sizesS.findIdx? (fun y => decide (y = z)) with
      | none => .inl 1
      | some i => if r2 = [] then .inr (i + 1) else .inl 2)) else .inl 0
theorem sizes_int {i : Nat} {z : Str} (h : sizesS[i]? = some z) : z.length ≤ 640 ∧ intText? z = some ((i + 1 : Nat) : Int) := by
  unfold sizesS at h
  rw [List.getElem?_map] at h
  obtain ⟨j, h1, h2⟩ := Option.map_eq_some_iff.mp h
  have hj : i < 12 := by
    have := (List.getElem?_eq_some_iff.mp h1).1
    simpa using this
  rw [List.getElem?_range hj] at h1
  cases Option.some.inj h1
  subst h2
  have hl : (numL (1 + i)).length ≤ 3 := numL_len (by decide) (by omega)
  refine ⟨by rw [len_tl, tl_numS]; omega, ?_⟩
  have := int_num (n := 1 + i) (by omega)
  rw [Nat.add_comm] at this ⊢
  rw [Nat.add_comm 1 i] at *
  exact this
theorem find_none {z : Str} {ss : List Str} (h : z ∉ ss) : ss.findIdx? (fun y => decide (y = z)) = none := by
  rw [List.findIdx?_eq_none_iff]
  intro y hy
  exact decide_eq_false fun e => h (e ▸ hy)
theorem count_of_ok {ws : List Str} (hne : ws ≠ []) : fn_count_of [.lst (ws.map .str)] = some (match countOf ws with | .inl k => .exc "BadText" [("word", .int k), ("line", .int 1)] | .inr n => .val (.int n)) := by
  cases ws with
  | nil => exact absurd rfl hne
  | cons w r =>
    show (sm_count_of [some (.lst ((w :: r).map .str)), none] []).bind endD = _
    unfold sm_count_of
    have hs : ∀ a b : Option D, sComp [1] (iRange2 (sCons (sCst (.int 1)) (sCons (sBin .Add (sCst (.int 12)) (sCst (.int 1))) sNil))) (gxName 1) sYes se_count_of_1 [a, b] [] = some (.ok (.lst (sizesS.map .str))) := fun a b => sizes_ok rfl
    by_cases hw : w = ("signs" : Str)
    · subst hw
      cases r with
      | nil => simp [countOf, endD, noRefs, noRef]
      | cons z r2 =>
        have l1 : ((r2.length : Int) + 1 + 1 = 1) = False := by simp; omega
        by_cases hz : z ∈ sizesS
        · obtain ⟨i, h1, h2, h3⟩ := findIdx_mem hz
          obtain ⟨h4, h5⟩ := sizes_int h2
          cases r2 with
          | nil => simp [countOf, h1, hs, o_nin_str (d := .lst (sizesS.map .str)) rfl, hz, h4, h5, endD, retD, deepD, depthD]
          | cons q r3 =>
            have k1 : ¬ ((r3.length : Int) + 1 + 1 + 1 = 1) := by omega
            have k2 : (2 : Int) < (r3.length : Int) + 1 + 1 + 1 := by omega
            simp [countOf, h1, hs, o_nin_str (d := .lst (sizesS.map .str)) rfl, hz, endD, noRefs, noRef, k1, k2]
        · by_cases k1 : (r2.length : Int) + 1 + 1 = 1
          · omega
          · simp [countOf, hs, o_nin_str (d := .lst (sizesS.map .str)) rfl, hz, find_none hz, endD, noRefs, noRef, k1]
    · simp [countOf, hw, endD, noRefs, noRef]
end K75

set_option Elab.async false
set_option linter.all false
set_option maxRecDepth 100000
set_option maxHeartbeats 1000000
namespace K75
open PySem PySem.Spec PyProof.Rows L2 DL TL
theorem law_size_ok {ws : List Str} (hne : ws ≠ []) : fn__law_size [.lst (ws.map .str)] = some (.val (match countOf ws with | .inl k => .tup [.str "bad", .int k] | .inr n => .tup [.str "good", .int n])) := by
  cases ws with
  | nil => exact absurd rfl hne
  | cons w r =>
    show (sm__law_size [some (.lst ((w :: r).map .str)), none] []).bind endD = _
    unfold sm__law_size
    have hs1 : ∀ a b : Option D, sComp [1] (iRange2 (sCons (sCst (.int 1)) (sCons (sCst (.int 13)) sNil))) (gxName 1) sYes se__law_size_1 [a, b] [] = some (.ok (.lst (sizesS.map .str))) := fun a b => sizes_ok rfl
    have hs2 : ∀ a b : Option D, sComp [1] (iRange2 (sCons (sCst (.int 1)) (sCons (sCst (.int 13)) sNil))) (gxName 1) sYes se__law_size_2 [a, b] [] = some (.ok (.lst (sizesS.map .str))) := fun a b => sizes_ok rfl
    by_cases hw : w = ("signs" : Str)
    · subst hw
      cases r with
      | nil => simp [countOf, okLen, sizeLine_eq, endD, retD, deepD, depthD]
      | cons z r2 =>
        by_cases hz : z ∈ sizesS
        · obtain ⟨i, h1, h2, h3⟩ := findIdx_mem hz
          have k0 : ¬ ((r2.length : Int) + 1 + 1 < 2) := by omega
          cases r2 with
          | nil => simp [countOf, h1, hs1, hs2, o_nin_str (d := .lst (sizesS.map .str)) rfl, hz, onLst, gIndex_str, okLen, sizeLine_eq, endD, retD, deepD, depthD]
          | cons q r3 =>
            have k1 : ¬ ((r3.length : Int) + 1 + 1 + 1 < 2) := by omega
            have k2 : (2 : Int) < (r3.length : Int) + 1 + 1 + 1 := by omega
            simp [countOf, h1, hs1, hs2, o_nin_str (d := .lst (sizesS.map .str)) rfl, hz, k1, k2, okLen, sizeLine_eq, endD, retD, deepD, depthD]
        · have k1 : ¬ ((r2.length : Int) + 1 + 1 < 2) := by omega
          simp [countOf, hs1, o_nin_str (d := .lst (sizesS.map .str)) rfl, hz, find_none hz, k1, okLen, sizeLine_eq, endD, retD, deepD, depthD]
    · simp [countOf, hw, okLen, sizeLine_eq, endD, retD, deepD, depthD]
theorem law_is_name_ok {s : Str} (hz : s.length ≤ sizeLine) : fn__law_is_name [.str s] = some (.val (.bl (nameOk s))) := by
  show (sm__law_is_name [some (.str s), none] []).bind endD = _
  unfold sm__law_is_name
  have hc : sComp [1] (iData (sVar 0)) (gxName 1) st__law_is_name_1 (sVar 1) [some (.str s), none] [] = some (.ok (.lst ((s.cps.toList.filter fun c => !chOk c).map fun c => .str ⟨#[c]⟩))) := by
    refine sComp_list (xs := s.cps.toList.map fun c => .str ⟨#[c]⟩) (li_str rfl) (by simpa [Str.length] using hz) ?_
    exact comL_filter fun c _ => ⟨_, rfl, rfl, fun _ => rfl⟩
  by_cases c1 : s.length < 1
  · have en : nameOk s = false := by unfold nameOk; rw [decide_eq_false (by omega), Bool.false_and]
    have k1 : (s.length : Int) < 1 := by omega
    simp [hz, en, k1, endD, retD, deepD, depthD]
  · have k1 : ¬ (s.length : Int) < 1 := by omega
    by_cases c2 : 8 < s.length
    · have en : nameOk s = false := by unfold nameOk; rw [decide_eq_false (by omega), Bool.false_and]
      have k2 : (8 : Int) < (s.length : Int) := by omega
      simp [hz, en, k1, k2, endD, retD, deepD, depthD]
    · have k2 : ¬ (8 : Int) < (s.length : Int) := by omega
      have en : nameOk s = s.cps.toList.all chOk := by unfold nameOk; rw [decide_eq_true (by omega), Bool.true_and]
      have ef : (s.cps.toList.filter fun c => !chOk c).isEmpty = s.cps.toList.all chOk := by
        rw [Bool.eq_iff_iff, List.isEmpty_iff, List.filter_eq_nil_iff, List.all_eq_true]
        simp
      rw [en, ← ef]
      simp [hz, k1, k2, hc, endD, retD, deepD, depthD]
/-! ### names of the lines -/
def nameStep (w : Str) (i : Nat) (names : List Str) : Sum Nat (List Str) := if nameOk w = true ∧ w ∉ names then .inr (names ++ [w]) else .inl i
def namesOf : List Str → Nat → List Str → Sum Nat (List Str)
  | [], _, names => .inr names
  | w :: ws, i, names => match nameStep w i names with
    | .inl k => .inl k
    | .inr names => namesOf ws (i + 1) names
def excAt (line word : Nat) : Ex := .exc "BadText" [("word", .int word), ("line", .int line)]
theorem fold_names : ∀ (wss : List (List Str)) (i : Nat) (names : List Str), foldE (fun (p : List Str × Nat) names => match nameStep (p.1.headD Str.empty) p.2 names with | .inl k => .inl (excAt (k + 2) 0) | .inr s => .inr s) (wss.zipIdx i) names =
    (match namesOf (wss.map fun ws => ws.headD Str.empty) i names with | .inl k => .inl (excAt (k + 2) 0) | .inr s => .inr s)
  | [], _, _ => rfl
  | ws :: wss, i, names => by
    rw [List.zipIdx_cons]
    simp only [foldE, List.map_cons, namesOf]
    cases nameStep (ws.headD Str.empty) i names with
    | inl k => rfl
    | inr s => exact fold_names wss (i + 1) s
def encW (ws : List Str) : D := .lst (ws.map .str)
theorem read_names_ok {wss : List (List Str)} (hne : ∀ ws ∈ wss, ws ≠ []) (hz : ∀ ws ∈ wss, ∀ w ∈ ws, w.length ≤ sizeLine) (hl : wss.length < sizeLine) :
    fn_read_names [.lst (wss.map encW)] = some (match namesOf (wss.map fun ws => ws.headD Str.empty) 0 [] with | .inl k => .exc "BadText" [("word", .int 0), ("line", .int ((k + 2 : Nat) : Int))] | .inr names => .lstF (names.map .str)) := by
  show (sm_read_names [some (.lst (wss.map encW)), none, none, none] []).bind endD = _
  unfold sm_read_names
  simp only [m_seq, m_set, m_mLst, m_nNil, m_bndNM_ok, ownM, List.length_nil, Nat.zero_le, if_true, m_bndS_ok, List.nil_append, List.set_cons_succ, List.set_cons_zero]
  rw [sFor_list (li_enumE (xs := wss) (enc := encW) rfl)]
  have F := forL_simN (e := fun p : List Str × Nat => .tup [.int (p.2 : Nat), encW p.1]) (gx := gxTup 2 (gxCons (gxName 2) (gxCons (gxName 3) gxNil))) (body := sb_read_names_1)
    (R := fun n (names : List Str) ρ h => ∃ v2 v3, ρ = [some (.lst (wss.map encW)), some (.ref 0), v2, v3] ∧ h = [.lst (names.map .str)] ∧ names.length + n = wss.length)
    (f := fun (p : List Str × Nat) names => match nameStep (p.1.headD Str.empty) p.2 names with | .inl k => .inl (excAt (k + 2) 0) | .inr s => .inr s)
    (xs := wss.zipIdx) (s := []) (ρ := [some (.lst (wss.map encW)), some (.ref 0), none, none]) (h := [.lst []])
    (fun p hp n names ρ h ⟨v2, v3, e1, e2, e3⟩ => by
      subst e1 e2
      obtain ⟨ws, i⟩ := p
      have hm : ws ∈ wss := by
        have := List.mem_zipIdx hp
        exact this.2.2 ▸ List.getElem_mem _
      refine ⟨_, rfl, ?_⟩
      cases ws with
      | nil => exact absurd rfl (hne _ hm)
      | cons w r =>
        have hw := hz _ hm w List.mem_cons_self
        have hn : ∀ h : List Cell, appF fn_is_name h [.str w] = some (.ok (.bl (nameOk w))) := fun h => app_val rfl (is_name_ok hw)
        have hin : ∀ c : List D, cmpD .In [.lst (names.map .str)] (.str w) (.ref 0) = some (.bl (decide (w ∈ names))) := fun _ => o_in_str (seqD_ref rfl)
        have ha : mutEnd .append (.ref 0) [.str w] [.lst (names.map .str)] = some (.ok .non [.lst ((names ++ [w]).map .str)]) := by
          rw [u_append (xs := names.map .str) rfl (by rw [List.length_map]; omega)]
          simp
        show TurnS _ _ _ _ (match nameStep w i names with | .inl k => .inl (excAt (k + 2) 0) | .inr s => .inr s)
        unfold nameStep
        by_cases c : nameOk w = true
        · by_cases c2 : w ∈ names
          · rw [if_neg (fun z => z.2 c2)]
            simp [TurnS, Ex.is, excAt, sb_read_names_1, encW, hn, hin [], c, c2]
          · rw [if_pos ⟨c, c2⟩]
            refine ⟨[some (.lst (wss.map encW)), some (.ref 0), some (.int i), some (encW (w :: r))], [.lst ((names ++ [w]).map .str)], .inl ?_, _, _, rfl, rfl, by simp; omega⟩
            simp [sb_read_names_1, encW, hn, hin [], c, c2, ha]
        · rw [if_neg (fun z => c z.1)]
          simp [TurnS, Ex.is, excAt, sb_read_names_1, encW, hn, c]) ⟨none, none, rfl, rfl, by simp⟩
  rw [fold_names] at F
  cases q : namesOf (wss.map fun ws => ws.headD Str.empty) 0 [] with
  | inl k =>
    rw [q] at F
    obtain ⟨o, e, a, b, rfl⟩ := F
    rw [e]
    simp [endD, noRefs, noRef]
  | inr names =>
    rw [q] at F
    obtain ⟨ρ', h', e, v2, v3, rfl, rfl, _⟩ := F
    rw [e]
    have hr : retD [.lst (names.map .str)] (.ref 0) = some (.rt (.lstF (names.map .str))) := ret_ref rfl (noRefs_strs _) (Nat.lt_of_le_of_lt (depl_strs _) (by decide))
    simp [hr, endD]
end K75

set_option Elab.async false
set_option linter.all false
set_option maxRecDepth 100000
set_option maxHeartbeats 1000000
namespace K75
open PySem PySem.Spec PyProof.Rows L2 DL TL
theorem rngL_zip {α : Type} : ∀ (xs : List α) (k : Nat), rngL (k : Int) xs.length = (xs.zipIdx k).map fun p => .int (p.2 : Nat)
  | [], _ => rfl
  | x :: xs, k => by
    have ih := rngL_zip xs (k + 1)
    show rngL (k : Int) (xs.length + 1) = _
    rw [rngL_succ, List.zipIdx_cons, List.map_cons, ← ih]
    rfl
theorem zip_mem {α : Type} {xs : List α} {k : Nat} {p : α × Nat} (h : p ∈ xs.zipIdx k) : k ≤ p.2 ∧ xs[p.2 - k]? = some p.1 := by
  obtain ⟨x, i⟩ := p
  have := List.mem_zipIdx h
  refine ⟨this.1, ?_⟩
  have h2 := this.2.2
  rw [List.getElem?_eq_getElem (by have := this.2.1; omega)]
  exact congrArg some h2.symm
/-! ### one row -/
def sgn (m : Str) : Option Int := if m = ("+" : Str) then some 1 else if m = ("-" : Str) then some (-1) else if m = ("?" : Str) then some 0 else none
def lastOf (s : List (Nat × Int)) : Int := match s.getLast? with
  | none => -1
  | some p => p.1
def mkO (w : Str) : Str := cutS w none (some 1)
def nmO (w : Str) : Str := cutS w (some 1) none
def rowStep (names : List Str) (w : Str) (i : Nat) (s : List (Nat × Int)) : Sum Nat (List (Nat × Int)) := match sgn (mkO w), names.findIdx? (fun y => decide (y = nmO w)) with
  | some g, some j => if s.length = 4 ∨ (j : Int) ≤ lastOf s then .inl i else .inr (s ++ [(j, g)])
  | _, _ => .inl i
def rowOf (names : List Str) : List Str → Nat → List (Nat × Int) → Sum Nat (List (Nat × Int))
  | [], _, s => .inr s
  | w :: ws, i, s => match rowStep names w i s with
    | .inl k => .inl k
    | .inr s => rowOf names ws (i + 1) s
theorem fold_row {names : List Str} {ex : Nat → Ex} : ∀ (ws : List Str) (i : Nat) (s : List (Nat × Int)), foldE (fun (p : Str × Nat) s => match rowStep names p.1 p.2 s with | .inl k => .inl (ex k) | .inr s => .inr s) (ws.zipIdx i) s =
    (match rowOf names ws i s with | .inl k => .inl (ex k) | .inr s => .inr s)
  | [], _, _ => rfl
  | w :: ws, i, s => by
    rw [List.zipIdx_cons]
    simp only [foldE, rowOf]
    cases rowStep names w i s with
    | inl k => rfl
    | inr s => exact fold_row ws (i + 1) s
def encH (p : Nat × Int) : D := .tup [.int p.1, .int p.2]
theorem look_sgn (m : Str) : lookK kd_SIGNS (.inr m) = (sgn m).map .int := by
  unfold lookK kd_SIGNS sgn
  by_cases h1 : m = ("+" : Str)
  · subst h1; rfl
  · by_cases h2 : m = ("-" : Str)
    · subst h2; rfl
    · by_cases h3 : m = ("?" : Str)
      · subst h3; rfl
      · have e : ∀ z : Str, m ≠ z → decide ((Sum.inr z : Key) = Sum.inr m) = false := fun z hz => decide_eq_false fun q => hz (Sum.inr.inj q).symm
        simp only [List.find?_cons, e _ h1, e _ h2, e _ h3, List.find?_nil, Option.map_none, if_neg h1, if_neg h2, if_neg h3]
theorem find_some {z : Str} {ss : List Str} {j : Nat} (h : ss.findIdx? (fun y => decide (y = z)) = some j) : z ∈ ss ∧ j < ss.length := by
  have h2 := List.findIdx?_eq_some_iff_getElem.mp h
  obtain ⟨h3, h4, _⟩ := h2
  exact ⟨by rw [← of_decide_eq_true h4]; exact List.getElem_mem h3, h3⟩
theorem find_none_iff {z : Str} {ss : List Str} (h : ss.findIdx? (fun y => decide (y = z)) = none) : z ∉ ss := fun hm => by
  obtain ⟨i, h1, _⟩ := findIdx_mem hm
  rw [h] at h1; cases h1
theorem lastOf_push {s : List (Nat × Int)} {j : Nat} {g : Int} : lastOf (s ++ [(j, g)]) = j := by
  unfold lastOf
  rw [List.getLast?_append]; rfl
theorem rowStep_len {names : List Str} {w : Str} {i : Nat} {s s' : List (Nat × Int)} (hs : s.length ≤ 4) (h : rowStep names w i s = .inr s') : s'.length ≤ 4 := by
  unfold rowStep at h
  split at h
  · split at h
    · cases h
    · rename_i hc
      cases h
      have : s.length ≠ 4 := fun z => hc (.inl z)
      simp; omega
  · cases h
theorem read_signed_ok {names words : List Str} {line : Int} (hne : words ≠ []) (hz : ∀ w ∈ words, w.length ≤ sizeLine) (hl : words.length ≤ sizeLine) :
    fn_read_signed [.lst (names.map .str), encW words, .int line] = some (match rowOf names words.tail 1 [] with | .inl k => .exc "BadText" [("word", .int (k : Nat)), ("line", .int line)] | .inr s => .val (.tup (s.map encH))) := by
  show (sm_read_signed [some (.lst (names.map .str)), some (encW words), some (.int line), none, none, none, none, none] []).bind endD = _
  unfold sm_read_signed
  have i1 : ∀ a b c : Option D, sSet 3 (mLst nNil) [a, b, c, none, none, none, none, none] [] = some (.nx [a, b, c, some (.ref 0), none, none, none, none] [.lst []]) := fun a b c => by
    simp [ownM]
  have i2 : ∀ a b c : Option D, sSet 4 (liftM (sUn .USub (sCst (.int 1)))) [a, b, c, some (.ref 0), none, none, none, none] [.lst []] = some (.nx [a, b, c, some (.ref 0), some (.int (-1)), none, none, none] [.lst []]) := fun a b c => by
    simp
  rw [m_seq, i1]
  dsimp only
  rw [m_seq, i2]
  dsimp only
  rw [m_seq]
  have hlen : words.length = words.tail.length + 1 := by cases words with
    | nil => exact absurd rfl hne
    | cons w r => simp
  have hr : listI (iRange2 (sCons (sCst (.int 1)) (sCons (sBi .len (sCons (sVar 1) sNil)) sNil)) [some (.lst (names.map .str)), some (encW words), some (.int line), some (.ref 0), some (.int (-1)), none, none, none] [.lst []]) (some ((words.tail.zipIdx 1).map fun p => .int (p.2 : Nat))) := by
    have := li_range2 (l := sCons (sCst (.int 1)) (sCons (sBi .len (sCons (sVar 1) sNil)) sNil)) (ρ := [some (.lst (names.map .str)), some (encW words), some (.int line), some (.ref 0), some (.int (-1)), none, none, none]) (h := [.lst []]) (i := 1) (j := (words.length : Int)) (by simp [encW]) (neg62 1) (small62 (n := 1) (by rw [sizeLine_eq]; decide)) (neg62 _) (small62 hl)
    rw [← rngL_zip words.tail 1]
    have e : ((words.length : Int) - 1).toNat = words.tail.length := by omega
    rw [e] at this
    exact this
  rw [sFor_list hr]
  have F := forL_simN (e := fun p : Str × Nat => .int (p.2 : Nat)) (gx := gxName 5) (body := sb_read_signed_1)
    (R := fun n (s : List (Nat × Int)) ρ h => ∃ v5 v6 v7, ρ = [some (.lst (names.map .str)), some (encW words), some (.int line), some (.ref 0), some (.int (lastOf s)), v5, v6, v7] ∧ h = [.lst (s.map encH)] ∧ s.length ≤ 4)
    (f := fun (p : Str × Nat) s => match rowStep names p.1 p.2 s with | .inl k => .inl (.exc "BadText" [("word", .int (k : Nat)), ("line", .int line)]) | .inr s => .inr s)
    (xs := words.tail.zipIdx 1) (s := []) (ρ := [some (.lst (names.map .str)), some (encW words), some (.int line), some (.ref 0), some (.int (-1)), none, none, none]) (h := [.lst []])
    (fun p hp n s ρ h ⟨v5, v6, v7, e1, e2, e3⟩ => by
      subst e1 e2
      obtain ⟨w, i⟩ := p
      obtain ⟨hi, hg⟩ := zip_mem hp
      have hg2 : words[i]? = some w := by
        cases words with
        | nil => exact absurd rfl hne
        | cons a r =>
          have hi' : i = (i - 1) + 1 := by have : 1 ≤ i := hi; omega
          rw [hi', List.getElem?_cons_succ]
          simpa using hg
      have hw := hz w (List.mem_of_getElem? hg2)
      have hx : ∀ h : List Cell, ixD h (encW words) (.int (i : Int)) = some (.str w) := fun h => by
        show atI (words.map D.str) (i : Int) = _
        exact atI_nat (k := i) (by rw [List.getElem?_map, hg2]; rfl) rfl
      have h5 : gIndex [.lst (s.map encH)] (names.map .str) (.str (nmO w)) = (names.findIdx? fun y => decide (y = nmO w)).map fun (j : Nat) => .int j := gIndex_str
      have hnin : cmpD .NotIn [.lst (s.map encH)] (.str (nmO w)) (.lst (names.map .str)) = some (.bl (!decide (nmO w ∈ names))) := o_nin_str rfl
      have hs1 : slD [.lst (s.map encH)] (.str w) none (some 1) = some (.str (mkO w)) := by
        show (if w.length ≤ sizeLine then _ else _) = _
        rw [if_pos hw]; rfl
      have hs2 : slD [.lst (s.map encH)] (.str w) (some 1) none = some (.str (nmO w)) := by
        show (if w.length ≤ sizeLine then _ else _) = _
        rw [if_pos hw]; rfl
      have hlen2 : biD .len [.lst (s.map encH)] [.ref 0] = some (.int s.length) := by rw [l_ref (xs := s.map encH) rfl, List.length_map]
      have hap : ∀ (j : Nat) (g : Int), mutEnd .append (.ref 0) [.tup [.int j, .int g]] [.lst (s.map encH)] = some (.ok .non [.lst ((s ++ [(j, g)]).map encH)]) := fun j g => by
        rw [u_append (xs := s.map encH) rfl (by rw [List.length_map, sizeLine_eq]; omega)]
        simp [encH]
      refine ⟨_, rfl, ?_⟩
      show TurnS _ _ _ _ (match rowStep names w i s with | .inl k => .inl (.exc "BadText" [("word", .int (k : Nat)), ("line", .int line)]) | .inr s => .inr s)
      have hk : lookK kd_SIGNS (.inr (mkO w)) = (sgn (mkO w)).map .int := look_sgn _
      unfold rowStep
      cases q1 : sgn (mkO w) with
      | none =>
        rw [q1] at hk
        simp [TurnS, Ex.is, sb_read_signed_1, hx, hs1, hs2, keyD, hk]
      | some g =>
        rw [q1] at hk
        cases q2 : names.findIdx? (fun y => decide (y = nmO w)) with
        | none =>
          have hm := find_none_iff q2
          rw [q2] at h5
          simp [TurnS, Ex.is, sb_read_signed_1, hx, hs1, hs2, keyD, hk, hnin, hm]
        | some j =>
          obtain ⟨hm, _⟩ := find_some q2
          rw [q2] at h5
          by_cases c1 : s.length = 4
          · have c1' : (s.length : Int) = 4 := by omega
            simp [TurnS, Ex.is, sb_read_signed_1, hx, hs1, hs2, keyD, hk, hnin, hm, hlen2, c1, c1']
          · have c1' : ¬ (s.length : Int) = 4 := by omega
            by_cases c2 : (j : Int) ≤ lastOf s
            · simp [TurnS, Ex.is, sb_read_signed_1, hx, hs1, hs2, keyD, hk, hnin, hm, hlen2, c1, c1', onLst, h5, c2]
            · have e4 : (if s.length = 4 ∨ (j : Int) ≤ lastOf s then Sum.inl i else Sum.inr (s ++ [(j, g)])) = (Sum.inr (s ++ [(j, g)]) : Sum Nat (List (Nat × Int))) := if_neg (by rintro (z | z); exact c1 z; exact c2 z)
              dsimp only
              rw [e4]
              refine ⟨[some (.lst (names.map .str)), some (encW words), some (.int line), some (.ref 0), some (.int (lastOf (s ++ [(j, g)]))), some (.int i), some (.str (mkO w)), some (.str (nmO w))], [.lst ((s ++ [(j, g)]).map encH)], .inl ?_, _, _, _, rfl, rfl, by simp; omega⟩
              rw [lastOf_push]
              simp [sb_read_signed_1, hx, hs1, hs2, keyD, hk, hnin, hm, hlen2, c1, c1', onLst, h5, c2, hap, okLen, sizeLine_eq]) ⟨none, none, none, rfl, rfl, by simp⟩
  rw [fold_row] at F
  cases q : rowOf names words.tail 1 [] with
  | inl k =>
    rw [q] at F
    obtain ⟨o, e, a, b, rfl⟩ := F
    rw [e]
    simp [endD]
  | inr s =>
    rw [q] at F
    obtain ⟨ρ', h', e, v5, v6, v7, rfl, rfl, _⟩ := F
    rw [e]
    have hr : ∀ h : List Cell, retD h (.tup (s.map encH)) = some (.rt (.val (.tup (s.map encH)))) := fun h => ret_val (noRefs_map (fun _ => rfl) s) (Nat.lt_of_le_of_lt (Nat.succ_le_succ (depl_map (k := 1) (fun p => by simp [encH, dep, depl]) s)) (by decide))
    have ht : biD .tuple [.lst (s.map encH)] [.ref 0] = some (.tup (s.map encH)) := l_tuple_r rfl
    simp [ht, hr, endD]
end K75

set_option Elab.async false
set_option linter.all false
set_option maxRecDepth 100000
set_option maxHeartbeats 1000000
namespace K75
open PySem PySem.Spec PyProof.Rows L2 DL TL
theorem sgn_in (m : Str) : decide (m ∈ [("+" : Str), "-", "?"]) = (sgn m).isSome := by
  unfold sgn
  by_cases h1 : m = ("+" : Str)
  · subst h1; rfl
  · by_cases h2 : m = ("-" : Str)
    · subst h2; rfl
    · by_cases h3 : m = ("?" : Str)
      · subst h3; rfl
      · simp [h1, h2, h3]
theorem sgn_ix {m : Str} {g : Int} (h : sgn m = some g) : ∃ i : Nat, ([("+" : Str), "-", "?"].findIdx? fun y => decide (y = m)) = some i ∧ atI [D.int 1, D.int (-1), D.int 0] (i : Int) = some (.int g) := by
  unfold sgn at h
  by_cases h1 : m = ("+" : Str)
  · subst h1
    rw [if_pos rfl] at h
    cases h
    exact ⟨0, by decide +kernel, rfl⟩
  · rw [if_neg h1] at h
    by_cases h2 : m = ("-" : Str)
    · subst h2
      rw [if_pos rfl] at h
      cases h
      exact ⟨1, by decide +kernel, rfl⟩
    · rw [if_neg h2] at h
      by_cases h3 : m = ("?" : Str)
      · subst h3
        rw [if_pos rfl] at h
        cases h
        exact ⟨2, by decide +kernel, rfl⟩
      · rw [if_neg h3] at h; cases h
theorem lastOf_ix {s : List (Nat × Int)} (hs : s ≠ []) : ∃ j : Nat, ∃ g : Int, ixD [.lst (s.map encH)] (.ref 0) (.int (-1)) = some (encH (j, g)) ∧ lastOf s = j := by
  obtain ⟨s', p, rfl⟩ : ∃ s' p, s = s' ++ [p] := ⟨s.dropLast, s.getLast hs, (List.dropLast_concat_getLast hs).symm⟩
  obtain ⟨j, g⟩ := p
  refine ⟨j, g, ?_, lastOf_push⟩
  rw [x_ref (xs := (s' ++ [(j, g)]).map encH) rfl]
  refine atI_neg (k := 1) ?_ (by decide) (by simp) rfl
  simp
theorem law_row_ok {names words : List Str} (hne : words ≠ []) (hz : ∀ w ∈ words, w.length ≤ sizeLine) (hl : words.length ≤ sizeLine) :
    fn__law_row [.lst (names.map .str), encW words] = some (.val (match rowOf names words.tail 1 [] with | .inl k => .tup [.str "bad", .int (k : Nat)] | .inr s => .tup [.str "good", .tup (s.map encH)])) := by
  show (sm__law_row [some (.lst (names.map .str)), some (encW words), none, none, none] []).bind endD = _
  unfold sm__law_row
  have i1 : ∀ a b : Option D, sSet 2 (mLst nNil) [a, b, none, none, none] [] = some (.nx [a, b, some (.ref 0), none, none] [.lst []]) := fun a b => by
    simp [ownM]
  rw [m_seq, i1]
  dsimp only
  rw [m_seq]
  have hlen : words.length = words.tail.length + 1 := by cases words with
    | nil => exact absurd rfl hne
    | cons w r => simp
  have hr : listI (iRange2 (sCons (sCst (.int 1)) (sCons (sBi .len (sCons (sVar 1) sNil)) sNil)) [some (.lst (names.map .str)), some (encW words), some (.ref 0), none, none] [.lst []]) (some ((words.tail.zipIdx 1).map fun p => .int (p.2 : Nat))) := by
    have := li_range2 (l := sCons (sCst (.int 1)) (sCons (sBi .len (sCons (sVar 1) sNil)) sNil)) (ρ := [some (.lst (names.map .str)), some (encW words), some (.ref 0), none, none]) (h := [.lst []]) (i := 1) (j := (words.length : Int)) (by simp [encW]) (neg62 1) (small62 (n := 1) (by rw [sizeLine_eq]; decide)) (neg62 _) (small62 hl)
    rw [← rngL_zip words.tail 1]
    have e : ((words.length : Int) - 1).toNat = words.tail.length := by omega
    rw [e] at this
    exact this
  rw [sFor_list hr]
  have F := forL_simN (e := fun p : Str × Nat => .int (p.2 : Nat)) (gx := gxName 3) (body := sb__law_row_1)
    (R := fun n (s : List (Nat × Int)) ρ h => ∃ v3 v4, ρ = [some (.lst (names.map .str)), some (encW words), some (.ref 0), v3, v4] ∧ h = [.lst (s.map encH)] ∧ s.length ≤ 4)
    (f := fun (p : Str × Nat) s => match rowStep names p.1 p.2 s with | .inl k => .inl (.rt (.val (.tup [.str "bad", .int (k : Nat)]))) | .inr s => .inr s)
    (xs := words.tail.zipIdx 1) (s := []) (ρ := [some (.lst (names.map .str)), some (encW words), some (.ref 0), none, none]) (h := [.lst []])
    (fun p hp n s ρ h ⟨v3, v4, e1, e2, e3⟩ => by
      subst e1 e2
      obtain ⟨w, i⟩ := p
      obtain ⟨hi, hg⟩ := zip_mem hp
      have hg2 : words[i]? = some w := by
        cases words with
        | nil => exact absurd rfl hne
        | cons a r =>
          have hi' : i = (i - 1) + 1 := by have : 1 ≤ i := hi; omega
          rw [hi', List.getElem?_cons_succ]
          simpa using hg
      have hw := hz w (List.mem_of_getElem? hg2)
      have hx : ∀ h : List Cell, ixD h (encW words) (.int (i : Int)) = some (.str w) := fun h => by
        show atI (words.map D.str) (i : Int) = _
        exact atI_nat (k := i) (by rw [List.getElem?_map, hg2]; rfl) rfl
      have h5 : gIndex [.lst (s.map encH)] (names.map .str) (.str (nmO w)) = (names.findIdx? fun y => decide (y = nmO w)).map fun (j : Nat) => .int j := gIndex_str
      have h6 : gIndex [.lst (s.map encH)] [.str "+", .str "-", .str "?"] (.str (mkO w)) = ([("+" : Str), "-", "?"].findIdx? fun y => decide (y = mkO w)).map fun (j : Nat) => .int j := gIndex_str (ss := ["+", "-", "?"])
      have hnin : cmpD .NotIn [.lst (s.map encH)] (.str (nmO w)) (.lst (names.map .str)) = some (.bl (!decide (nmO w ∈ names))) := o_nin_str rfl
      have hmin : cmpD .NotIn [.lst (s.map encH)] (.str (mkO w)) (.tup [.str "+", .str "-", .str "?"]) = some (.bl (!(sgn (mkO w)).isSome)) := by
        rw [o_nin_str (ss := ["+", "-", "?"]) rfl, sgn_in]
      have hs1 : slD [.lst (s.map encH)] (.str w) none (some 1) = some (.str (mkO w)) := by
        show (if w.length ≤ sizeLine then _ else _) = _
        rw [if_pos hw]; rfl
      have hs2 : slD [.lst (s.map encH)] (.str w) (some 1) none = some (.str (nmO w)) := by
        show (if w.length ≤ sizeLine then _ else _) = _
        rw [if_pos hw]; rfl
      have hlen2 : biD .len [.lst (s.map encH)] [.ref 0] = some (.int s.length) := by rw [l_ref (xs := s.map encH) rfl, List.length_map]
      have htr : truD [.lst (s.map encH)] (.ref 0) = some (!s.isEmpty) := by rw [t_ref (xs := s.map encH) rfl, List.isEmpty_map]
      have hap : ∀ (j : Nat) (g : Int), mutEnd .append (.ref 0) [.tup [.int j, .int g]] [.lst (s.map encH)] = some (.ok .non [.lst ((s ++ [(j, g)]).map encH)]) := fun j g => by
        rw [u_append (xs := s.map encH) rfl (by rw [List.length_map, sizeLine_eq]; omega)]
        simp [encH]
      have ok2 : ∀ (k : List D → D) (a b : D), okLen k [a, b] = some (.ok (k [a, b])) := fun k a b => okLen_ok (by rw [sizeLine_eq]; show 2 ≤ 16777216; decide)
      have ok3 : ∀ (k : List D → D) (a b c : D), okLen k [a, b, c] = some (.ok (k [a, b, c])) := fun k a b c => okLen_ok (by rw [sizeLine_eq]; show 3 ≤ 16777216; decide)
      have hret : ∀ h : List Cell, retD h (.tup [.str "bad", .int (i : Int)]) = some (.rt (.val (.tup [.str "bad", .int (i : Int)]))) := fun h => ret_val rfl (by simp [dep, depl, depthD])
      refine ⟨_, rfl, ?_⟩
      show TurnS _ _ _ _ (match rowStep names w i s with | .inl k => .inl (.rt (.val (.tup [.str "bad", .int (k : Nat)]))) | .inr s => .inr s)
      unfold rowStep
      cases q1 : sgn (mkO w) with
      | none =>
        rw [q1] at hmin
        simp [TurnS, Ex.is, sb__law_row_1, hx, hs1, hs2, hmin, ok2, ok3, hret]
      | some g =>
        rw [q1] at hmin
        cases q2 : names.findIdx? (fun y => decide (y = nmO w)) with
        | none =>
          have hm := find_none_iff q2
          simp [TurnS, Ex.is, sb__law_row_1, hx, hs1, hs2, hmin, hnin, hm, ok2, ok3, hret]
        | some j =>
          obtain ⟨hm, _⟩ := find_some q2
          rw [q2] at h5
          by_cases c1 : s.length = 4
          · have c1' : (s.length : Int) = 4 := by omega
            simp [TurnS, Ex.is, sb__law_row_1, hx, hs1, hs2, hmin, hnin, hm, hlen2, c1, c1', ok2, ok3, hret]
          · have c1' : ¬ (s.length : Int) = 4 := by omega
            obtain ⟨i3, k1, k2⟩ := sgn_ix q1
            rw [k1] at h6
            by_cases c2 : (j : Int) ≤ lastOf s
            · have hs0 : s ≠ [] := fun z => by subst z; have : (j : Int) ≤ -1 := c2; omega
              obtain ⟨j0, g0, l1, l2⟩ := lastOf_ix hs0
              have c3 : (j : Int) ≤ (j0 : Int) := by rw [l2] at c2; exact c2
              have c4 : s.isEmpty = false := by cases s with
                | nil => exact absurd rfl hs0
                | cons _ _ => rfl
              have c5 : j ≤ j0 := by omega
              simp [TurnS, Ex.is, sb__law_row_1, hx, hs1, hs2, hmin, hnin, hm, hlen2, c1, c1', ok2, ok3, hret, onLst, h5, htr, c4, l1, encH, c2, c5]
            · have e4 : (if s.length = 4 ∨ (j : Int) ≤ lastOf s then Sum.inl i else Sum.inr (s ++ [(j, g)])) = (Sum.inr (s ++ [(j, g)]) : Sum Nat (List (Nat × Int))) := if_neg (by rintro (z | z); exact c1 z; exact c2 z)
              dsimp only
              rw [e4]
              refine ⟨[some (.lst (names.map .str)), some (encW words), some (.ref 0), some (.int i), some (.int j)], [.lst ((s ++ [(j, g)]).map encH)], .inl ?_, _, _, rfl, rfl, by simp; omega⟩
              by_cases hs0 : s = []
              · have c4 : s.isEmpty = true := by rw [hs0]; rfl
                simp [sb__law_row_1, hx, hs1, hs2, hmin, hnin, hm, hlen2, c1, c1', ok2, ok3, onLst, h5, h6, k2, htr, c4, hap]
              · obtain ⟨j0, g0, l1, l2⟩ := lastOf_ix hs0
                have c4 : s.isEmpty = false := by cases s with
                  | nil => exact absurd rfl hs0
                  | cons _ _ => rfl
                have c5 : ¬ j ≤ j0 := by rw [l2] at c2; omega
                simp [sb__law_row_1, hx, hs1, hs2, hmin, hnin, hm, hlen2, c1, c1', ok2, ok3, onLst, h5, h6, k2, htr, c4, hap, l1, encH, c5]) ⟨none, none, rfl, rfl, by simp⟩
  have F := Eq.mp (congrArg (FinS _ _) (fold_row (ex := fun k => .rt (.val (.tup [.str "bad", .int (k : Nat)]))) words.tail 1 [])) F
  cases q : rowOf names words.tail 1 [] with
  | inl k =>
    rw [q] at F
    obtain ⟨o, e, rfl⟩ := F
    rw [e]
    rfl
  | inr s =>
    rw [q] at F
    obtain ⟨ρ', h', e, v3, v4, rfl, rfl, _⟩ := F
    rw [e]
    have hr : ∀ h : List Cell, retD h (.tup [.str "good", .tup (s.map encH)]) = some (.rt (.val (.tup [.str "good", .tup (s.map encH)]))) := fun h => ret_val (by simp [noRefs_map (e := encH) (fun _ => rfl) s]) (by
      have := depl_map (e := encH) (k := 1) (fun p => by simp [encH, dep, depl]) s
      simp only [dep, depl, depthD]
      omega)
    have ht : biD .tuple [.lst (s.map encH)] [.ref 0] = some (.tup (s.map encH)) := l_tuple_r rfl
    have ok2 : ∀ (k : List D → D) (a b : D), okLen k [a, b] = some (.ok (k [a, b])) := fun k a b => okLen_ok (by rw [sizeLine_eq]; show 2 ≤ 16777216; decide)
    simp [ht, hr, endD, ok2]
end K75

set_option Elab.async false
set_option linter.all false
set_option maxRecDepth 100000
set_option maxHeartbeats 1000000
namespace K75
open PySem PySem.Spec PyProof.Rows L2 DL TL
/-! ### the whole text -/
def linesOf (t : Str) : List (List Str) := (Txt.split t "\n").map fun l => Txt.split l " "
theorem tl_nl : tl ("\n" : Str) = [10] := by rw [tl_ofString]; rfl
theorem tl_sp : tl (" " : Str) = [32] := by rw [tl_ofString]; rfl
theorem lines_facts {t : Str} (ht : t.length + 2 ≤ sizeLine) : linesOf t ≠ [] ∧ (linesOf t).length ≤ t.length + 1 ∧ ∀ ws ∈ linesOf t, ws ≠ [] ∧ ws.length ≤ t.length + 1 ∧ ∀ w ∈ ws, w.length ≤ t.length := by
  obtain ⟨h1, h2, h3⟩ := split_facts (x := t) (y := "\n") (by rw [tl_nl]; simp) (by decide +kernel)
  refine ⟨fun e => h1 (List.map_eq_nil_iff.mp e), by unfold linesOf; rw [List.length_map]; exact h2, fun ws hws => ?_⟩
  obtain ⟨l, hl, rfl⟩ := List.mem_map.mp hws
  obtain ⟨k1, k2, k3⟩ := split_facts (x := l) (y := " ") (by rw [tl_sp]; simp) (by decide +kernel)
  have hlen := h3 l hl
  exact ⟨k1, Nat.le_trans k2 (by omega), fun w hw => Nat.le_trans (k3 w hw) hlen⟩
/-- the rows of the lines -/
def rowsOf (names : List Str) : List (List Str) → Nat → Sum (Nat × Nat) (List (List (Nat × Int)))
  | [], _ => .inr []
  | ws :: wss, i => match rowOf names ws.tail 1 [] with
    | .inl k => .inl (i, k)
    | .inr s => match rowsOf names wss (i + 1) with
      | .inl e => .inl e
      | .inr ss => .inr (s :: ss)
/-- what a text says: where it is bad, or names and rows -/
def readL (L : List (List Str)) : Sum (Nat × Nat) (List Str × List (List (Nat × Int))) := match countOf (L.headD []) with
  | .inl k => .inl (1, k)
  | .inr n => if L.length < n + 1 then .inl (L.length + 1, 0) else if n + 1 < L.length then .inl (n + 2, 0) else
    match namesOf (L.tail.map fun ws => ws.headD Str.empty) 0 [] with
    | .inl k => .inl (k + 2, 0)
    | .inr names => match rowsOf names L.tail 0 with
      | .inl e => .inl (e.1 + 2, e.2)
      | .inr rows => .inr (names, rows)
def encR (r : List Str × List (List (Nat × Int))) : D := .tup [.tup (r.1.map .str), .tup (r.2.map fun s => .tup (s.map encH))]
def fsAt (e : Nat × Nat) : List (Str × D) := [("word", .int (e.2 : Nat)), ("line", .int (e.1 : Nat))]
theorem lines_ok {t : Str} (ht : t.length + 2 ≤ sizeLine) {vs : List Nat} {i : Nat} {ρ : Rho} {h : List Cell} {f : Sx} (hf : f ρ h = some (.ok (.str t))) {el : Sx} (hel : ∀ l : Str, el ((wipeR ρ vs).set i (some (.str l))) h = if l.length + 2 ≤ sizeLine then some (.ok (encW (Txt.split l " "))) else none) :
    sComp vs (iData (sStrM (strM .split) f (sCst (.str "\n")))) (gxName i) sYes el ρ h = some (.ok (.lst ((linesOf t).map encW))) := by
  obtain ⟨h1, h2, h3⟩ := split_facts (x := t) (y := "\n") (by rw [tl_nl]; simp) (by decide +kernel)
  have hn : (("\n" : Str).length == 0) = false := by decide +kernel
  have e : sStrM (strM .split) f (sCst (.str "\n")) ρ h = some (.ok (.lst ((Txt.split t "\n").map .str))) := by
    simp only [m_strM, hf, bnd_ok, m_onStr, m_cst, strM, gSplit, hn, ht, and_self, if_true, vok_some]
  refine sComp_list (li_lst e) (by rw [List.length_map]; omega) ?_
  unfold linesOf
  rw [List.map_map]
  refine comL_map fun l hl => ⟨_, rfl, rfl, ?_⟩
  rw [hel l, if_pos (by have := h3 l hl; omega)]
  rfl
end K75

set_option Elab.async false
set_option linter.all false
set_option maxRecDepth 100000
set_option maxHeartbeats 1000000
namespace K75
open PySem PySem.Spec PyProof.Rows L2 DL TL
theorem sp_ne : ((" " : Str).length == 0) = false := by decide +kernel
theorem encW_head {L : List (List Str)} (h : L ≠ []) {hp : List Cell} : ixD hp (.lst (L.map encW)) (.int 0) = some (encW (L.headD [])) := by
  cases L with
  | nil => exact absurd rfl h
  | cons a r => rw [x_lst]; exact atI_zero
theorem cut_tail {L : List (List Str)} (hl : L ≠ []) {hp : List Cell} : slD hp (.lst (L.map encW)) (some 1) none = some (.lst (L.tail.map encW)) := by
  have e : DL.cutD (L.map encW) (some 1) none = L.tail.map encW := by
    cases L with
    | nil => exact absurd rfl hl
    | cons a r =>
      have h1 : HT.sIx (((a :: r).map encW).length) 0 (some (1 : Int)) = 1 := by
        have := HT.sIx_nat (((a :: r).map encW).length) 0 1
        rw [show ((1 : Nat) : Int) = 1 from rfl] at this
        rw [this]; simp
      unfold DL.cutD
      rw [h1]
      show (((a :: r).map encW).drop 1).take (((a :: r).map encW).length - 1) = _
      rw [List.map_cons, List.drop_one, List.tail_cons, List.length_cons, Nat.add_sub_cancel]
      exact List.take_length
  have e2 : slD hp (.lst (L.map encW)) (some 1) none = some (D.lst (DL.cutD (L.map encW) (some 1) none)) := rfl
  rw [e2, e]
theorem rows_map {names : List Str} : ∀ (wss : List (List Str)) (i : Nat), mapE (fun p : List Str × Nat => match rowOf names p.1.tail 1 [] with | .inl k => .inl ("BadText", fsAt (p.2 + 2, k)) | .inr s => .inr (.tup (s.map encH))) (wss.zipIdx i) =
    (match rowsOf names wss i with | .inl e => .inl ("BadText", fsAt (e.1 + 2, e.2)) | .inr ss => .inr (ss.map fun s => .tup (s.map encH)))
  | [], _ => rfl
  | ws :: wss, i => by
    rw [List.zipIdx_cons]
    simp only [mapE, rowsOf]
    rw [rows_map wss (i + 1)]
    cases rowOf names ws.tail 1 [] with
    | inl k => rfl
    | inr s =>
      cases rowsOf names wss (i + 1) with
      | inl e => rfl
      | inr ss => rfl
theorem read_signs_ok {t : Str} (ht : t.length + 2 ≤ sizeLine) : fn_read_signs [.str t] = some (match readL (linesOf t) with | .inl e => .exc "BadText" (fsAt e) | .inr r => .val (encR r)) := by
  show (sm_read_signs [some (.str t), none, none, none, none, none, none, none] []).bind endD = _
  obtain ⟨hne, hlen, hws⟩ := lines_facts ht
  unfold sm_read_signs
  generalize hL : linesOf t = L at *
  have i1 : sSet 1 (liftM (sComp [5] (iData (sStrM (strM .split) (sVar 0) (sCst (.str "\n")))) (gxName 5) sYes se_read_signs_1)) [some (.str t), none, none, none, none, none, none, none] [] = some (.nx [some (.str t), some (.lst (L.map encW)), none, none, none, none, none, none] []) := by
    have := lines_ok ht (vs := [5]) (i := 5) (ρ := [some (.str t), none, none, none, none, none, none, none]) (h := []) (f := sVar 0) rfl (el := se_read_signs_1) (fun l => by
      have e : se_read_signs_1 ((wipeR [some (.str t), none, none, none, none, none, none, none] [5]).set 5 (some (.str l))) [] = vok (gSplit l [] (.str " ")) := rfl
      rw [e]
      by_cases c : l.length + 2 ≤ sizeLine
      · rw [if_pos c]; simp only [gSplit, sp_ne, c, and_self, if_true, vok_some]; rfl
      · rw [if_neg c]; simp only [gSplit, sp_ne, c, and_false, if_false, vok_none])
    rw [hL] at this
    simp [this]
  rw [m_seq, i1]
  dsimp only
  have hc : appF fn_count_of [] [encW (L.headD [])] = some (match countOf (L.headD []) with | .inl k => .exc "BadText" (fsAt (1, k)) | .inr n => .ok (.int n)) := by
    have h0 : L.headD [] ≠ [] := by
      cases L with
      | nil => exact absurd rfl hne
      | cons a r => exact (hws a List.mem_cons_self).1
    have := count_of_ok h0
    cases q : countOf (L.headD []) with
    | inl k => rw [q] at this; exact app_exc (by simp [encW]) this
    | inr n => rw [q] at this; exact app_val (by simp [encW]) this
  have i2 : sSet 2 (liftM (sCall 1 fn_count_of (sCons (sIx (sVar 1) (sCst (.int 0))) sNil))) [some (.str t), some (.lst (L.map encW)), none, none, none, none, none, none] [] = (match countOf (L.headD []) with
      | .inl k => some (.exc "BadText" (fsAt (1, k)) [some (.str t), some (.lst (L.map encW)), none, none, none, none, none, none] [])
      | .inr n => some (.nx [some (.str t), some (.lst (L.map encW)), some (.int n), none, none, none, none, none] [])) := by
    have e : sCall 1 fn_count_of (sCons (sIx (sVar 1) (sCst (.int 0))) sNil) [some (.str t), some (.lst (L.map encW)), none, none, none, none, none, none] [] = appF fn_count_of [] [encW (L.headD [])] := by
      have := encW_head hne (hp := [])
      simp only [m_call, m_cons, m_nil, m_ix, m_var, m_cst, List.getElem?_cons_succ, List.getElem?_cons_zero, bnd_ok, this, vok_some, m_consL, bndL_ok, List.length_cons, List.length_nil, if_true]
    rw [m_set, m_lift, e, hc]
    cases countOf (L.headD []) with
    | inl k => rfl
    | inr n => rfl
  rw [m_seq, i2]
  unfold readL
  cases q : countOf (L.headD []) with
  | inl k => rfl
  | inr n =>
    dsimp only
    have hlen2 : biD .len [] [.lst (L.map encW)] = some (.int (L.length : Nat)) := by rw [l_lst, List.length_map]
    have cut : slD [] (.lst (L.map encW)) (some 1) none = some (.lst (L.tail.map encW)) := cut_tail hne
    rw [m_seq]
    by_cases c1 : L.length < n + 1
    · rw [if_pos c1]
      have c1' : (L.length : Int) < (n : Int) + 1 := by omega
      simp [hlen2, c1', endD, fsAt, noRefs, noRef]
    · rw [if_neg c1]
      have c1' : ¬ (L.length : Int) < (n : Int) + 1 := by omega
      have i3 : sIfS (sCmp .Lt (sBi .len (sCons (sVar 1) sNil)) (sBin .Add (sVar 2) (sCst (.int 1)))) (sRaise "BadText" ["line", "word"] (sCons (sBin .Add (sBi .len (sCons (sVar 1) sNil)) (sCst (.int 1))) (sCons (sCst (.int 0)) sNil))) sNext [some (.str t), some (.lst (L.map encW)), some (.int n), none, none, none, none, none] [] = some (.nx [some (.str t), some (.lst (L.map encW)), some (.int n), none, none, none, none, none] []) := by
        simp [hlen2, c1']
      rw [i3]
      dsimp only
      rw [m_seq]
      by_cases c2 : n + 1 < L.length
      · rw [if_pos c2]
        have c2' : (n : Int) + 1 < (L.length : Int) := by omega
        simp [hlen2, c2', endD, fsAt, noRefs, noRef]
      · rw [if_neg c2]
        have c2' : ¬ (n : Int) + 1 < (L.length : Int) := by omega
        have i4 : sIfS (sCmp .Gt (sBi .len (sCons (sVar 1) sNil)) (sBin .Add (sVar 2) (sCst (.int 1)))) (sRaise "BadText" ["line", "word"] (sCons (sBin .Add (sVar 2) (sCst (.int 2))) (sCons (sCst (.int 0)) sNil))) sNext [some (.str t), some (.lst (L.map encW)), some (.int n), none, none, none, none, none] [] = some (.nx [some (.str t), some (.lst (L.map encW)), some (.int n), none, none, none, none, none] []) := by
          simp [hlen2, c2']
        rw [i4]
        dsimp only
        have hrn : appF fn_read_names [] [.lst (L.tail.map encW)] = some (match namesOf (L.tail.map fun ws => ws.headD Str.empty) 0 [] with | .inl k => .exc "BadText" (fsAt (k + 2, 0)) | .inr names => .ok (.lst (names.map .str))) := by
          have := read_names_ok (wss := L.tail) (fun ws h => (hws ws (List.mem_of_mem_tail h)).1) (fun ws h w hw => Nat.le_trans ((hws ws (List.mem_of_mem_tail h)).2.2 w hw) (by omega)) (by rw [List.length_tail]; omega)
          have hnr : noRefs [D.lst (L.tail.map encW)] = true := by rw [noRefs_cons, noRef_lst, noRefs_map (e := encW) (fun ws => by simp [encW])]; rfl
          cases q : namesOf (L.tail.map fun ws => ws.headD Str.empty) 0 [] with
          | inl k => rw [q] at this; exact app_exc hnr this
          | inr names => rw [q] at this; exact app_lst hnr this
        have i5 : sSet 3 (liftM (sCall 1 fn_read_names (sCons (sSl (sVar 1) (some (sCst (.int 1))) none) sNil))) [some (.str t), some (.lst (L.map encW)), some (.int n), none, none, none, none, none] [] = (match namesOf (L.tail.map fun ws => ws.headD Str.empty) 0 [] with
            | .inl k => some (.exc "BadText" (fsAt (k + 2, 0)) [some (.str t), some (.lst (L.map encW)), some (.int n), none, none, none, none, none] [])
            | .inr names => some (.nx [some (.str t), some (.lst (L.map encW)), some (.int n), some (.lst (names.map .str)), none, none, none, none] [])) := by
          have e : sCall 1 fn_read_names (sCons (sSl (sVar 1) (some (sCst (.int 1))) none) sNil) [some (.str t), some (.lst (L.map encW)), some (.int n), none, none, none, none, none] [] = appF fn_read_names [] [.lst (L.tail.map encW)] := by
            simp only [m_call, m_cons, m_nil, m_sl, m_part0, m_part1, m_intOnly, m_partD0, m_partD1, m_var, m_cst, List.getElem?_cons_succ, List.getElem?_cons_zero, bnd_ok, cut, vok_some, m_consL, bndL_ok, List.length_cons, List.length_nil, if_true]
          rw [m_set, m_lift, e, hrn]
          cases namesOf (L.tail.map fun ws => ws.headD Str.empty) 0 [] with
          | inl k => rfl
          | inr names => rfl
        rw [m_seq, i5]
        cases q2 : namesOf (L.tail.map fun ws => ws.headD Str.empty) 0 [] with
        | inl k => rfl
        | inr names =>
          dsimp only
          rw [m_seq]
          have i6 : sComp [6, 7] (iEnumD (sCons (sSl (sVar 1) (some (sCst (.int 1))) none) sNil)) (gxTup 2 (gxCons (gxName 6) (gxCons (gxName 7) gxNil))) sYes se_read_signs_2 [some (.str t), some (.lst (L.map encW)), some (.int n), some (.lst (names.map .str)), none, none, none, none] [] =
              some (match rowsOf names L.tail 0 with | .inl e => .exc "BadText" (fsAt (e.1 + 2, e.2)) | .inr ss => .ok (.lst (ss.map fun s => .tup (s.map encH)))) := by
            have hx := li_enumE (l := sCons (sSl (sVar 1) (some (sCst (.int 1))) none) sNil) (ρ := [some (.str t), some (.lst (L.map encW)), some (.int n), some (.lst (names.map .str)), none, none, none, none]) (h := []) (xs := L.tail) (enc := encW) (by
              simp only [m_cons, m_nil, m_sl, m_part0, m_part1, m_intOnly, m_partD0, m_partD1, m_var, m_cst, List.getElem?_cons_succ, List.getElem?_cons_zero, bnd_ok, cut, vok_some, m_consL])
            have hz : ((L.tail.zipIdx).map fun p : List Str × Nat => D.tup [.int (p.2 : Nat), encW p.1]).length ≤ sizeLine := by simp; omega
            have hm := comL_sim (e := fun p : List Str × Nat => D.tup [.int (p.2 : Nat), encW p.1]) (gx := gxTup 2 (gxCons (gxName 6) (gxCons (gxName 7) gxNil))) (elt := se_read_signs_2) (ρ := [some (.str t), some (.lst (L.map encW)), some (.int n), some (.lst (names.map .str)), none, none, none, none]) (h := [])
              (g := fun p : List Str × Nat => match rowOf names p.1.tail 1 [] with | .inl k => .inl ("BadText", fsAt (p.2 + 2, k)) | .inr s => .inr (.tup (s.map encH))) (xs := L.tail.zipIdx) (fun p hp => by
                obtain ⟨ws, i⟩ := p
                obtain ⟨_, hg⟩ := zip_mem hp
                have hmem := List.mem_of_mem_tail (List.mem_of_getElem? hg)
                obtain ⟨k1, k2, k3⟩ := hws ws hmem
                refine ⟨_, rfl, ?_⟩
                have hrs := read_signed_ok (names := names) (words := ws) (line := ((i + 2 : Nat) : Int)) k1 (fun w hw => Nat.le_trans (k3 w hw) (by omega)) (by omega)
                have hnr : noRefs [D.lst (names.map .str), encW ws, .int ((i + 2 : Nat) : Int)] = true := by simp [encW]
                have ha : appF fn_read_signed [] [.lst (names.map .str), encW ws, .int ((i + 2 : Nat) : Int)] = some (resE (match rowOf names ws.tail 1 [] with | .inl k => .inl ("BadText", fsAt (i + 2, k)) | .inr s => .inr (.tup (s.map encH)))) := by
                  cases q : rowOf names ws.tail 1 [] with
                  | inl k => rw [q] at hrs; exact app_exc hnr hrs
                  | inr s => rw [q] at hrs; exact app_val hnr hrs
                rw [← ha]
                simp [se_read_signs_2])
            have hm := hm.trans (congrArg (fun z => some (resLE z)) (rows_map (names := names) L.tail 0))
            cases q3 : rowsOf names L.tail 0 with
            | inl e => rw [q3] at hm; exact sComp_exc hx hz hm
            | inr ss => rw [q3] at hm; exact sComp_list hx hz hm
          have i7 : sSet 4 (liftM (sComp [6, 7] (iEnumD (sCons (sSl (sVar 1) (some (sCst (.int 1))) none) sNil)) (gxTup 2 (gxCons (gxName 6) (gxCons (gxName 7) gxNil))) sYes se_read_signs_2)) [some (.str t), some (.lst (L.map encW)), some (.int n), some (.lst (names.map .str)), none, none, none, none] [] = (match rowsOf names L.tail 0 with
              | .inl e => some (.exc "BadText" (fsAt (e.1 + 2, e.2)) [some (.str t), some (.lst (L.map encW)), some (.int n), some (.lst (names.map .str)), none, none, none, none] [])
              | .inr ss => some (.nx [some (.str t), some (.lst (L.map encW)), some (.int n), some (.lst (names.map .str)), some (.lst (ss.map fun s => .tup (s.map encH))), none, none, none] [])) := by
            rw [m_set, m_lift, i6]
            cases rowsOf names L.tail 0 with
            | inl e => rfl
            | inr ss => rfl
          rw [i7]
          cases q3 : rowsOf names L.tail 0 with
          | inl e => rfl
          | inr ss =>
            dsimp only
            have hret : ∀ h : List Cell, retD h (encR (names, ss)) = some (.rt (.val (encR (names, ss)))) := fun h => ret_val (by simp [encR, noRefs_map (e := fun s : List (Nat × Int) => D.tup (s.map encH)) (fun s => by simp [noRefs_map (e := encH) (fun _ => rfl)])]) (by
              have d1 := depl_strs names
              have d2 := depl_map (e := fun s : List (Nat × Int) => D.tup (s.map encH)) (k := 2) (fun s => Nat.succ_le_succ (depl_map (e := encH) (k := 1) (fun p => by simp [encH, dep, depl]) s)) ss
              simp only [encR, dep, depl, depthD]
              omega)
            have ok2 : ∀ (k : List D → D) (a b : D), okLen k [a, b] = some (.ok (k [a, b])) := fun k a b => okLen_ok (by rw [sizeLine_eq]; show 2 ≤ 16777216; decide)
            have hr2 := hret []
            unfold encR at hr2
            simp [ok2, hr2, endD, encR]
end K75

set_option Elab.async false
set_option linter.all false
set_option maxRecDepth 100000
set_option maxHeartbeats 1000000
namespace K75
open PySem PySem.Spec PyProof.Rows L2 DL TL
theorem fold_namesG {ex : Nat → Ex} : ∀ (wss : List (List Str)) (i : Nat) (names : List Str), foldE (fun (p : List Str × Nat) names => match nameStep (p.1.headD Str.empty) p.2 names with | .inl k => .inl (ex k) | .inr s => .inr s) (wss.zipIdx i) names =
    (match namesOf (wss.map fun ws => ws.headD Str.empty) i names with | .inl k => .inl (ex k) | .inr s => .inr s)
  | [], _, _ => rfl
  | ws :: wss, i, names => by
    rw [List.zipIdx_cons]
    simp only [foldE, List.map_cons, namesOf]
    cases nameStep (ws.headD Str.empty) i names with
    | inl k => rfl
    | inr s => exact fold_namesG wss (i + 1) s
theorem fold_rows {names : List Str} {ex : Nat × Nat → Ex} : ∀ (wss : List (List Str)) (i : Nat) (acc : List (List (Nat × Int))), foldE (fun (p : List Str × Nat) acc => match rowOf names p.1.tail 1 [] with | .inl k => .inl (ex (p.2, k)) | .inr s => .inr (acc ++ [s])) (wss.zipIdx i) acc =
    (match rowsOf names wss i with | .inl e => .inl (ex e) | .inr ss => .inr (acc ++ ss))
  | [], _, acc => by simp [foldE, rowsOf]
  | ws :: wss, i, acc => by
    rw [List.zipIdx_cons]
    simp only [foldE, rowsOf]
    cases rowOf names ws.tail 1 [] with
    | inl k => rfl
    | inr s =>
      dsimp only
      rw [fold_rows wss (i + 1)]
      cases rowsOf names wss (i + 1) with
      | inl e => rfl
      | inr ss => simp
theorem immD_H (s : List (Nat × Int)) : immDs (s.map encH) = true := by
  induction s with
  | nil => rfl
  | cons a s ih => show (immD (encH a) && immDs (s.map encH)) = true; rw [ih]; rfl
def encB (e : Nat × Nat) : D := .tup [.str "BadText", .int (e.1 : Nat), .int (e.2 : Nat)]
def encRd (r : Sum (Nat × Nat) (List Str × List (List (Nat × Int)))) : D := match r with | .inl e => encB e | .inr r => .tup [.str "told", encR r]
def encS (s : List (Nat × Int)) : D := .tup (s.map encH)
theorem ok2 {k : List D → D} {a b : D} : okLen k [a, b] = some (.ok (k [a, b])) := okLen_ok (by rw [sizeLine_eq]; show 2 ≤ 16777216; decide)
theorem ok3 {k : List D → D} {a b c : D} : okLen k [a, b, c] = some (.ok (k [a, b, c])) := okLen_ok (by rw [sizeLine_eq]; show 3 ≤ 16777216; decide)
theorem ok1 {k : List D → D} {a : D} : okLen k [a] = some (.ok (k [a])) := okLen_ok (by rw [sizeLine_eq]; show 1 ≤ 16777216; decide)
theorem retB {h : List Cell} {e : Nat × Nat} : retD h (encB e) = some (.rt (.val (encB e))) := ret_val rfl (by simp [encB, dep, depl, depthD])
theorem noRefs_H (s : List (Nat × Int)) : noRefs (s.map encH) = true := noRefs_map (fun _ => rfl) s
theorem noRefs_S (s : List (List (Nat × Int))) : noRefs (s.map encS) = true := noRefs_map (fun s => by simp [encS, noRefs_H]) s
theorem dep_S (s : List (Nat × Int)) : dep (encS s) ≤ 2 := Nat.succ_le_succ (depl_map (e := encH) (k := 1) (fun p => by simp [encH, dep, depl]) s)
theorem depl_S (s : List (List (Nat × Int))) : depl (s.map encS) ≤ 2 := depl_map dep_S s
theorem noRef_R (r) : noRef (encR r) = true := by
  show noRefs _ = true
  simp [noRefs_strs]
  exact noRefs_S r.2
theorem dep_R (r) : dep (encR r) ≤ 4 := by
  have d1 := depl_strs r.1
  have d2 := depl_S r.2
  have : encR r = .tup [.tup (r.1.map .str), .tup (r.2.map encS)] := rfl
  rw [this]
  simp only [dep, depl]
  omega
theorem law_read_ok {t : Str} (ht : t.length + 2 ≤ sizeLine) : fn__law_read [.str t] = some (.val (encRd (readL (linesOf t)))) := by
  show (sm__law_read [some (.str t), none, none, none, none, none, none, none, none, none] []).bind endD = _
  obtain ⟨hne, hlen, hws⟩ := lines_facts ht
  unfold sm__law_read
  generalize hL : linesOf t = L at *
  have i1 : sSet 1 (liftM (sComp [9] (iData (sStrM (strM .split) (sVar 0) (sCst (.str "\n")))) (gxName 9) sYes se__law_read_1)) [some (.str t), none, none, none, none, none, none, none, none, none] [] = some (.nx [some (.str t), some (.lst (L.map encW)), none, none, none, none, none, none, none, none] []) := by
    have := lines_ok ht (vs := [9]) (i := 9) (ρ := [some (.str t), none, none, none, none, none, none, none, none, none]) (h := []) (f := sVar 0) rfl (el := se__law_read_1) (fun l => by
      have e : se__law_read_1 ((wipeR [some (.str t), none, none, none, none, none, none, none, none, none] [9]).set 9 (some (.str l))) [] = vok (gSplit l [] (.str " ")) := rfl
      rw [e]
      by_cases c : l.length + 2 ≤ sizeLine
      · rw [if_pos c]; simp only [gSplit, sp_ne, c, and_self, if_true, vok_some]; rfl
      · rw [if_neg c]; simp only [gSplit, sp_ne, c, and_false, if_false, vok_none])
    rw [hL] at this
    simp [this]
  rw [m_seq, i1]
  dsimp only
  have h0 : L.headD [] ≠ [] := by
    cases L with
    | nil => exact absurd rfl hne
    | cons a r => exact (hws a List.mem_cons_self).1
  have hc := app_val (h := []) (ds := [encW (L.headD [])]) (by simp [encW]) (law_size_ok h0)
  have hx := encW_head hne (hp := [])
  have hlen2 : biD .len [] [.lst (L.map encW)] = some (.int (L.length : Nat)) := by rw [l_lst, List.length_map]
  have hlt : L.length = L.tail.length + 1 := by cases L with
    | nil => exact absurd rfl hne
    | cons a r => simp
  have hxk : ∀ (h : List Cell) (i : Nat) (ws : List Str), L.tail[i]? = some ws → ixD h (.lst (L.map encW)) (.int ((i : Int) + 1)) = some (encW ws) := fun h i ws hw => by
    rw [x_lst]
    refine atI_nat (k := i + 1) ?_ (by omega)
    cases L with
    | nil => exact absurd rfl hne
    | cons a r => simpa using congrArg (Option.map encW) hw
  unfold readL
  generalize hH : L.headD [] = H0 at *
  cases q : countOf H0 with
  | inl k =>
    rw [q] at hc
    have hr2 : retD [] (.tup [.str "BadText", .int 1, .int (k : Int)]) = some (.rt (.val (encB (1, k)))) := retB (h := []) (e := (1, k))
    simp [hx, hc, encRd, endD, ok3, hr2]
  | inr n =>
    rw [q] at hc
    rw [m_seq]
    have i2 : sAsg (gxTup 2 (gxCons (gxName 2) (gxCons (gxName 3) gxNil))) (liftM (sCall 1 fn__law_size (sCons (sIx (sVar 1) (sCst (.int 0))) sNil))) [some (.str t), some (.lst (L.map encW)), none, none, none, none, none, none, none, none] [] = some (.nx [some (.str t), some (.lst (L.map encW)), some (.str "good"), some (.int n), none, none, none, none, none, none] []) := by
      simp [hx, hc]
    rw [i2]
    dsimp only
    rw [m_seq]
    have i3 : sIfS (sCmp .Eq (sVar 2) (sCst (.str "bad"))) (sRet (liftM (sTup (sCons (sCst (.str "BadText")) (sCons (sCst (.int 1)) (sCons (sVar 3) sNil)))))) sNext [some (.str t), some (.lst (L.map encW)), some (.str "good"), some (.int n), none, none, none, none, none, none] [] = some (.nx [some (.str t), some (.lst (L.map encW)), some (.str "good"), some (.int n), none, none, none, none, none, none] []) := by
      have : (("good" : Str) = "bad") = False := by simp; decide +kernel
      simp [this]
    rw [i3]
    dsimp only
    rw [m_seq]
    by_cases c0 : L.length = n + 1
    · rw [if_neg (by omega), if_neg (by omega)]
      have i4 : sIfS (sCmp .NotEq (sBi .len (sCons (sVar 1) sNil)) (sBin .Add (sVar 3) (sCst (.int 1)))) (sRet (liftM (sTup (sCons (sCst (.str "BadText")) (sCons (sBi .min (sCons (sBin .Add (sBi .len (sCons (sVar 1) sNil)) (sCst (.int 1))) (sCons (sBin .Add (sVar 3) (sCst (.int 2))) sNil))) (sCons (sCst (.int 0)) sNil)))))) sNext [some (.str t), some (.lst (L.map encW)), some (.str "good"), some (.int n), none, none, none, none, none, none] [] = some (.nx [some (.str t), some (.lst (L.map encW)), some (.str "good"), some (.int n), none, none, none, none, none, none] []) := by
        simp [hlen2, c0]
      rw [i4]
      dsimp only
      rw [m_seq]
      have i5 : sSet 4 (mLst nNil) [some (.str t), some (.lst (L.map encW)), some (.str "good"), some (.int n), none, none, none, none, none, none] [] = some (.nx [some (.str t), some (.lst (L.map encW)), some (.str "good"), some (.int n), some (.ref 0), none, none, none, none, none] [.lst []]) := by
        simp [ownM]
      rw [i5]
      dsimp only
      rw [m_seq]
      have hn : n = L.tail.length := by omega
      have hr : ∀ (ρ : Rho) (h : List Cell), ρ[3]? = some (some (.int n)) → listI (iRange1 (sCons (sVar 3) sNil) ρ h) (some ((L.tail.zipIdx 0).map fun p => .int (p.2 : Nat))) := fun ρ h e => by
        have := li_range1 (l := sCons (sVar 3) sNil) (ρ := ρ) (h := h) (j := (n : Int)) (by simp [e]) (by omega) (small62 (by omega))
        rw [← rngL_zip L.tail 0]
        rw [show ((n : Int)).toNat = L.tail.length by omega] at this
        exact this
      rw [sFor_list (hr _ _ rfl)]
      have F := forL_simN (e := fun p : List Str × Nat => .int (p.2 : Nat)) (gx := gxName 5) (body := sb__law_read_2)
        (R := fun m (names : List Str) ρ h => ∃ v5 v6, ρ = [some (.str t), some (.lst (L.map encW)), some (.str "good"), some (.int n), some (.ref 0), v5, v6, none, none, none] ∧ h = [.lst (names.map .str)] ∧ names.length + m = L.tail.length)
        (f := fun (p : List Str × Nat) names => match nameStep (p.1.headD Str.empty) p.2 names with | .inl k => .inl (.rt (.val (encB (k + 2, 0)))) | .inr s => .inr s)
        (xs := L.tail.zipIdx 0) (s := []) (ρ := [some (.str t), some (.lst (L.map encW)), some (.str "good"), some (.int n), some (.ref 0), none, none, none, none, none]) (h := [.lst []])
        (fun p hp m names ρ h ⟨v5, v6, e1, e2, e3⟩ => by
          subst e1 e2
          obtain ⟨ws, i⟩ := p
          obtain ⟨_, hg⟩ := zip_mem hp
          have hm := List.mem_of_mem_tail (List.mem_of_getElem? hg)
          refine ⟨_, rfl, ?_⟩
          cases ws with
          | nil => exact absurd rfl (hws _ hm).1
          | cons w r =>
            have hw : w.length ≤ sizeLine := Nat.le_trans ((hws _ hm).2.2 w List.mem_cons_self) (by omega)
            have hn1 : ∀ h : List Cell, appF fn__law_is_name h [.str w] = some (.ok (.bl (nameOk w))) := fun h => app_val rfl (law_is_name_ok hw)
            have hin : cmpD .In [.lst (names.map .str)] (.str w) (.ref 0) = some (.bl (decide (w ∈ names))) := o_in_str (seqD_ref rfl)
            have ha : mutEnd .append (.ref 0) [.str w] [.lst (names.map .str)] = some (.ok .non [.lst ((names ++ [w]).map .str)]) := by
              rw [u_append (xs := names.map .str) rfl (by rw [List.length_map]; omega)]
              simp
            have hx1 := hxk [.lst (names.map .str)] i (w :: r) (by simpa using hg)
            have hx2 : ixD [.lst (names.map .str)] (encW (w :: r)) (.int 0) = some (.str w) := by show atI (D.str w :: r.map .str) 0 = _; exact atI_zero
            have hrt := retB (h := [.lst (names.map .str)]) (e := (i + 2, 0))
            simp only [encB] at hrt
            have hrt2 : retD [.lst (names.map .str)] (.tup [.str "BadText", .int ((i : Int) + 2), .int 0]) = some (.rt (.val (encB (i + 2, 0)))) := hrt
            show TurnS _ _ _ _ (match nameStep w i names with | .inl k => .inl (.rt (.val (encB (k + 2, 0)))) | .inr s => .inr s)
            unfold nameStep
            by_cases c : nameOk w = true
            · by_cases c2 : w ∈ names
              · rw [if_neg (fun z => z.2 c2)]
                simp [TurnS, Ex.is, sb__law_read_2, hx1, hx2, hn1, hin, c, c2, ok3, hrt2]
              · rw [if_pos ⟨c, c2⟩]
                refine ⟨[some (.str t), some (.lst (L.map encW)), some (.str "good"), some (.int n), some (.ref 0), some (.int i), some (.str w), none, none, none], [.lst ((names ++ [w]).map .str)], .inl ?_, _, _, rfl, rfl, by simp; omega⟩
                simp [sb__law_read_2, hx1, hx2, hn1, hin, c, c2, ha]
            · rw [if_neg (fun z => c z.1)]
              simp [TurnS, Ex.is, sb__law_read_2, hx1, hx2, hn1, c, ok3, hrt2]) ⟨none, none, rfl, rfl, by simp⟩
      have F := Eq.mp (congrArg (FinS _ _) (fold_namesG (ex := fun k => .rt (.val (encB (k + 2, 0)))) L.tail 0 [])) F
      cases q2 : namesOf (L.tail.map fun ws => ws.headD Str.empty) 0 [] with
      | inl k =>
        rw [q2] at F
        obtain ⟨o, e, rfl⟩ := F
        rw [e]
        rfl
      | inr names =>
        rw [q2] at F
        obtain ⟨ρ', h', e, v5, v6, rfl, rfl, _⟩ := F
        rw [e]
        dsimp only
        rw [m_seq]
        have i6 : sSet 7 (mLst nNil) [some (.str t), some (.lst (L.map encW)), some (.str "good"), some (.int n), some (.ref 0), v5, v6, none, none, none] [.lst (names.map .str)] = some (.nx [some (.str t), some (.lst (L.map encW)), some (.str "good"), some (.int n), some (.ref 0), v5, v6, some (.ref 1), none, none] [.lst (names.map .str), .lst []]) := by
          simp [ownM]
        rw [i6]
        dsimp only
        rw [m_seq, sFor_list (hr _ _ rfl)]
        have F := forL_simN (e := fun p : List Str × Nat => .int (p.2 : Nat)) (gx := gxName 5) (body := sb__law_read_3)
          (R := fun m (rows : List (List (Nat × Int))) ρ h => ∃ v2 v5 v6 v8, ρ = [some (.str t), some (.lst (L.map encW)), v2, some (.int n), some (.ref 0), v5, v6, some (.ref 1), v8, none] ∧ h = [.lst (names.map .str), .lst (rows.map encS)] ∧ rows.length + m = L.tail.length)
          (f := fun (p : List Str × Nat) rows => match rowOf names p.1.tail 1 [] with | .inl k => .inl (.rt (.val (encB (p.2 + 2, k)))) | .inr s => .inr (rows ++ [s]))
          (xs := L.tail.zipIdx 0) (s := []) (ρ := [some (.str t), some (.lst (L.map encW)), some (.str "good"), some (.int n), some (.ref 0), v5, v6, some (.ref 1), none, none]) (h := [.lst (names.map .str), .lst []])
          (fun p hp m rows ρ h ⟨v2, v5, v6, v8, e1, e2, e3⟩ => by
            subst e1 e2
            obtain ⟨ws, i⟩ := p
            obtain ⟨_, hg⟩ := zip_mem hp
            have hm := List.mem_of_mem_tail (List.mem_of_getElem? hg)
            obtain ⟨k1, k2, k3⟩ := hws ws hm
            refine ⟨_, rfl, ?_⟩
            have hx1 := hxk [.lst (names.map .str), .lst (rows.map encS)] i ws (by simpa using hg)
            have hro := law_row_ok (names := names) k1 (fun w hw => Nat.le_trans (k3 w hw) (by omega)) (by omega)
            have hcall : appF fn__law_row [.lst (names.map .str), .lst (rows.map encS)] [.ref 0, encW ws] = some (.ok (match rowOf names ws.tail 1 [] with | .inl k => .tup [.str "bad", .int (k : Nat)] | .inr s => .tup [.str "good", .tup (s.map encH)])) := by
              refine app_imm rfl ?_ hro ?_
              · simp [shal, encW]
              · cases rowOf names ws.tail 1 [] with
                | inl k => rfl
                | inr s => simp [immD, immDs, immD_H]
            show TurnS _ _ _ _ (match rowOf names ws.tail 1 [] with | .inl k => .inl (.rt (.val (encB (i + 2, k)))) | .inr s => .inr (rows ++ [s]))
            cases q3 : rowOf names ws.tail 1 [] with
            | inl k =>
              rw [q3] at hcall
              have hrt := retB (h := [.lst (names.map .str), .lst (rows.map encS)]) (e := (i + 2, k))
              have hrt2 : retD [.lst (names.map .str), .lst (rows.map encS)] (.tup [.str "BadText", .int ((i : Int) + 2), .int (k : Int)]) = some (.rt (.val (encB (i + 2, k)))) := hrt
              simp [TurnS, Ex.is, sb__law_read_3, hx1, hcall, ok3, hrt2]
            | inr s =>
              rw [q3] at hcall
              have : (("good" : Str) = "bad") = False := by simp; decide +kernel
              have ha : mutEnd .append (.ref 1) [.tup (s.map encH)] [.lst (names.map .str), .lst (rows.map encS)] = some (.ok .non [.lst (names.map .str), .lst ((rows ++ [s]).map encS)]) := by
                rw [u_append (xs := rows.map encS) rfl (by rw [List.length_map]; omega)]
                simp [encS]
              refine ⟨[some (.str t), some (.lst (L.map encW)), some (.str "good"), some (.int n), some (.ref 0), some (.int i), v6, some (.ref 1), some (.tup (s.map encH)), none], [.lst (names.map .str), .lst ((rows ++ [s]).map encS)], .inl ?_, _, _, _, _, rfl, rfl, by simp; omega⟩
              simp [sb__law_read_3, hx1, hcall, this, ha]) ⟨_, _, _, _, rfl, rfl, by simp⟩
        have F := Eq.mp (congrArg (FinS _ _) (fold_rows (ex := fun e => .rt (.val (encB (e.1 + 2, e.2)))) L.tail 0 [])) F
        cases q3 : rowsOf names L.tail 0 with
        | inl e =>
          rw [q3] at F
          obtain ⟨o, e, rfl⟩ := F
          rw [e]
          rfl
        | inr ss =>
          rw [q3] at F
          obtain ⟨ρ', h', e, v2, v5, v6, v8, rfl, rfl, _⟩ := F
          rw [e]
          have ht : biD .tuple [.lst (names.map .str), .lst (ss.map encS)] [.ref 0] = some (.tup (names.map .str)) := l_tuple_r rfl
          have ht2 : biD .tuple [.lst (names.map .str), .lst (ss.map encS)] [.ref 1] = some (.tup (ss.map encS)) := l_tuple_r rfl
          have hr : retD [.lst (names.map .str), .lst (ss.map encS)] (.tup [.str "told", encR (names, ss)]) = some (.rt (.val (.tup [.str "told", encR (names, ss)]))) := ret_val (by simp [noRef_R]) (by
            have := dep_R (names, ss)
            simp only [dep, depl, depthD]
            omega)
          have hE : encR (names, ss) = .tup [.tup (names.map .str), .tup (ss.map encS)] := rfl
          rw [hE] at hr
          simp [ht, ht2, hr, endD, ok2, encRd, hE]
    · have c0' : ¬ (L.length : Int) = (n : Int) + 1 := by omega
      have hr : ∀ e, retD [] (.tup [.str "BadText", .int ((e : Nat) : Int), .int 0]) = some (.rt (.val (encB (e, 0)))) := fun e => retB (h := []) (e := (e, 0))
      by_cases c1 : L.length < n + 1
      · rw [if_pos c1]
        have := hr (L.length + 1)
        have c2 : ¬ ((n : Int) + 2 < (L.length : Int) + 1) := by omega
        have e1 : ((L.length + 1 : Nat) : Int) = (L.length : Int) + 1 := by omega
        rw [e1] at this
        simp [hlen2, c0', c2, ok3, this, endD, encRd]
      · rw [if_neg c1, if_pos (by omega)]
        have := hr (n + 2)
        have c2 : ((n : Int) + 2 < (L.length : Int) + 1) := by omega
        have e1 : ((n + 2 : Nat) : Int) = (n : Int) + 2 := by omega
        rw [e1] at this
        simp [hlen2, c0', c2, ok3, this, endD, encRd]
end K75

set_option Elab.async false
set_option linter.all false
set_option maxRecDepth 100000
set_option maxHeartbeats 1000000
namespace K75
open PySem PySem.Spec PyProof.Rows L2 DL TL
/-! ### draws -/
theorem law_cell_ok {ns : List Int} {k : Nat} : fn__law_cell [.scr ns, .int k] = some (.val (.int (ns.getD k 0))) := by
  show (sm__law_cell [some (.scr ns), some (.int k)] []).bind endD = _
  unfold sm__law_cell
  by_cases c : k < ns.length
  · have c' : (k : Int) < (ns.length : Int) := by omega
    have hx : atI ns (k : Int) = some (ns.getD k 0) := atI_nat (k := k) (by rw [List.getD_eq_getElem?_getD, List.getElem?_eq_getElem c]; rfl) rfl
    simp [c', hx, endD, retD, deepD, depthD]
  · have c' : ¬ (k : Int) < (ns.length : Int) := by omega
    have hg : ns.getD k 0 = 0 := by rw [List.getD_eq_getElem?_getD, List.getElem?_eq_none (by omega)]; rfl
    rw [hg]
    simp [c', endD, retD, deepD, depthD]
/-- each draw lies within its size -/
def Drawn (sizes ds : List Int) : Prop := ds.length = sizes.length ∧ ∀ (i : Nat) (d z : Int), ds[i]? = some d → sizes[i]? = some z → 0 ≤ d ∧ d < z
def SizeOk (z : Int) : Prop := 0 < z ∧ z < 1073741824
theorem drawn_push {sizes ds : List Int} {i : Nat} {d z : Int} (hl : ds.length = i) (h : ∀ (i : Nat) (d z : Int), ds[i]? = some d → sizes[i]? = some z → 0 ≤ d ∧ d < z) (hz : sizes[i]? = some z) (h1 : 0 ≤ d ∧ d < z) :
    ∀ (j : Nat) (d' z' : Int), (ds ++ [d])[j]? = some d' → sizes[j]? = some z' → 0 ≤ d' ∧ d' < z' := by
  intro j d' z' e1 e2
  by_cases c : j < ds.length
  · rw [List.getElem?_append_left c] at e1
    exact h j d' z' e1 e2
  · rw [List.getElem?_append_right (by omega)] at e1
    have hj : j - ds.length = 0 := by
      have := (List.getElem?_eq_some_iff.mp e1).1
      simp at this
      omega
    rw [hj] at e1
    cases e1
    have : j = i := by omega
    subst this
    rw [hz] at e2
    cases e2
    exact h1
theorem cMul_l {a b : Int} (h1 : 0 ≤ a) (h2 : a < 18446744073709551616) : cMul a b = true := by
  have e : (2 : Int) ^ 64 = 18446744073709551616 := by decide
  unfold cMul
  rw [e, decide_eq_true (show -18446744073709551616 < a by omega), decide_eq_true h2]
  rfl
theorem cMul_r {a b : Int} (h1 : 0 ≤ b) (h2 : b < 18446744073709551616) : cMul a b = true := by
  have e : (2 : Int) ^ 64 = 18446744073709551616 := by decide
  unfold cMul
  rw [e, decide_eq_true (show -18446744073709551616 < b by omega), decide_eq_true h2, Bool.or_comm]
  rfl
theorem law_draws_ok {c : Int} {sizes : List Int} (hs : ∀ z ∈ sizes, SizeOk z) (hl : sizes.length ≤ 100) :
    ∃ ds : List Int, fn__law_draws [.int c, .lst (sizes.map .int)] = some (.lstF (ds.map .int)) ∧ Drawn sizes ds := by
  have e0 : fn__law_draws [.int c, .lst (sizes.map .int)] = (sm__law_draws [some (.int c), some (.lst (sizes.map .int)), none, none, none, none] []).bind endD := rfl
  rw [e0]
  unfold sm__law_draws
  have i1 : sSet 2 (liftM (sBi .abs (sCons (sVar 0) sNil))) [some (.int c), some (.lst (sizes.map .int)), none, none, none, none] [] = some (.nx [some (.int c), some (.lst (sizes.map .int)), some (.int (if c < 0 then -c else c)), none, none, none] []) := by simp
  have i2 : ∀ r : Option D, sSet 3 (mLst nNil) [some (.int c), some (.lst (sizes.map .int)), r, none, none, none] [] = some (.nx [some (.int c), some (.lst (sizes.map .int)), r, some (.ref 0), none, none] [.lst []]) := fun r => by simp [ownM]
  rw [m_seq, i1]
  dsimp only
  rw [m_seq, i2]
  dsimp only
  rw [m_seq]
  have hr : listI (iRange1 (sCons (sBi .len (sCons (sVar 1) sNil)) sNil) [some (.int c), some (.lst (sizes.map .int)), some (.int (if c < 0 then -c else c)), some (.ref 0), none, none] [.lst []]) (some (rngL 0 sizes.length)) := by
    have := li_range1 (l := sCons (sBi .len (sCons (sVar 1) sNil)) sNil) (ρ := [some (.int c), some (.lst (sizes.map .int)), some (.int (if c < 0 then -c else c)), some (.ref 0), none, none]) (h := [.lst []]) (j := (sizes.length : Int)) (by simp) (by omega) (small62 (by rw [sizeLine_eq]; omega))
    rw [Int.toNat_natCast] at this
    exact this
  rw [sFor_list hr]
  obtain ⟨ρ', h', e, r, ds, v4, v5, rfl, rfl, q1, q2⟩ := forL_ix (gx := gxName 4) (body := sb__law_draws_1) (fun i ρ h => ∃ (r : Int) (ds : List Int) (v4 v5 : Option D), ρ = [some (.int c), some (.lst (sizes.map .int)), some (.int r), some (.ref 0), v4, v5] ∧ h = [.lst (ds.map .int)] ∧ ds.length = i ∧ ∀ (i : Nat) (d z : Int), ds[i]? = some d → sizes[i]? = some z → 0 ≤ d ∧ d < z)
    (xs := rngL 0 sizes.length) (ρ := [some (.int c), some (.lst (sizes.map .int)), some (.int (if c < 0 then -c else c)), some (.ref 0), none, none]) (h := [.lst []])
    (fun i d ρ h hd ⟨r, ds, v4, v5, e1, e2, e3, e4⟩ => by
      subst e1 e2
      obtain ⟨hi, rfl⟩ := rng_get hd
      rw [Int.zero_add]
      obtain ⟨z, hz⟩ : ∃ z, sizes[i]? = some z := ⟨_, List.getElem?_eq_getElem hi⟩
      obtain ⟨z1, z2⟩ := hs z (List.mem_of_getElem? hz)
      have hx : ∀ h : List Cell, ixD h (.lst (sizes.map .int)) (.int (i : Int)) = some (.int z) := fun h => by
        rw [x_lst]; exact atI_nat (k := i) (by rw [List.getElem?_map, hz]; rfl) rfl
      have hap : ∀ d : Int, mutEnd .append (.ref 0) [.int d] [.lst (ds.map .int)] = some (.ok .non [.lst ((ds ++ [d]).map .int)]) := fun d => by
        rw [u_append (xs := ds.map .int) rfl (by rw [List.length_map, sizeLine_eq]; omega)]
        simp
      have hp : cPow 10 18 = true := by decide
      refine ⟨_, rfl, ?_⟩
      by_cases q : (1000000000000000000 : Int) ≤ (if c < 0 then -c else c)
      · refine ⟨_, _, .inl ?_, r / z, ds ++ [r % z], some (.int i), v5, rfl, rfl, by simp [e3], drawn_push e3 e4 hz ⟨Int.emod_nonneg _ (by omega), Int.emod_lt_of_pos _ z1⟩⟩
        simp [sb__law_draws_1, hp, q, hx, hap, z1, z2]
      · have w1 : 0 ≤ (if c < 0 then -c else c) % 2147483647 := Int.emod_nonneg _ (by omega)
        have w2 : (if c < 0 then -c else c) % 2147483647 < 2147483647 := Int.emod_lt_of_pos _ (by omega)
        obtain ⟨a, ha⟩ : ∃ a, (if c < 0 then -c else c) % 2147483647 = a := ⟨_, rfl⟩
        rw [ha] at w1 w2
        have k1 : cMul (a + 1) (2 * (i : Int) + 7) = true := cMul_l (by omega) (by omega)
        have k2 : cMul ((a + 1) * (2 * (i : Int) + 7)) 48271 = true := cMul_r (by omega) (by omega)
        have k0 : cMul 2 (i : Int) = true := cMul_l (by omega) (by omega)
        have w3 : 0 ≤ (a + 1) * (2 * (i : Int) + 7) * 48271 % 2147483647 := Int.emod_nonneg _ (by omega)
        have w4 : (a + 1) * (2 * (i : Int) + 7) * 48271 % 2147483647 < 2147483647 := Int.emod_lt_of_pos _ (by omega)
        have k3 : cMul ((a + 1) * (2 * (i : Int) + 7) * 48271 % 2147483647 + (i : Int)) ((a + 1) * (2 * (i : Int) + 7) * 48271 % 2147483647 + 69621) = true := cMul_r (by omega) (by omega)
        refine ⟨_, _, .inl ?_, r, ds ++ [(((a + 1) * (2 * (i : Int) + 7) * 48271 % 2147483647 + (i : Int)) * ((a + 1) * (2 * (i : Int) + 7) * 48271 % 2147483647 + 69621) % 1000000007) / 11 % z], some (.int i), some (.int (((a + 1) * (2 * (i : Int) + 7) * 48271 % 2147483647 + (i : Int)) * ((a + 1) * (2 * (i : Int) + 7) * 48271 % 2147483647 + 69621) % 1000000007)), rfl, rfl, by simp [e3], drawn_push e3 e4 hz ⟨Int.emod_nonneg _ (by omega), Int.emod_lt_of_pos _ z1⟩⟩
        simp [sb__law_draws_1, hp, q, hx, hap, z1, z2, k0, k1, k2, k3, ha]) ⟨_, [], _, _, rfl, rfl, rfl, by simp⟩
  rw [e]
  refine ⟨ds, ?_, by rw [rngL_len] at q1; exact q1, q2⟩
  have hr : retD [.lst (ds.map .int)] (.ref 0) = some (.rt (.lstF (ds.map .int))) := ret_ref rfl (noRefs_ints _) (Nat.lt_of_le_of_lt (depl_ints _) (by decide))
  simp [hr, endD]
end K75

set_option Elab.async false
set_option linter.all false
set_option maxRecDepth 100000
set_option maxHeartbeats 1000000
namespace K75
open PySem PySem.Spec PyProof.Rows L2 DL TL
theorem map_erase {α β : Type} (f : α → β) : ∀ (xs : List α) (k : Nat), (xs.map f).eraseIdx k = (xs.eraseIdx k).map f
  | [], _ => rfl
  | x :: xs, 0 => rfl
  | x :: xs, k + 1 => by
    show f x :: (xs.map f).eraseIdx k = f x :: (xs.eraseIdx k).map f
    rw [map_erase f xs k]
theorem erase_perm {α : Type} : ∀ {xs : List α} {k : Nat} (h : k < xs.length), (xs[k] :: xs.eraseIdx k).Perm xs
  | x :: xs, 0, _ => .refl _
  | x :: xs, k + 1, h => by
    have ih := erase_perm (xs := xs) (k := k) (by simpa using h)
    exact (List.Perm.swap x _ _).trans (ih.cons x)
/-- houses that are heard -/
def HeardOk (size : Nat) (hs : List Int) : Prop := hs.length ≤ 4 ∧ hs.Pairwise (· < ·) ∧ ∀ x ∈ hs, 0 ≤ x ∧ x < size
theorem heard_sorted {size : Nat} {hs : List Int} (h1 : hs.length ≤ 4) (h2 : hs.Nodup) (h3 : ∀ x ∈ hs, 0 ≤ x ∧ x < size) : HeardOk size (sortI hs) := by
  have p := sortI_perm hs
  refine ⟨by rw [p.length_eq]; exact h1, ?_, fun x hx => h3 x (p.mem_iff.mp hx)⟩
  have hn : (sortI hs).Nodup := p.nodup_iff.mpr h2
  exact List.Pairwise.imp₂ (fun a b h1 h2 => by omega) (sortI_sorted hs) hn
theorem law_heard_ok {d0 d1 d2 d3 d4 : Int} {size : Nat} (h0 : 0 ≤ d0 ∧ d0 ≤ 4) (hs : size ≤ 12) :
    ∃ hs : List Int, fn__law_heard [.lst [.int d0, .int d1, .int d2, .int d3, .int d4, .int 0], .int size, .int 0] = some (.val (.tup (hs.map .int))) ∧ HeardOk size hs := by
  have e0 : fn__law_heard [.lst [.int d0, .int d1, .int d2, .int d3, .int d4, .int 0], .int size, .int 0] = (sm__law_heard [some (.lst [.int d0, .int d1, .int d2, .int d3, .int d4, .int 0]), some (.int size), some (.int 0), none, none, none, none] []).bind endD := rfl
  rw [e0]
  unfold sm__law_heard
  generalize hdr : D.lst [.int d0, .int d1, .int d2, .int d3, .int d4, .int 0] = dr
  have hd : ∀ (h : List Cell) (i : Nat), i < 4 → ∃ d, ixD h dr (.int ((i : Int) + 1)) = some (.int d) := fun h i hi => by
    subst hdr
    have : i = 0 ∨ i = 1 ∨ i = 2 ∨ i = 3 := by omega
    rcases this with rfl | rfl | rfl | rfl
    · exact ⟨d1, by rw [x_lst]; exact atI_nat (k := 1) rfl rfl⟩
    · exact ⟨d2, by rw [x_lst]; exact atI_nat (k := 2) rfl rfl⟩
    · exact ⟨d3, by rw [x_lst]; exact atI_nat (k := 3) rfl rfl⟩
    · exact ⟨d4, by rw [x_lst]; exact atI_nat (k := 4) rfl rfl⟩
  have hx0 : ∀ h : List Cell, ixD h dr (.int 0) = some (.int d0) := fun h => by subst hdr; rw [x_lst]; exact atI_nat (k := 0) rfl rfl
  have hx5 : ∀ h : List Cell, ixD h dr (.int 5) = some (.int 0) := fun h => by subst hdr; rw [x_lst]; exact atI_nat (k := 5) rfl rfl
  clear hdr
  have i1 : sSet 3 (mComp [6] (iRange1 (sCons (sVar 1) sNil)) (gxName 6) sYes (sVar 6)) [some dr, some (.int size), some (.int 0), none, none, none, none] [] = some (.nx [some dr, some (.int size), some (.int 0), some (.ref 0), none, none, none] [.lst (rngL 0 size)]) := by
    have hr := li_range1 (l := sCons (sVar 1) sNil) (ρ := [some dr, some (.int size), some (.int 0), none, none, none, none]) (h := []) (j := (size : Int)) (by simp) (by omega) (small62 (by rw [sizeLine_eq]; omega))
    rw [Int.toNat_natCast] at hr
    have hc := mComp_list (vs := [6]) (gx := gxName 6) (tst := sYes) (elt := sVar 6) hr (by rw [rngL_len, sizeLine_eq]; omega) (ds := rngL 0 size) (by
      rw [rngL_map]
      exact comL_map fun i hi => ⟨_, rfl, rfl, rfl⟩)
    rw [m_set, hc]
    rfl
  have i2 : sSet 4 (mLst nNil) [some dr, some (.int size), some (.int 0), some (.ref 0), none, none, none] [.lst (rngL 0 size)] = some (.nx [some dr, some (.int size), some (.int 0), some (.ref 0), some (.ref 1), none, none] [.lst (rngL 0 size), .lst []]) := by simp [ownM]
  rw [m_seq, i1]
  dsimp only
  rw [m_seq, i2]
  dsimp only
  rw [m_seq]
  obtain ⟨n, hn⟩ : ∃ n : Nat, (if (size : Int) < d0 then (size : Int) else d0) = n := ⟨(if (size : Int) < d0 then (size : Int) else d0).toNat, by split <;> omega⟩
  have hn4 : n ≤ 4 ∧ n ≤ size := by split at hn <;> omega
  have hr : listI (iRange1 (sCons (sBi .min (sCons (sIx (sVar 0) (sCst (.int 0))) (sCons (sVar 1) sNil))) sNil) [some dr, some (.int size), some (.int 0), some (.ref 0), some (.ref 1), none, none] [.lst (rngL 0 size), .lst []]) (some (rngL 0 n)) := by
    have := li_range1 (l := sCons (sBi .min (sCons (sIx (sVar 0) (sCst (.int 0))) (sCons (sVar 1) sNil))) sNil) (ρ := [some dr, some (.int size), some (.int 0), some (.ref 0), some (.ref 1), none, none]) (h := [.lst (rngL 0 size), .lst []]) (j := (n : Int)) (by simp [hx0, hn]) (by omega) (small62 (by rw [sizeLine_eq]; omega))
    rw [Int.toNat_natCast] at this
    exact this
  rw [sFor_list hr]
  obtain ⟨ρ', h', e, left, heard, v5, rfl, rfl, q1, q2, q3, q4, q5⟩ := forL_ix (gx := gxName 5) (body := sb__law_heard_1) (fun i ρ h => ∃ (left heard : List Int) (v5 : Option D), ρ = [some dr, some (.int size), some (.int 0), some (.ref 0), some (.ref 1), v5, none] ∧ h = [.lst (left.map .int), .lst (heard.map .int)] ∧ left.length + i = size ∧ heard.length = i ∧ (left ++ heard).Nodup ∧ (∀ x ∈ left, 0 ≤ x ∧ x < size) ∧ ∀ x ∈ heard, 0 ≤ x ∧ x < size)
    (xs := rngL 0 n) (ρ := [some dr, some (.int size), some (.int 0), some (.ref 0), some (.ref 1), none, none]) (h := [.lst (rngL 0 size), .lst []])
    (fun i d ρ h hd1 ⟨left, heard, v5, e1, e2, e3, e4, e5, e6, e7⟩ => by
      subst e1 e2
      obtain ⟨hi, rfl⟩ := rng_get hd1
      rw [Int.zero_add]
      obtain ⟨d, hdd⟩ := hd [.lst (left.map .int), .lst (heard.map .int)] i (by omega)
      have hpos : (0 : Int) < (left.length : Int) := by omega
      obtain ⟨k, hk⟩ : ∃ k : Nat, d % (left.length : Int) = k := ⟨(d % (left.length : Int)).toNat, by have := Int.emod_nonneg d (show (left.length : Int) ≠ 0 by omega); omega⟩
      have hkl : k < left.length := by have := Int.emod_lt_of_pos d hpos; omega
      have hlen : biD .len [.lst (left.map .int), .lst (heard.map .int)] [.ref 0] = some (.int left.length) := by rw [l_ref (xs := left.map .int) rfl, List.length_map]
      obtain ⟨x, hx⟩ : ∃ x, left[k]? = some x := ⟨_, List.getElem?_eq_getElem hkl⟩
      have hpop : mutEnd .popAt (.ref 0) [.int (d % (left.length : Int))] [.lst (left.map .int), .lst (heard.map .int)] = some (.ok (.int x) [.lst ((left.eraseIdx k).map .int), .lst (heard.map .int)]) := by
        rw [u_popAt (xs := left.map .int) (d := .int x) (k := k) rfl (by rw [List.getElem?_map, hx]; rfl) hk (small63 (by omega)), map_erase]
        rfl
      have hap : mutEnd .append (.ref 1) [.int x] [.lst ((left.eraseIdx k).map .int), .lst (heard.map .int)] = some (.ok .non [.lst ((left.eraseIdx k).map .int), .lst ((heard ++ [x]).map .int)]) := by
        rw [u_append (xs := heard.map .int) rfl (by rw [List.length_map, sizeLine_eq]; omega)]
        simp
      have hperm : (left.eraseIdx k ++ (heard ++ [x])).Perm (left ++ heard) := by
        have h1 : (x :: left.eraseIdx k).Perm left := by
          have := erase_perm hkl
          rw [List.getElem?_eq_getElem hkl] at hx
          cases hx
          exact this
        have h2 : (left.eraseIdx k ++ (heard ++ [x])).Perm (x :: (left.eraseIdx k ++ heard)) := by
          rw [← List.append_assoc]
          exact List.perm_append_comm (l₁ := left.eraseIdx k ++ heard) (l₂ := [x])
        exact h2.trans (h1.append_right heard)
      have hxm : x ∈ left := List.mem_of_getElem? hx
      refine ⟨_, rfl, _, _, .inl ?_, left.eraseIdx k, heard ++ [x], some (.int i), rfl, rfl, by rw [List.length_eraseIdx_of_lt hkl]; omega, by simp [e4], hperm.nodup_iff.mpr e5, fun y hy => e6 y (List.mem_of_mem_eraseIdx hy), fun y hy => ?_⟩
      · simp [sb__law_heard_1, hdd, hlen, show 0 < left.length by omega, hpop, hap]
      · rcases List.mem_append.mp hy with z | z
        · exact e7 y z
        · rw [List.mem_singleton.mp z]; exact e6 x hxm) ⟨(List.range size).map fun i : Nat => (i : Int), [], none, rfl, by
          unfold rngL
          simp, by simp, rfl, by
          rw [List.append_nil]
          exact List.Pairwise.map _ (fun a b h => by omega) (List.nodup_range (n := size)), fun x hx => by
            obtain ⟨i, hi, rfl⟩ := List.mem_map.mp hx
            have := List.mem_range.mp hi
            omega, fun x hx => by simp at hx⟩
  rw [e]
  rw [rngL_len] at q1 q2
  have hsd : biD .sorted [.lst (left.map .int), .lst (heard.map .int)] [.ref 1] = some (.lst ((sortI heard).map .int)) := l_sorted rfl
  have hrt : retD [.lst (left.map .int), .lst (heard.map .int)] (.tup ((sortI heard).map .int)) = some (.rt (.val (.tup ((sortI heard).map .int)))) := ret_val (by simp) (by have := depl_ints (sortI heard); simp only [dep, depthD]; omega)
  refine ⟨sortI heard, ?_, heard_sorted (by omega) (List.nodup_append.mp q3).2.1 q5⟩
  simp [hx5, hsd, hrt, endD]
end K75

set_option Elab.async false
set_option linter.all false
set_option maxRecDepth 100000
set_option maxHeartbeats 1000000
namespace K75
open PySem PySem.Spec PyProof.Rows L2 DL TL
def RowOk (size : Nat) (s : List (Nat × Int)) : Prop := s.length ≤ 4 ∧ (s.map (·.1)).Pairwise (· < ·) ∧ ∀ p ∈ s, p.1 < size ∧ (p.2 = -1 ∨ p.2 = 0 ∨ p.2 = 1)
theorem map_ix {α : Type} (xs : List α) (g : Nat → α) (h : ∀ i, xs[i]? = if i < xs.length then some (g i) else none) : (List.range xs.length).map g = xs := by
  apply List.ext_getElem?
  intro i
  rw [h i, List.getElem?_map]
  by_cases c : i < xs.length
  · rw [if_pos c, List.getElem?_range c]; rfl
  · rw [if_neg c, List.getElem?_eq_none (by simpa using c)]; rfl
theorem law_hearings_ok {c : Int} {size : Nat} (hs : size ≤ 12) : ∃ s : List (Nat × Int), fn__law_hearings [.int c, .int size, .int 4] = some (.val (encS s)) ∧ RowOk size s := by
  obtain ⟨ds, h1, h2, h3⟩ := law_draws_ok (c := c) (sizes := [5, 12, 11, 10, 9, 3, 3, 3, 3]) (by unfold SizeOk; decide) (by decide)
  obtain ⟨d0, d1, d2, d3, d4, d5, d6, d7, d8, rfl⟩ : ∃ d0 d1 d2 d3 d4 d5 d6 d7 d8, ds = [d0, d1, d2, d3, d4, d5, d6, d7, d8] := by
    rcases ds with _ | ⟨d0, _ | ⟨d1, _ | ⟨d2, _ | ⟨d3, _ | ⟨d4, _ | ⟨d5, _ | ⟨d6, _ | ⟨d7, _ | ⟨d8, _ | ⟨d9, r⟩⟩⟩⟩⟩⟩⟩⟩⟩⟩ <;> simp at h2
    exact ⟨_, _, _, _, _, _, _, _, _, rfl⟩
  have k0 := h3 0 _ _ rfl rfl
  have k5 := h3 5 _ _ rfl rfl
  have k6 := h3 6 _ _ rfl rfl
  have k7 := h3 7 _ _ rfl rfl
  have k8 := h3 8 _ _ rfl rfl
  obtain ⟨hs1, e1, e2, e3, e4⟩ := law_heard_ok (d0 := d0) (d1 := d1) (d2 := d2) (d3 := d3) (d4 := d4) (size := size) ⟨k0.1, by omega⟩ hs
  let g : Nat → Nat × Int := fun i => ((hs1.getD i 0).toNat, [d5, d6, d7, d8].getD i 0 - 1)
  refine ⟨(List.range hs1.length).map g, ?_, by simp; exact e2, ?_, ?_⟩
  · have e0 : fn__law_hearings [.int c, .int size, .int 4] = (sm__law_hearings [some (.int c), some (.int size), some (.int 4), none, none, none] []).bind endD := rfl
    rw [e0]
    unfold sm__law_hearings
    have a1 : ∀ h : List Cell, appF fn__law_draws h [.int c, .lst [.int 5, .int 12, .int 11, .int 10, .int 9, .int 3, .int 3, .int 3, .int 3]] = some (.ok (.lst [.int d0, .int d1, .int d2, .int d3, .int d4, .int d5, .int d6, .int d7, .int d8])) := fun h => app_lst rfl h1
    have a2 : ∀ h : List Cell, appF fn__law_heard h [.lst [.int d0, .int d1, .int d2, .int d3, .int d4, .int 0], .int size, .int 0] = some (.ok (.tup (hs1.map .int))) := fun h => app_val rfl e1
    have sl : ∀ h : List Cell, slD h (.lst [.int d0, .int d1, .int d2, .int d3, .int d4, .int d5, .int d6, .int d7, .int d8]) none (some 5) = some (.lst [.int d0, .int d1, .int d2, .int d3, .int d4]) := fun h => rfl
    have i1 : sSet 3 (liftM (sCall 2 fn__law_draws (sCons (sVar 0) (sCons (sLst (sCons (sBin .Add (sVar 2) (sCst (.int 1))) (sCons (sCst (.int 12)) (sCons (sCst (.int 11)) (sCons (sCst (.int 10)) (sCons (sCst (.int 9)) (sCons (sCst (.int 3)) (sCons (sCst (.int 3)) (sCons (sCst (.int 3)) (sCons (sCst (.int 3)) sNil)))))))))) sNil)))) [some (.int c), some (.int size), some (.int 4), none, none, none] [] = some (.nx [some (.int c), some (.int size), some (.int 4), some (.lst [.int d0, .int d1, .int d2, .int d3, .int d4, .int d5, .int d6, .int d7, .int d8]), none, none] []) := by
      have o9 : ∀ a b c d e f g h i : D, okLen .lst [a, b, c, d, e, f, g, h, i] = some (.ok (.lst [a, b, c, d, e, f, g, h, i])) := fun _ _ _ _ _ _ _ _ _ => okLen_lit rfl
      simp [o9, a1]
    rw [m_seq, i1]
    dsimp only
    have i2 : sSet 4 (liftM (sCall 3 fn__law_heard (sCons (sBin .Add (sSl (sVar 3) none (some (sCst (.int 5)))) (sLst (sCons (sCst (.int 0)) sNil))) (sCons (sVar 1) (sCons (sCst (.int 0)) sNil))))) [some (.int c), some (.int size), some (.int 4), some (.lst [.int d0, .int d1, .int d2, .int d3, .int d4, .int d5, .int d6, .int d7, .int d8]), none, none] [] = some (.nx [some (.int c), some (.int size), some (.int 4), some (.lst [.int d0, .int d1, .int d2, .int d3, .int d4, .int d5, .int d6, .int d7, .int d8]), some (.tup (hs1.map .int)), none] []) := by
      have oc : ∀ h : List Cell, binD .Add h (.lst [.int d0, .int d1, .int d2, .int d3, .int d4]) (.lst [.int 0]) = some (.lst [.int d0, .int d1, .int d2, .int d3, .int d4, .int 0]) := fun h => by
        rw [o_add_ll, if_pos (by rw [sizeLine_eq]; show 6 ≤ 16777216; decide)]
        rfl
      simp -implicitDefEqProofs [ok1, a2, sl, oc, -o_add_ll]
    rw [m_seq, i2]
    dsimp only
    have hr := li_range1 (l := sCons (sBi .len (sCons (sVar 4) sNil)) sNil) (ρ := [some (.int c), some (.int size), some (.int 4), some (.lst [.int d0, .int d1, .int d2, .int d3, .int d4, .int d5, .int d6, .int d7, .int d8]), some (.tup (hs1.map .int)), none]) (h := []) (j := (hs1.length : Int)) (by simp) (by omega) (small62 (by rw [sizeLine_eq]; omega))
    rw [Int.toNat_natCast] at hr
    have hc := sComp_list (vs := [5]) (gx := gxName 5) (tst := sYes) (elt := se__law_hearings_1) hr (by rw [rngL_len, sizeLine_eq]; omega) (ds := ((List.range hs1.length).map g).map encH) (by
      rw [rngL_map, List.map_map]
      refine comL_map fun i hi => ⟨_, rfl, rfl, ?_⟩
      have hi := List.mem_range.mp hi
      obtain ⟨x, hx⟩ : ∃ x, hs1[i]? = some x := ⟨_, List.getElem?_eq_getElem hi⟩
      have hxm := e4 x (List.mem_of_getElem? hx)
      have x1 : ∀ h : List Cell, ixD h (.tup (hs1.map .int)) (.int (i : Int)) = some (.int x) := fun h => by
        rw [x_tup]; exact atI_nat (k := i) (by rw [List.getElem?_map, hx]; rfl) rfl
      have hg : encH (g i) = .tup [.int x, .int ([d5, d6, d7, d8].getD i 0 - 1)] := by
        show D.tup [.int ((hs1.getD i 0).toNat : Nat), _] = _
        rw [List.getD_eq_getElem?_getD, hx]
        show D.tup [.int ((x.toNat : Nat) : Int), _] = _
        rw [show ((x.toNat : Nat) : Int) = x by omega]
      have x2 : ∀ h : List Cell, ixD h (.lst [.int d0, .int d1, .int d2, .int d3, .int d4, .int d5, .int d6, .int d7, .int d8]) (.int (5 + (i : Int))) = some (.int ([d5, d6, d7, d8].getD i 0)) := fun h => by
        rw [x_lst]
        have : i = 0 ∨ i = 1 ∨ i = 2 ∨ i = 3 := by omega
        rcases this with rfl | rfl | rfl | rfl
        · exact atI_nat (k := 5) rfl rfl
        · exact atI_nat (k := 6) rfl rfl
        · exact atI_nat (k := 7) rfl rfl
        · exact atI_nat (k := 8) rfl rfl
      rw [Function.comp_apply, hg]
      simp only [Int.zero_add]
      simp [se__law_hearings_1, x1, x2, ok2])
    have hrt : retD [] (encS ((List.range hs1.length).map g)) = some (.rt (.val (encS ((List.range hs1.length).map g)))) := ret_val (noRefs_H _) (by have := dep_S ((List.range hs1.length).map g); simp only [depthD]; omega)
    rw [encS] at hrt ⊢
    rw [m_ret, m_lift, m_bi, m_cons, hc, m_nil, m_consL, bndL_ok, l_tuple_l, vok_some]
    dsimp only
    rw [m_bndS_ok, hrt]
    rfl
  · rw [List.map_map]
    have : (List.range hs1.length).map ((·.1) ∘ g) = hs1.map Int.toNat := by
      have := map_ix (hs1.map Int.toNat) (fun i => (hs1.getD i 0).toNat) (fun i => by
        rw [List.getElem?_map, List.length_map]
        by_cases c : i < hs1.length
        · rw [if_pos c, List.getElem?_eq_getElem c, List.getD_eq_getElem?_getD, List.getElem?_eq_getElem c]; rfl
        · rw [if_neg c, List.getElem?_eq_none (by omega)]; rfl)
      rw [List.length_map] at this
      exact this
    rw [this, List.pairwise_map]
    refine List.Pairwise.imp_of_mem (fun {a b} ha hb h => ?_) e3
    have := e4 a ha
    have := e4 b hb
    omega
  · intro p hp
    obtain ⟨i, hi, rfl⟩ := List.mem_map.mp hp
    have hi := List.mem_range.mp hi
    have hxm := e4 hs1[i] (List.getElem_mem hi)
    refine ⟨?_, ?_⟩
    · show (hs1.getD i 0).toNat < size
      rw [List.getD_eq_getElem?_getD, List.getElem?_eq_getElem hi]
      show (hs1[i]).toNat < size
      omega
    · show [d5, d6, d7, d8].getD i 0 - 1 = -1 ∨ [d5, d6, d7, d8].getD i 0 - 1 = 0 ∨ [d5, d6, d7, d8].getD i 0 - 1 = 1
      have : i = 0 ∨ i = 1 ∨ i = 2 ∨ i = 3 := by omega
      rcases this with rfl | rfl | rfl | rfl <;> simp <;> omega
theorem wide_signs_ok {ns : List Int} {size : Nat} (hs : size ≤ 12) :
    ∃ signs : List (List (Nat × Int)), fn__law_wide_signs [.scr ns, .int 1, .int size, .int 4] = some (.val (.tup (signs.map encS))) ∧ signs.length = size ∧ ∀ s ∈ signs, RowOk size s := by
  obtain ⟨f, hf⟩ := Classical.skolem.mp (fun c : Int => law_hearings_ok (c := c) hs)
  let cell : Nat → Int := fun i => ns.getD (1 + i) 0 + 53 * i
  refine ⟨(List.range size).map fun i => f (cell i), ?_, by simp, fun s hs => by obtain ⟨i, _, rfl⟩ := List.mem_map.mp hs; exact (hf _).2⟩
  have e0 : fn__law_wide_signs [.scr ns, .int 1, .int size, .int 4] = (sm__law_wide_signs [some (.scr ns), some (.int 1), some (.int size), some (.int 4), none, none, none] []).bind endD := rfl
  rw [e0]
  unfold sm__law_wide_signs
  have hr := li_range1 (l := sCons (sVar 2) sNil) (ρ := [some (.scr ns), some (.int 1), some (.int size), some (.int 4), none, none, none]) (h := []) (j := (size : Int)) (by simp) (by omega) (small62 (by rw [sizeLine_eq]; omega))
  rw [Int.toNat_natCast] at hr
  have hc := sComp_list (vs := [5]) (gx := gxName 5) (tst := sYes) (elt := se__law_wide_signs_1) hr (by rw [rngL_len, sizeLine_eq]; omega) (ds := (List.range size).map fun i => .int (cell i)) (by
    rw [rngL_map]
    refine comL_map fun i hi => ⟨_, rfl, rfl, ?_⟩
    have a1 : ∀ h : List Cell, appF fn__law_cell h [.scr ns, .int (1 + (i : Int))] = some (.ok (.int (ns.getD (1 + i) 0))) := fun h => app_val rfl (by
      have := law_cell_ok (ns := ns) (k := 1 + i)
      rw [show ((1 + i : Nat) : Int) = 1 + (i : Int) by omega] at this
      exact this)
    have k0 : cMul 53 (i : Int) = true := cMul_l (by omega) (by omega)
    simp [se__law_wide_signs_1, a1, k0, cell] )
  have hc2 := sComp_list (vs := [6]) (gx := gxName 6) (tst := sYes) (elt := se__law_wide_signs_2) (ρ := [some (.scr ns), some (.int 1), some (.int size), some (.int 4), some (.lst ((List.range size).map fun i => .int (cell i))), none, none]) (h := []) (li_lst (f := sVar 4) rfl) (by rw [List.length_map, List.length_range, sizeLine_eq]; omega) (ds := (List.range size).map fun i => encS (f (cell i))) (by
    refine comL_map fun i hi => ⟨_, rfl, rfl, ?_⟩
    have a1 : ∀ h : List Cell, appF fn__law_hearings h [.int (cell i), .int size, .int 4] = some (.ok (encS (f (cell i)))) := fun h => app_val rfl (hf (cell i)).1
    simp [se__law_wide_signs_2, a1])
  have i1 : sSet 4 (liftM (sComp [5] (iRange1 (sCons (sVar 2) sNil)) (gxName 5) sYes se__law_wide_signs_1)) [some (.scr ns), some (.int 1), some (.int size), some (.int 4), none, none, none] [] = some (.nx [some (.scr ns), some (.int 1), some (.int size), some (.int 4), some (.lst ((List.range size).map fun i => .int (cell i))), none, none] []) := by
    rw [m_set, m_lift, hc]
    rfl
  rw [m_seq, i1]
  dsimp only
  rw [m_ret, m_lift, m_bi, m_cons, hc2, m_nil, m_consL, bndL_ok, l_tuple_l, vok_some]
  dsimp only
  have ee : ((List.range size).map fun i => encS (f (cell i))) = ((List.range size).map fun i => f (cell i)).map encS := by rw [List.map_map]; rfl
  have hrt : retD [] (.tup (((List.range size).map fun i => f (cell i)).map encS)) = some (.rt (.val (.tup (((List.range size).map fun i => f (cell i)).map encS)))) := ret_val (noRefs_S _) (by have := depl_S ((List.range size).map fun i => f (cell i)); simp only [depthD, dep]; omega)
  rw [m_bndS_ok, ee, hrt]
  rfl
/-! ### the rows as lists -/
def encHL (p : Nat × Int) : D := .lst [.int p.1, .int p.2]
def encSL (s : List (Nat × Int)) : D := .lst (s.map encHL)
theorem noRefs_SL (s : List (List (Nat × Int))) : noRefs (s.map encSL) = true := noRefs_map (e := encSL) (fun s => show noRefs (s.map encHL) = true from noRefs_map (e := encHL) (fun _ => rfl) s) s
theorem dep_SL (s : List (Nat × Int)) : dep (encSL s) ≤ 2 := Nat.succ_le_succ (depl_map (e := encHL) (k := 1) (fun p => by simp [encHL, dep, depl]) s)
theorem depl_SL (s : List (List (Nat × Int))) : depl (s.map encSL) ≤ 2 := depl_map dep_SL s
theorem listed_ok {signs : List (List (Nat × Int))} (hl : signs.length ≤ 12) (hs : ∀ s ∈ signs, s.length ≤ 4) : fn__law_listed_signs [.tup (signs.map encS)] = some (.lstF (signs.map encSL)) := by
  show (sm__law_listed_signs [some (.tup (signs.map encS)), none, none] []).bind endD = _
  unfold sm__law_listed_signs
  have hc := mComp_list (vs := [1]) (gx := gxName 1) (tst := sYes) (elt := se__law_listed_signs_2) (ρ := [some (.tup (signs.map encS)), none, none]) (h := []) (li_tup (f := sVar 0) rfl) (by rw [List.length_map, sizeLine_eq]; omega) (ds := signs.map encSL) (by
    refine comL_map fun s hsm => ⟨_, rfl, rfl, ?_⟩
    exact sComp_list (vs := [2]) (gx := gxName 2) (tst := sYes) (elt := se__law_listed_signs_1) (li_tup (f := sVar 1) (xs := s.map encH) rfl) (by rw [List.length_map, sizeLine_eq]; have := hs s hsm; omega) (by
      refine comL_map fun p hp => ⟨_, rfl, rfl, ?_⟩
      simp [se__law_listed_signs_1, encH, encHL]))
  rw [m_ret, hc, m_bndS_ok]
  have hr : retD [.lst (signs.map encSL)] (.ref 0) = some (.rt (.lstF (signs.map encSL))) := ret_ref rfl (noRefs_SL _) (by have := depl_SL signs; simp only [depthD]; omega)
  show (retD [.lst (signs.map encSL)] (.ref 0)).bind endD = _
  rw [hr]
  rfl
end K75

set_option Elab.async false
set_option linter.all false
set_option maxRecDepth 100000
set_option maxHeartbeats 1000000
namespace K75
open PySem PySem.Spec PyProof.Rows L2 DL TL
/-! ### drawn names -/
def nmL (c d l : Nat) : Str := ⟨(c :: List.replicate l d).toArray⟩
theorem tl_nmL (c d l : Nat) : tl (nmL c d l) = c :: List.replicate l d := rfl
theorem abc_at (k : Nat) (hk : k < 26) : ABC.cps.toList[k]? = some (97 + k) := by
  have : ∀ k, k < 26 → ABC.cps.toList[k]? = some (97 + k) := by decide +kernel
  exact this k hk
theorem abc_ok (k : Nat) (hk : k < 26) : chOk (97 + k) = true := by
  have : ∀ k, k < 26 → chOk (97 + k) = true := by decide +kernel
  exact this k hk
theorem abc_ix {h : List Cell} {k : Nat} {i : Int} (hk : k < 26) (hi : i = k) : ixD h (.str "abcdefghijklmnopqrstuvwxyz") (.int i) = some (.str ⟨#[97 + k]⟩) := by
  subst hi
  have e : atI ABC.cps.toList (k : Int) = some (97 + k) := atI_nat (abc_at k hk) rfl
  have hl : ABC.length ≤ sizeLine := by rw [sizeLine_eq]; decide +kernel
  show ixD h (.str ABC) (.int k) = _
  rw [x_str, if_pos hl, e]
  rfl
theorem nm_rep (d l : Nat) : strRep ⟨#[d]⟩ (l + 1) = nmL d d l := ext_tl (by
  rw [tl_strRep, tl_nmL]
  show (List.replicate (l + 1) [d]).flatten = _
  rw [List.replicate_succ, List.flatten_cons]
  have : ∀ l, (List.replicate l [d]).flatten = List.replicate l d := fun l => by
    induction l with
    | zero => rfl
    | succ l ih => rw [List.replicate_succ, List.flatten_cons, ih, List.replicate_succ]; rfl
  rw [this]; rfl)
theorem nm_next (c c2 d l : Nat) : (⟨#[c2]⟩ : Str) ++ cutS (nmL c d l) (some 1) none = nmL c2 d l := ext_tl (by
  rw [tl_append, tl_cut1, tl_nmL, tl_nmL]; rfl)
theorem nm_ok {j d l : Nat} (hj : j < 26) (hd : d < 26) (hl : l < 8) : nameOk (nmL (97 + j) (97 + d) l) = true := by
  unfold nameOk
  have h1 : (nmL (97 + j) (97 + d) l).length = l + 1 := by rw [len_tl, tl_nmL]; simp
  rw [h1, decide_eq_true (by omega), Bool.true_and]
  show ((97 + j) :: List.replicate l (97 + d)).all chOk = true
  rw [List.all_cons, abc_ok j hj, Bool.true_and, List.all_eq_true]
  intro x hx
  rw [List.eq_of_mem_replicate hx]
  exact abc_ok d hd
theorem pairs_get {α : Type} {a b : α} : ∀ {n h : Nat}, h < n → ((List.replicate n [a, b]).flatten)[2 * h]? = some a ∧ ((List.replicate n [a, b]).flatten)[2 * h + 1]? = some b
  | n + 1, 0, _ => ⟨rfl, rfl⟩
  | n + 1, h + 1, hh => by
    have := pairs_get (a := a) (b := b) (n := n) (h := h) (by omega)
    rw [List.replicate_succ, List.flatten_cons, show 2 * (h + 1) = 2 * h + 2 by omega]
    exact this
theorem pairs_map {α β : Type} (f : α → β) (a b : α) : ∀ n, (List.replicate n [f a, f b]).flatten = ((List.replicate n [a, b]).flatten).map f := fun n => by
  simp [List.map_flatten]
theorem pairs_len {α : Type} (a b : α) : ∀ n, ((List.replicate n [a, b]).flatten).length = 2 * n
  | 0 => rfl
  | n + 1 => by rw [List.replicate_succ, List.flatten_cons, List.length_append, pairs_len a b n]; simp; omega
def NamesOk (names : List Str) : Prop := names.Nodup ∧ ∀ n ∈ names, nameOk n = true
theorem names_inner {dr : D} {c : Int} {size d l i : Nat} {names : List Str} {v7 : Option D} (hd : d < 26) (hl : l < 8) (hi : i < 12) (hn : names.length = i) (hx : ∀ h : List Cell, ixD h dr (.int (2 * (i : Int))) = some (.int d)) :
    ∃ (name : Str) (v : Option D), sFor (iRange1 (sCons (sCst (.int 26)) sNil)) (gxName 7) sb__law_names_1 sNext [some (.int c), some (.int size), some dr, some (.str "abcdefghijklmnopqrstuvwxyz"), some (.ref 0), some (.int i), some (.str (nmL (97 + d) (97 + d) l)), v7] [.lst (names.map .str)] =
      some (.nx [some (.int c), some (.int size), some dr, some (.str "abcdefghijklmnopqrstuvwxyz"), some (.ref 0), some (.int i), some (.str name), v] [.lst (names.map .str)]) ∧ nameOk name = true ∧ name ∉ names := by
  have hr : ∀ (ρ : Rho) (h : List Cell), listI (iRange1 (sCons (sCst (.int 26)) sNil) ρ h) (some (rngL 0 26)) := fun ρ h =>
    li_range1 (l := sCons (sCst (.int 26)) sNil) (j := (26 : Nat)) rfl (by omega) (small62 (by rw [sizeLine_eq]; decide))
  rw [sFor_list (hr _ _)]
  obtain ⟨ρ', h', e, r⟩ := forL_ixB (gx := gxName 7) (body := sb__law_names_1)
    (fun t ρ h => (∃ v7, ρ = [some (.int c), some (.int size), some dr, some (.str "abcdefghijklmnopqrstuvwxyz"), some (.ref 0), some (.int i), some (.str (nmL (97 + (d + t) % 26) (97 + d) l)), v7]) ∧ h = [.lst (names.map .str)] ∧ ∀ s, s < t → nmL (97 + (d + s) % 26) (97 + d) l ∈ names)
    (fun ρ h => ∃ j v7, j < 26 ∧ ρ = [some (.int c), some (.int size), some dr, some (.str "abcdefghijklmnopqrstuvwxyz"), some (.ref 0), some (.int i), some (.str (nmL (97 + j) (97 + d) l)), v7] ∧ h = [.lst (names.map .str)] ∧ nmL (97 + j) (97 + d) l ∉ names)
    (xs := rngL 0 26) (ρ := [some (.int c), some (.int size), some dr, some (.str "abcdefghijklmnopqrstuvwxyz"), some (.ref 0), some (.int i), some (.str (nmL (97 + d) (97 + d) l)), v7]) (h := [.lst (names.map .str)])
    (fun t x ρ h hx1 ⟨⟨v7, e1⟩, e2, e3⟩ => by
      subst e1 e2
      obtain ⟨ht, rfl⟩ := rng_get hx1
      rw [Int.zero_add]
      refine ⟨_, rfl, ?_⟩
      have hin : cmpD .NotIn [.lst (names.map .str)] (.str (nmL (97 + (d + t) % 26) (97 + d) l)) (.ref 0) = some (.bl (!decide (nmL (97 + (d + t) % 26) (97 + d) l ∈ names))) := o_nin_str (seqD_ref rfl)
      by_cases q : nmL (97 + (d + t) % 26) (97 + d) l ∈ names
      · refine ⟨[some (.int c), some (.int size), some dr, some (.str "abcdefghijklmnopqrstuvwxyz"), some (.ref 0), some (.int i), some (.str (nmL (97 + (d + (t + 1)) % 26) (97 + d) l)), some (.int t)], [.lst (names.map .str)], .inl ⟨.inl ?_, ⟨_, rfl⟩, rfl, ?_⟩⟩
        · have km : cMul 2 (i : Int) = true := cMul_l (by omega) (by omega)
          have hx2 := hx [.lst (names.map .str)]
          have hl1 : ixD [.lst (names.map .str)] (.str "abcdefghijklmnopqrstuvwxyz") (.int (((d : Int) + (t : Int) + 1) % 26)) = some (.str ⟨#[97 + (d + (t + 1)) % 26]⟩) := abc_ix (Nat.mod_lt _ (by decide)) (by omega)
          have hs1 : slD [.lst (names.map .str)] (.str (nmL (97 + (d + t) % 26) (97 + d) l)) (some 1) none = some (.str (cutS (nmL (97 + (d + t) % 26) (97 + d) l) (some 1) none)) := by
            show (if (nmL (97 + (d + t) % 26) (97 + d) l).length ≤ sizeLine then _ else _) = _
            rw [if_pos (by rw [len_tl, tl_nmL, sizeLine_eq]; simp; omega)]
          have hlen : (⟨#[97 + (d + (t + 1)) % 26]⟩ : Str).length + (cutS (nmL (97 + (d + t) % 26) (97 + d) l) (some 1) none).length ≤ sizeLine := by
            rw [len_tl (cutS _ _ _), tl_cut1, tl_nmL, sizeLine_eq]
            show 1 + _ ≤ _
            simp
            omega
          have had : binD .Add [.lst (names.map .str)] (.str ⟨#[97 + (d + (t + 1)) % 26]⟩) (.str (cutS (nmL (97 + (d + t) % 26) (97 + d) l) (some 1) none)) = some (.str (nmL (97 + (d + (t + 1)) % 26) (97 + d) l)) := by
            rw [o_add_ss, if_pos hlen, nm_next]
          simp -implicitDefEqProofs [sb__law_names_1, hin, q, km, hx2, hl1, hs1, had, -o_add_ss, -x_str]
        · intro s hs
          by_cases c : s < t
          · exact e3 s c
          · rw [show s = t by omega]; exact q
      · refine ⟨_, _, .inr ⟨?_, (d + t) % 26, some (.int t), Nat.mod_lt _ (by decide), rfl, rfl, q⟩⟩
        simp -implicitDefEqProofs [sb__law_names_1, hin, q]) ⟨⟨_, by rw [Nat.add_zero, Nat.mod_eq_of_lt hd]⟩, rfl, fun s hs => absurd hs (Nat.not_lt_zero _)⟩
  rcases r with ⟨_, _, r⟩ | ⟨j, v, hj, rfl, rfl, hq⟩
  · exfalso
    have hnd : ((List.range 26).map fun t => nmL (97 + (d + t) % 26) (97 + d) l).Nodup := by
      refine List.pairwise_map.mpr (List.Pairwise.imp_of_mem (fun {a b} ha hb hab e => ?_) (List.nodup_range (n := 26)))
      have h1 := congrArg tl e
      rw [tl_nmL, tl_nmL] at h1
      have h2 := (List.cons.inj h1).1
      have := List.mem_range.mp ha
      have := List.mem_range.mp hb
      omega
    have := nodup_len hnd (ys := names) (fun x hx => by
      obtain ⟨t, ht, rfl⟩ := List.mem_map.mp hx
      exact r t (List.mem_range.mp ht))
    rw [List.length_map, List.length_range] at this
    omega
  · exact ⟨_, v, e, nm_ok hj hd hl, hq⟩
theorem law_names_ok {c : Int} {size : Nat} (hs : size ≤ 12) : ∃ names : List Str, fn__law_names [.int c, .int size] = some (.val (.tup (names.map .str))) ∧ names.length = size ∧ NamesOk names := by
  have e0 : fn__law_names [.int c, .int size] = (sm__law_names [some (.int c), some (.int size), none, none, none, none, none, none] []).bind endD := rfl
  rw [e0]
  unfold sm__law_names
  obtain ⟨ds, h1, h2, h3⟩ := law_draws_ok (c := c) (sizes := (List.replicate size [26, 8]).flatten) (fun z hz => by
    obtain ⟨l, hl, hz⟩ := List.mem_flatten.mp hz
    rw [List.eq_of_mem_replicate hl] at hz
    simp at hz
    unfold SizeOk
    rcases hz with rfl | rfl <;> decide) (by rw [pairs_len]; omega)
  rw [← pairs_map D.int 26 8] at h1
  rw [pairs_len] at h2
  have hm : ∀ h : List Cell, binD .Mult h (.lst [.int 26, .int 8]) (.int size) = some (.lst (List.replicate size [D.int 26, .int 8]).flatten) := fun h => mul_rep (by omega) (by rw [sizeLine_eq]; show 2 * size ≤ _; omega)
  have a1 : ∀ h : List Cell, appF fn__law_draws h [.int c, .lst (List.replicate size [D.int 26, .int 8]).flatten] = some (.ok (.lst (ds.map .int))) := fun h => app_lst (by
    rw [pairs_map D.int]
    rw [noRefs_cons, noRefs_cons, noRef_lst, noRefs_ints]; rfl) h1
  have i1 : sSet 2 (liftM (sCall 2 fn__law_draws (sCons (sVar 0) (sCons (sBin .Mult (sLst (sCons (sCst (.int 26)) (sCons (sCst (.int 8)) sNil))) (sVar 1)) sNil)))) [some (.int c), some (.int size), none, none, none, none, none, none] [] = some (.nx [some (.int c), some (.int size), some (.lst (ds.map .int)), none, none, none, none, none] []) := by
    simp -implicitDefEqProofs [ok2, hm, a1, -o_mul_li]
  have i2 : sSet 3 (liftM (sCst (.str "abcdefghijklmnopqrstuvwxyz"))) [some (.int c), some (.int size), some (.lst (ds.map .int)), none, none, none, none, none] [] = some (.nx [some (.int c), some (.int size), some (.lst (ds.map .int)), some (.str "abcdefghijklmnopqrstuvwxyz"), none, none, none, none] []) := rfl
  have i3 : sSet 4 (mLst nNil) [some (.int c), some (.int size), some (.lst (ds.map .int)), some (.str "abcdefghijklmnopqrstuvwxyz"), none, none, none, none] [] = some (.nx [some (.int c), some (.int size), some (.lst (ds.map .int)), some (.str "abcdefghijklmnopqrstuvwxyz"), some (.ref 0), none, none, none] [.lst []]) := by simp [ownM]
  rw [m_seq, i1]
  dsimp only
  rw [m_seq, i2]
  dsimp only
  rw [m_seq, i3]
  dsimp only
  rw [m_seq]
  have hr := li_range1 (l := sCons (sVar 1) sNil) (ρ := [some (.int c), some (.int size), some (.lst (ds.map .int)), some (.str "abcdefghijklmnopqrstuvwxyz"), some (.ref 0), none, none, none]) (h := [.lst []]) (j := (size : Int)) (by simp) (by omega) (small62 (by rw [sizeLine_eq]; omega))
  rw [Int.toNat_natCast] at hr
  rw [sFor_list hr]
  obtain ⟨ρ', h', e, names, v5, v6, v7, rfl, rfl, q1, q2⟩ := forL_ix (gx := gxName 5) (body := sb__law_names_2) (fun i ρ h => ∃ (names : List Str) (v5 v6 v7 : Option D), ρ = [some (.int c), some (.int size), some (.lst (ds.map .int)), some (.str "abcdefghijklmnopqrstuvwxyz"), some (.ref 0), v5, v6, v7] ∧ h = [.lst (names.map .str)] ∧ names.length = i ∧ NamesOk names)
    (xs := rngL 0 size) (ρ := [some (.int c), some (.int size), some (.lst (ds.map .int)), some (.str "abcdefghijklmnopqrstuvwxyz"), some (.ref 0), none, none, none]) (h := [.lst []])
    (fun i x ρ h hx ⟨names, v5, v6, v7, e1, e2, e3, e4⟩ => by
      subst e1 e2
      obtain ⟨hi, rfl⟩ := rng_get hx
      rw [Int.zero_add]
      obtain ⟨g1, g2⟩ := pairs_get (a := (26 : Int)) (b := 8) hi
      obtain ⟨d, hd⟩ : ∃ d, ds[2 * i]? = some d := ⟨_, List.getElem?_eq_getElem (by omega)⟩
      obtain ⟨l, hl⟩ : ∃ l, ds[2 * i + 1]? = some l := ⟨_, List.getElem?_eq_getElem (by omega)⟩
      have kd := h3 _ _ _ hd g1
      have kl := h3 _ _ _ hl g2
      obtain ⟨d, rfl⟩ : ∃ n : Nat, d = n := ⟨d.toNat, by omega⟩
      obtain ⟨l, rfl⟩ : ∃ n : Nat, l = n := ⟨l.toNat, by omega⟩
      have x1 : ∀ h : List Cell, ixD h (.lst (ds.map .int)) (.int (2 * (i : Int))) = some (.int d) := fun h => by
        rw [x_lst]; exact atI_nat (k := 2 * i) (by rw [List.getElem?_map, hd]; rfl) (by omega)
      have x2 : ∀ h : List Cell, ixD h (.lst (ds.map .int)) (.int (2 * (i : Int) + 1)) = some (.int l) := fun h => by
        rw [x_lst]; exact atI_nat (k := 2 * i + 1) (by rw [List.getElem?_map, hl]; rfl) (by omega)
      have km : cMul 2 (i : Int) = true := cMul_l (by omega) (by omega)
      have hb : ∀ h : List Cell, binD .Mult h (.str ⟨#[97 + d]⟩) (.int (1 + (l : Int))) = some (.str (nmL (97 + d) (97 + d) l)) := fun h => by
        rw [show (1 + (l : Int)) = ((l + 1 : Nat) : Int) by omega, mul_repS (by omega) (by rw [sizeLine_eq]; show 1 * (l + 1) ≤ _; omega), nm_rep]
      have hl1 : ∀ h : List Cell, ixD h (.str "abcdefghijklmnopqrstuvwxyz") (.int (d : Int)) = some (.str ⟨#[97 + d]⟩) := fun h => abc_ix (by omega) rfl
      obtain ⟨name, v, f1, f2, f3⟩ := names_inner (dr := .lst (ds.map .int)) (c := c) (size := size) (d := d) (l := l) (i := i) (names := names) (v7 := v7) (by omega) (by omega) (by omega) e3 x1
      refine ⟨_, rfl, [some (.int c), some (.int size), some (.lst (ds.map .int)), some (.str "abcdefghijklmnopqrstuvwxyz"), some (.ref 0), some (.int i), some (.str name), v], [.lst ((names ++ [name]).map .str)], .inl ?_, names ++ [name], _, _, _, rfl, rfl, by simp [e3], ?_⟩
      · have j1 : sSet 6 (liftM (sBin .Mult (sIx (sVar 3) (sIx (sVar 2) (sBin .Mult (sCst (.int 2)) (sVar 5)))) (sBin .Add (sCst (.int 1)) (sIx (sVar 2) (sBin .Add (sBin .Mult (sCst (.int 2)) (sVar 5)) (sCst (.int 1))))))) [some (.int c), some (.int size), some (.lst (ds.map .int)), some (.str "abcdefghijklmnopqrstuvwxyz"), some (.ref 0), some (.int i), v6, v7] [.lst (names.map .str)] =
            some (.nx [some (.int c), some (.int size), some (.lst (ds.map .int)), some (.str "abcdefghijklmnopqrstuvwxyz"), some (.ref 0), some (.int i), some (.str (nmL (97 + d) (97 + d) l)), v7] [.lst (names.map .str)]) := by
          simp -implicitDefEqProofs [km, x1, x2, hb, hl1, -o_mul_si, -x_str, -x_lst]
        have ha : mutEnd .append (.ref 0) [.str name] [.lst (names.map .str)] = some (.ok .non [.lst ((names ++ [name]).map .str)]) := by
          rw [u_append (xs := names.map .str) rfl (by rw [List.length_map, sizeLine_eq]; omega)]
          simp
        show sb__law_names_2 [some (.int c), some (.int size), some (.lst (ds.map .int)), some (.str "abcdefghijklmnopqrstuvwxyz"), some (.ref 0), some (.int i), v6, v7] [.lst (names.map .str)] = _
        unfold sb__law_names_2
        rw [m_seq, j1]
        dsimp only
        rw [m_seq, f1]
        dsimp only
        simp -implicitDefEqProofs [ha]
      · refine ⟨?_, fun n hn => ?_⟩
        · rw [List.nodup_append]
          refine ⟨e4.1, by simp, fun a ha b hb e => ?_⟩
          rw [List.mem_singleton.mp hb] at e
          exact f3 (e ▸ ha)
        · rcases List.mem_append.mp hn with z | z
          · exact e4.2 n z
          · rw [List.mem_singleton.mp z]; exact f2) ⟨[], none, none, none, rfl, rfl, rfl, List.Pairwise.nil, fun _ h => by simp at h⟩
  rw [e]
  rw [rngL_len] at q1
  refine ⟨names, ?_, q1, q2⟩
  have ht : biD .tuple [.lst (names.map .str)] [.ref 0] = some (.tup (names.map .str)) := l_tuple_r rfl
  have hrt : retD [.lst (names.map .str)] (.tup (names.map .str)) = some (.rt (.val (.tup (names.map .str)))) := ret_val (by simp) (by have := depl_strs names; simp only [dep, depthD]; omega)
  simp [ht, hrt, endD]
end K75

set_option Elab.async false
set_option linter.all false
set_option maxRecDepth 100000
set_option maxHeartbeats 1000000
namespace K75
open PySem PySem.Spec PyProof.Rows L2 DL TL
/-! ### as_names -/
theorem met_full : ∀ (xs acc : List Str), (metS xs acc).length = acc.length + xs.length ↔ xs.Nodup ∧ ∀ x ∈ xs, x ∉ acc
  | [], acc => by simp [metS]
  | x :: xs, acc => by
    have ih := met_full xs (if acc.any (· == x) then acc else acc ++ [x])
    have hl := metS_len xs (if acc.any (· == x) then acc else acc ++ [x])
    have e : metS (x :: xs) acc = metS xs (if acc.any (· == x) then acc else acc ++ [x]) := rfl
    rw [e]
    by_cases c : acc.any (· == x) = true
    · rw [if_pos c] at *
      have hm : x ∈ acc := by
        obtain ⟨y, h1, h2⟩ := List.any_eq_true.mp c
        rw [← beq_iff_eq.mp h2]; exact h1
      constructor
      · intro h; rw [List.length_cons] at h; omega
      · intro h; exact absurd hm (h.2 x List.mem_cons_self)
    · rw [if_neg c] at *
      have hm : x ∉ acc := fun h => c (List.any_eq_true.mpr ⟨x, h, beq_self_eq_true x⟩)
      rw [List.length_append, List.length_singleton] at ih
      rw [List.length_cons, show acc.length + (xs.length + 1) = acc.length + 1 + xs.length by omega, ih, List.nodup_cons]
      constructor
      · rintro ⟨h1, h2⟩
        refine ⟨⟨fun hx => h2 x hx (by simp), h1⟩, fun y hy => ?_⟩
        rcases List.mem_cons.mp hy with rfl | hy
        · exact hm
        · exact fun z => h2 y hy (List.mem_append_left _ z)
      · rintro ⟨⟨h1, h2⟩, h3⟩
        refine ⟨h2, fun y hy z => ?_⟩
        rcases List.mem_append.mp z with z | z
        · exact h3 y (List.mem_cons_of_mem _ hy) z
        · rw [List.mem_singleton.mp z] at hy; exact h1 hy
theorem cnt_nodup (xs : List Str) : cntS xs = xs.length ↔ xs.Nodup := by
  have := met_full xs []
  simpa [cntS] using this
theorem all_is_name {row : List Str} (hz : ∀ w ∈ row, w.length ≤ sizeLine) {size : D} : FinS (forL (gxName 2) sb_as_names_1 sNext (row.map .str) [some size, some (.tup (row.map .str)), none] []) (fun (_ : Unit) ρ h => ∃ v, ρ = [some size, some (.tup (row.map .str)), v] ∧ h = [])
    (if row.all nameOk = true then .inr () else .inl (.exc "BadNames" [("row", .tup (row.map .str))])) := by
  have F := forL_sim (e := D.str) (gx := gxName 2) (body := sb_as_names_1) (R := fun (_ : Unit) ρ h => ∃ v, ρ = [some size, some (.tup (row.map .str)), v] ∧ h = []) (f := fun w (_ : Unit) => if nameOk w = true then .inr () else .inl (.exc "BadNames" [("row", .tup (row.map .str))])) (xs := row) (s := ()) (ρ := [some size, some (.tup (row.map .str)), none]) (h := [])
    (fun w hw _ ρ h ⟨v, e1, e2⟩ => by
      subst e1 e2
      refine ⟨_, rfl, ?_⟩
      have a1 : ∀ h : List Cell, appF fn_is_name h [.str w] = some (.ok (.bl (nameOk w))) := fun h => app_val rfl (is_name_ok (hz w hw))
      cases q : nameOk w with
      | true => exact ⟨[some size, some (.tup (row.map .str)), some (.str w)], [], .inl (by simp -implicitDefEqProofs [sb_as_names_1, a1, q]), _, rfl, rfl⟩
      | false => exact ⟨.exc "BadNames" [("row", .tup (row.map .str))] [some size, some (.tup (row.map .str)), some (.str w)] [], by simp -implicitDefEqProofs [sb_as_names_1, a1, q], _, _, rfl⟩) ⟨none, rfl, rfl⟩
  rw [fold_all] at F
  exact F
theorem as_names_ok {size : Nat} {row : List Str} {x : D} (hx : biD .tuple [] [x] = some (.tup (row.map .str))) (hz : ∀ w ∈ row, w.length ≤ sizeLine) (hl : row.length ≤ 1000) :
    fn_as_names [.int size, x] = some (if row.length = size ∧ row.Nodup ∧ row.all nameOk = true then .val (.tup (row.map .str)) else .exc "BadNames" [("row", .tup (row.map .str))]) := by
  show (sm_as_names [some (.int size), some x, none] []).bind endD = _
  unfold sm_as_names
  have i1 : sSet 1 (liftM (sBi .tuple (sCons (sVar 1) sNil))) [some (.int size), some x, none] [] = some (.nx [some (.int size), some (.tup (row.map .str)), none] []) := by
    simp [hx]
  rw [m_seq, i1]
  dsimp only
  have hls : lenSetD (.tup (row.map .str)) = some (.int (cntS row : Nat)) := by
    unfold lenSetD
    dsimp only
    rw [strsD_map]
    dsimp only
    rw [if_pos hl]
  rw [m_seq]
  have hrow : noRefs (row.map D.str) = true := noRefs_strs row
  by_cases c1 : row.length = size
  · by_cases c2 : row.Nodup
    · have c3 := (cnt_nodup row).mpr c2
      have i2 : sIfS (sOr (sCmp .NotEq (sBi .len (sCons (sVar 1) sNil)) (sVar 0)) (sCmp .NotEq (sLenSet (sVar 1)) (sVar 0))) (sRaise "BadNames" ["row"] (sCons (sVar 1) sNil)) sNext [some (.int size), some (.tup (row.map .str)), none] [] = some (.nx [some (.int size), some (.tup (row.map .str)), none] []) := by
        simp [hls, c1, c3]
      rw [i2]
      dsimp only
      rw [m_seq, sFor_list (li_tup (f := sVar 1) (xs := row.map .str) rfl)]
      have F := all_is_name (size := .int size) hz
      cases q : row.all nameOk with
      | true =>
        rw [q] at F
        obtain ⟨ρ', h', e, v, rfl, rfl⟩ := F
        rw [e, if_pos ⟨c1, c2, rfl⟩]
        have hrt : retD [] (.tup (row.map .str)) = some (.rt (.val (.tup (row.map .str)))) := ret_val (by simp) (by have := depl_strs row; simp only [dep, depthD]; omega)
        simp [hrt, endD]
      | false =>
        rw [q] at F
        obtain ⟨o, e, a, b, rfl⟩ := F
        rw [e, if_neg (by simp)]
        simp [endD, hrow]
    · rw [if_neg (fun h => c2 h.2.1)]
      have c3 : ¬ cntS row = size := fun h => c2 ((cnt_nodup row).mp (h.trans c1.symm))
      have c3' : ¬ (cntS row : Int) = (size : Int) := by omega
      simp [hls, c1, c3, c3', endD, hrow]
  · rw [if_neg (fun h => c1 h.1)]
    have c1' : ¬ (row.length : Int) = (size : Int) := by omega
    simp [hls, c1, c1', endD, hrow]
/-! ### as_signs -/
def ascF (n : Int) (e : Ex) (x last : Int) : Sum Ex Int := if last < x ∧ x < n then .inr x else .inl e
def ascB (n : Int) : List Int → Int → Bool
  | [], _ => true
  | x :: xs, last => decide (last < x) && (decide (x < n) && ascB n xs x)
theorem fold_asc {n : Int} {e : Ex} : ∀ (xs : List Int) (last : Int), (∃ l, foldE (ascF n e) xs last = .inr l ∧ ascB n xs last = true) ∨ (foldE (ascF n e) xs last = .inl e ∧ ascB n xs last = false)
  | [], last => .inl ⟨last, rfl, rfl⟩
  | x :: xs, last => by
    by_cases c : last < x ∧ x < n
    · have e1 : foldE (ascF n e) (x :: xs) last = foldE (ascF n e) xs x := by
        have h0 : ascF n e x last = .inr x := if_pos c
        simp only [foldE, h0]
      have e2 : ascB n (x :: xs) last = ascB n xs x := by simp [ascB, c.1, c.2]
      rw [e1, e2]
      exact fold_asc xs x
    · right
      constructor
      · have h0 : ascF n e x last = .inl e := if_neg c
        simp only [foldE, h0]
      · cases h : ascB n (x :: xs) last with
        | false => rfl
        | true =>
          simp only [ascB, Bool.and_eq_true, decide_eq_true_eq] at h
          exact absurd ⟨h.1, h.2.1⟩ c
theorem is_asc_ok {n : Int} {xs : List Int} : fn_is_ascending [.lst (xs.map .int), .int n] = some (.val (.bl (ascB n xs (-1)))) := by
  show (sm_is_ascending [some (.lst (xs.map .int)), some (.int n), none, none] []).bind endD = _
  unfold sm_is_ascending
  have i1 : sSet 2 (liftM (sUn .USub (sCst (.int 1)))) [some (.lst (xs.map .int)), some (.int n), none, none] [] = some (.nx [some (.lst (xs.map .int)), some (.int n), some (.int (-1)), none] []) := by simp
  rw [m_seq, i1]
  dsimp only
  rw [m_seq, sFor_list (li_lst (f := sVar 0) (xs := xs.map .int) rfl)]
  have F := forL_sim (e := D.int) (gx := gxName 3) (body := sb_is_ascending_1) (R := fun (last : Int) ρ h => ∃ v, ρ = [some (.lst (xs.map .int)), some (.int n), some (.int last), v] ∧ h = []) (f := ascF n (.rt (.val (.bl false)))) (xs := xs) (s := -1) (ρ := [some (.lst (xs.map .int)), some (.int n), some (.int (-1)), none]) (h := [])
    (fun x hx last ρ h ⟨v, e1, e2⟩ => by
      subst e1 e2
      refine ⟨_, rfl, ?_⟩
      unfold ascF
      by_cases c1 : last < x
      · by_cases c2 : x < n
        · rw [if_pos ⟨c1, c2⟩]
          exact ⟨[some (.lst (xs.map .int)), some (.int n), some (.int x), some (.int x)], [], .inl (by simp [sb_is_ascending_1, c1, c2]), _, rfl, rfl⟩
        · rw [if_neg (fun h => c2 h.2)]
          exact ⟨_, by simp [sb_is_ascending_1, c1, c2, retD, deepD, depthD], rfl⟩
      · rw [if_neg (fun h => c1 h.1)]
        exact ⟨_, by simp [sb_is_ascending_1, c1, retD, deepD, depthD], rfl⟩) ⟨none, rfl, rfl⟩
  rcases fold_asc (n := n) (e := .rt (.val (.bl false))) xs (-1) with ⟨l, h1, h2⟩ | ⟨h1, h2⟩
  · rw [h1] at F
    obtain ⟨ρ', h', e, _⟩ := F
    rw [e, h2]; rfl
  · rw [h1] at F
    obtain ⟨o, e, rfl⟩ := F
    rw [e, h2]; rfl
def signB (p : Nat × Int) : Bool := decide (p.2 ∈ ([1, 0, -1] : List Int))
def rowB (n : Nat) (s : List (Nat × Int)) : Bool := decide (s.length ≤ 4) && (ascB n (s.map fun p => (p.1 : Int)) (-1) && s.all signB)
theorem rowB_of {n : Nat} {s : List (Nat × Int)} (h : RowOk n s) : rowB n s = true := by
  obtain ⟨h1, h2, h3⟩ := h
  have ha : ∀ (s : List (Nat × Int)) (last : Int), (s.map (·.1)).Pairwise (· < ·) → (∀ p ∈ s, p.1 < n) → (∀ p ∈ s, last < (p.1 : Int)) → ascB n (s.map fun p => (p.1 : Int)) last = true := by
    intro s
    induction s with
    | nil => intros; rfl
    | cons p s ih =>
      intro last q1 q2 q3
      have q1' := List.pairwise_cons.mp q1
      show (decide (last < (p.1 : Int)) && (decide ((p.1 : Int) < n) && ascB n (s.map fun p => (p.1 : Int)) p.1)) = true
      rw [decide_eq_true (q3 p List.mem_cons_self), decide_eq_true (by have := q2 p List.mem_cons_self; omega), Bool.true_and, Bool.true_and]
      refine ih _ q1'.2 (fun p hp => q2 p (List.mem_cons_of_mem _ hp)) fun r hr => ?_
      have : p.1 < r.1 := q1'.1 r.1 (List.mem_map.mpr ⟨r, hr, rfl⟩)
      omega
  unfold rowB
  rw [decide_eq_true h1, ha s (-1) h2 (fun p hp => (h3 p hp).1) (fun p _ => by omega), Bool.true_and, Bool.true_and, List.all_eq_true]
  intro p hp
  unfold signB
  rcases (h3 p hp).2 with h | h | h <;> rw [h] <;> decide
theorem fold_find {α : Type} {p : α → Bool} {ex : Nat → Ex} : ∀ (xs : List α) (i : Nat), foldE (fun (x : α × Nat) (_ : Unit) => if p x.1 = true then .inr () else .inl (ex x.2)) (xs.zipIdx i) () = (match xs.findIdx? (fun x => !p x) with | none => .inr () | some k => .inl (ex (i + k)))
  | [], _ => rfl
  | x :: xs, i => by
    rw [List.zipIdx_cons, List.findIdx?_cons]
    cases q : p x with
    | true =>
      simp only [foldE, q, if_true]
      rw [fold_find xs (i + 1)]
      simp only [Bool.not_true, Bool.false_eq_true, if_false]
      cases xs.findIdx? (fun x => !p x) with
      | none => rfl
      | some k => simp only [Option.map_some]; rw [show i + 1 + k = i + (k + 1) by omega]
    | false => simp [foldE, q]
def frame (a : D) (row rows house heard sign hearing : Option D) : Rho := [some a, row, rows, house, heard, sign, hearing]
theorem signs_row {a rows : D} {s : List (Nat × Int)} {house : Int} {v4 v5 v6 : Option D} : FinS (sFor (iData (sVar 1)) (gxTup 2 (gxCons (gxName 4) (gxCons (gxName 5) gxNil))) sb_as_signs_3 sNext [some a, some (encS s), some rows, some (.int house), v4, v5, v6] []) (fun (_ : Unit) ρ h => ∃ v4 v5 v6, ρ = [some a, some (encS s), some rows, some (.int house), v4, v5, v6] ∧ h = [])
    (if s.all signB = true then .inr () else .inl (.exc "BadSigns" [("house", .int house)])) := by
  rw [sFor_list (li_tup (f := sVar 1) (xs := s.map encH) rfl)]
  have F := forL_sim (e := encH) (gx := gxTup 2 (gxCons (gxName 4) (gxCons (gxName 5) gxNil))) (body := sb_as_signs_3) (R := fun (_ : Unit) ρ h => ∃ v4 v5 v6, ρ = [some a, some (encS s), some rows, some (.int house), v4, v5, v6] ∧ h = []) (f := fun p (_ : Unit) => if signB p = true then .inr () else .inl (.exc "BadSigns" [("house", .int house)])) (xs := s) (s := ()) (ρ := [some a, some (encS s), some rows, some (.int house), v4, v5, v6]) (h := [])
    (fun p hp _ ρ h ⟨v4, v5, v6, e1, e2⟩ => by
      subst e1 e2
      refine ⟨_, rfl, ?_⟩
      have hin : ∀ h : List Cell, cmpD .NotIn h (.int p.2) (.tup [.int 1, .int 0, .int (-1)]) = some (.bl (!signB p)) := fun h => o_nin_int (ss := [1, 0, -1]) rfl
      cases q : signB p with
      | true => exact ⟨[some a, some (encS s), some rows, some (.int house), some (.int p.1), some (.int p.2), v6], [], .inl (by simp -implicitDefEqProofs [sb_as_signs_3, hin, q, ok3]), _, _, _, rfl, rfl⟩
      | false => exact ⟨.exc "BadSigns" [("house", .int house)] [some a, some (encS s), some rows, some (.int house), some (.int p.1), some (.int p.2), v6] [], by simp -implicitDefEqProofs [sb_as_signs_3, hin, q, ok3], _, _, rfl⟩) ⟨_, _, _, rfl, rfl⟩
  rw [fold_all] at F
  exact F
theorem as_signs_ok {rows : List (List (Nat × Int))} (h1 : 1 ≤ rows.length) (h2 : rows.length ≤ 12) (hs : ∀ s ∈ rows, s.length ≤ 1000) :
    fn_as_signs [.lst (rows.map encSL)] = some (match rows.findIdx? (fun s => !rowB rows.length s) with | none => .val (.tup (rows.map encS)) | some k => .exc "BadSigns" [("house", .int (k : Nat))]) := by
  have e0 : fn_as_signs [.lst (rows.map encSL)] = (sm_as_signs [some (.lst (rows.map encSL)), none, none, none, none, none, none] []).bind endD := rfl
  rw [e0]
  unfold sm_as_signs
  have hc := sComp_list (vs := [1]) (gx := gxName 1) (tst := sYes) (elt := se_as_signs_2) (ρ := [some (.lst (rows.map encSL)), none, none, none, none, none, none]) (h := []) (li_lst (f := sVar 0) rfl) (by rw [List.length_map, sizeLine_eq]; omega) (ds := rows.map encS) (by
    refine comL_map fun s hsm => ⟨_, rfl, rfl, ?_⟩
    have := sComp_list (vs := [6]) (gx := gxName 6) (tst := sYes) (elt := se_as_signs_1) (ρ := [some (.lst (rows.map encSL)), some (encSL s), none, none, none, none, none]) (h := []) (li_lst (f := sVar 1) (xs := s.map encHL) rfl) (by rw [List.length_map, sizeLine_eq]; have := hs s hsm; omega) (ds := s.map encH) (by
      refine comL_map fun p hp => ⟨_, rfl, rfl, ?_⟩
      simp [se_as_signs_1, encH, encHL])
    show bndL (consL (sComp [6] (iData (sVar 1)) (gxName 6) sYes se_as_signs_1 [some (.lst (rows.map encSL)), some (encSL s), none, none, none, none, none] []) (some (.ok []))) _ = _
    rw [this]
    rfl)
  have i1 : sSet 2 (liftM (sBi .tuple (sCons (sComp [1] (iData (sVar 0)) (gxName 1) sYes se_as_signs_2) sNil))) [some (.lst (rows.map encSL)), none, none, none, none, none, none] [] = some (.nx [some (.lst (rows.map encSL)), none, some (.tup (rows.map encS)), none, none, none, none] []) := by
    rw [m_set, m_lift, m_bi, m_cons, hc]
    rfl
  rw [m_seq, i1]
  dsimp only
  have i2 : sIfS (sNot (sChain .LtE .LtE (sCst (.int 1)) (sBi .len (sCons (sVar 2) sNil)) (sCst (.int 12)))) (sRaise "BadSize" ["count"] (sCons (sBi .len (sCons (sVar 2) sNil)) sNil)) sNext [some (.lst (rows.map encSL)), none, some (.tup (rows.map encS)), none, none, none, none] [] = some (.nx [some (.lst (rows.map encSL)), none, some (.tup (rows.map encS)), none, none, none, none] []) := by
    have a1 : (1 : Int) ≤ (rows.length : Int) := by omega
    have a2 : (rows.length : Int) ≤ 12 := by omega
    simp -implicitDefEqProofs [a1, a2]
  rw [m_seq, i2]
  dsimp only
  rw [m_seq, sFor_list (li_enumTE (xs := rows) (enc := encS) rfl)]
  have F := forL_sim (e := fun p : List (Nat × Int) × Nat => .tup [.int (p.2 : Nat), encS p.1]) (gx := gxTup 2 (gxCons (gxName 3) (gxCons (gxName 1) gxNil))) (body := sb_as_signs_4)
    (R := fun (_ : Unit) ρ h => ∃ v1 v3 v4 v5 v6, ρ = [some (.lst (rows.map encSL)), v1, some (.tup (rows.map encS)), v3, v4, v5, v6] ∧ h = [])
    (f := fun (p : List (Nat × Int) × Nat) (_ : Unit) => if rowB rows.length p.1 = true then .inr () else .inl (.exc "BadSigns" [("house", .int (p.2 : Nat))]))
    (xs := rows.zipIdx) (s := ()) (ρ := [some (.lst (rows.map encSL)), none, some (.tup (rows.map encS)), none, none, none, none]) (h := [])
    (fun p hp _ ρ h ⟨v1, v3, v4, v5, v6, e1, e2⟩ => by
      subst e1 e2
      obtain ⟨s, i⟩ := p
      have hm : s ∈ rows := by
        have := List.mem_zipIdx hp
        exact this.2.2 ▸ List.getElem_mem _
      have hsl := hs s hm
      refine ⟨_, rfl, ?_⟩
      have hcm := sComp_list (vs := [4, 5]) (gx := gxTup 2 (gxCons (gxName 4) (gxCons (gxName 5) gxNil))) (tst := sYes) (elt := sVar 4) (ρ := [some (.lst (rows.map encSL)), some (encS s), some (.tup (rows.map encS)), some (.int i), v4, v5, v6]) (h := []) (li_tup (f := sVar 1) (xs := s.map encH) rfl) (by rw [List.length_map, sizeLine_eq]; omega) (ds := (s.map fun p => (p.1 : Int)).map .int) (by
        rw [List.map_map]
        refine comL_map fun p hp => ⟨_, rfl, rfl, rfl⟩)
      have a1 : ∀ h : List Cell, appF fn_is_ascending h [.lst ((s.map fun p => (p.1 : Int)).map .int), .int rows.length] = some (.ok (.bl (ascB rows.length (s.map fun p => (p.1 : Int)) (-1)))) := fun h => app_val (by rw [noRefs_cons, noRef_lst, noRefs_ints]; rfl) is_asc_ok
      have hl1 : biD .len [] [encS s] = some (.int s.length) := by show biD .len [] [.tup (s.map encH)] = _; rw [l_tup, List.length_map]
      have hl2 : biD .len [] [.tup (rows.map encS)] = some (.int rows.length) := by rw [l_tup, List.length_map]
      have F2 := signs_row (a := .lst (rows.map encSL)) (rows := .tup (rows.map encS)) (s := s) (house := i) (v4 := v4) (v5 := v5) (v6 := v6)
      show TurnS sb_as_signs_4 _ [some (.lst (rows.map encSL)), some (encS s), some (.tup (rows.map encS)), some (.int i), v4, v5, v6] [] (if rowB rows.length s = true then .inr () else .inl (.exc "BadSigns" [("house", .int (i : Nat))]))
      unfold rowB
      by_cases c1 : s.length ≤ 4
      · have c1' : ¬ (4 : Int) < (s.length : Int) := by omega
        rw [decide_eq_true c1, Bool.true_and]
        cases c2 : ascB rows.length (s.map fun p => (p.1 : Int)) (-1) with
        | true =>
          rw [c2] at a1
          rw [Bool.true_and]
          have j1 : sIfS (sOr (sCmp .Gt (sBi .len (sCons (sVar 1) sNil)) (sCst (.int 4))) (sNot (sTru (sCall 2 fn_is_ascending (sCons (sComp [4, 5] (iData (sVar 1)) (gxTup 2 (gxCons (gxName 4) (gxCons (gxName 5) gxNil))) sYes (sVar 4)) (sCons (sBi .len (sCons (sVar 2) sNil)) sNil)))))) (sRaise "BadSigns" ["house"] (sCons (sVar 3) sNil)) sNext [some (.lst (rows.map encSL)), some (encS s), some (.tup (rows.map encS)), some (.int i), v4, v5, v6] [] = some (.nx [some (.lst (rows.map encSL)), some (encS s), some (.tup (rows.map encS)), some (.int i), v4, v5, v6] []) := by
            simp -implicitDefEqProofs [hl1, hl2, c1', hcm, a1, -l_tup, -List.map_map]
          unfold sb_as_signs_4
          cases q : s.all signB with
          | true =>
            rw [q] at F2
            obtain ⟨ρ', h', e, v4', v5', v6', rfl, rfl⟩ := F2
            refine ⟨[some (.lst (rows.map encSL)), some (encS s), some (.tup (rows.map encS)), some (.int i), v4', v5', v6'], [], .inl ?_, _, _, _, _, _, rfl, rfl⟩
            rw [m_seq, j1]
            exact e
          | false =>
            rw [q] at F2
            obtain ⟨o, e, a, b, rfl⟩ := F2
            refine ⟨_, ?_, a, b, rfl⟩
            rw [m_seq, j1]
            exact e
        | false =>
          rw [c2] at a1
          rw [Bool.false_and]
          refine ⟨.exc "BadSigns" [("house", .int i)] [some (.lst (rows.map encSL)), some (encS s), some (.tup (rows.map encS)), some (.int i), v4, v5, v6] [], ?_, _, _, rfl⟩
          simp -implicitDefEqProofs [sb_as_signs_4, hl1, hl2, c1', hcm, a1, -l_tup, -List.map_map]
      · have c1' : (4 : Int) < (s.length : Int) := by omega
        rw [decide_eq_false c1, Bool.false_and]
        refine ⟨.exc "BadSigns" [("house", .int i)] [some (.lst (rows.map encSL)), some (encS s), some (.tup (rows.map encS)), some (.int i), v4, v5, v6] [], ?_, _, _, rfl⟩
        simp -implicitDefEqProofs [sb_as_signs_4, hl1, c1', -l_tup]) ⟨_, _, _, _, _, rfl, rfl⟩
  have F := Eq.mp (congrArg (FinS _ _) (fold_find (p := rowB rows.length) (ex := fun k => .exc "BadSigns" [("house", .int (k : Nat))]) rows 0)) F
  cases q : rows.findIdx? (fun s => !rowB rows.length s) with
  | none =>
    rw [q] at F
    obtain ⟨ρ', h', e, v1, v3, v4, v5, v6, rfl, rfl⟩ := F
    rw [e]
    have hrt : retD [] (.tup (rows.map encS)) = some (.rt (.val (.tup (rows.map encS)))) := ret_val (noRefs_S _) (by have := depl_S rows; simp only [dep, depthD]; omega)
    simp [hrt, endD]
  | some k =>
    rw [q] at F
    obtain ⟨o, e, a, b, rfl⟩ := F
    rw [e]
    simp [endD]
end K75

set_option Elab.async false
set_option linter.all false
set_option maxRecDepth 100000
set_option maxHeartbeats 1000000
namespace K75
open PySem PySem.Spec PyProof.Rows L2 DL TL
/-! ### the text -/
def mkS (g : Int) : Str := if g = 1 then "+" else if g = -1 then "-" else "?"
def wordOf (names : List Str) (p : Nat × Int) : Str := mkS p.2 ++ names.getD p.1 Str.empty
def lineOf (names : List Str) (n : Str) (s : List (Nat × Int)) : Str := Txt.join " " (n :: s.map (wordOf names))
def headOf (n : Nat) : Str := ("signs " : Str) ++ numS n
def textOf (names : List Str) (signs : List (List (Nat × Int))) : Str := Txt.join "\n" (headOf signs.length :: (names.zip signs).map fun p => lineOf names p.1 p.2)
structure Good (names : List Str) (signs : List (List (Nat × Int))) : Prop where
  n : NamesOk names
  len : names.length = signs.length
  lo : 1 ≤ signs.length
  hi : signs.length ≤ 12
  rows : ∀ s ∈ signs, RowOk signs.length s
theorem name_len {s : Str} (h : nameOk s = true) : s.length ≤ 8 := by
  unfold nameOk at h
  exact (of_decide_eq_true (Bool.and_eq_true_iff.mp h).1).2
theorem lenS1 : ("+" : Str).length = 1 ∧ ("-" : Str).length = 1 ∧ ("?" : Str).length = 1 ∧ (" " : Str).length = 1 ∧ ("\n" : Str).length = 1 ∧ ("signs " : Str).length = 6 ∧ ("signs" : Str).length = 5 := by decide +kernel
theorem mkS_len (g : Int) : (mkS g).length = 1 := by
  unfold mkS
  split
  · exact lenS1.1
  · split
    · exact lenS1.2.1
    · exact lenS1.2.2.1
variable {names : List Str} {signs : List (List (Nat × Int))}
theorem Good.get (G : Good names signs) {k : Nat} (hk : k < signs.length) : ∃ n, names[k]? = some n ∧ names.getD k Str.empty = n ∧ n.length ≤ 8 ∧ nameOk n = true := by
  have hk2 : k < names.length := by rw [G.len]; exact hk
  have h1 : names[k]? = some names[k] := List.getElem?_eq_getElem hk2
  have h2 := G.n.2 names[k] (List.getElem_mem hk2)
  exact ⟨names[k], h1, by rw [List.getD_eq_getElem?_getD, h1]; rfl, name_len h2, h2⟩
theorem Good.word_len (G : Good names signs) {s : List (Nat × Int)} (hs : s ∈ signs) {p : Nat × Int} (hp : p ∈ s) : (wordOf names p).length ≤ 9 := by
  obtain ⟨n, _, h2, h3, _⟩ := G.get (((G.rows s hs).2.2 p hp).1)
  unfold wordOf
  rw [h2, len_tl, tl_append, List.length_append, ← len_tl, ← len_tl, mkS_len]
  omega
theorem Good.line_words (G : Good names signs) {s : List (Nat × Int)} (hs : s ∈ signs) {n : Str} (hn : n.length ≤ 8) : (n :: s.map (wordOf names)).length ≤ 5 ∧ ∀ w ∈ n :: s.map (wordOf names), w.length ≤ 9 := by
  refine ⟨by have := (G.rows s hs).1; simp; omega, fun w hw => ?_⟩
  rcases List.mem_cons.mp hw with rfl | hw
  · omega
  · obtain ⟨p, hp, rfl⟩ := List.mem_map.mp hw
    exact G.word_len hs hp
theorem Good.line_len (G : Good names signs) {s : List (Nat × Int)} (hs : s ∈ signs) {n : Str} (hn : n.length ≤ 8) : (lineOf names n s).length ≤ 50 := by
  obtain ⟨h1, h2⟩ := G.line_words hs hn
  have := join_le (y := " ") 9 h2
  rw [lenS1.2.2.2.1] at this
  unfold lineOf
  omega
theorem head_len {n : Nat} (h : n ≤ 12) : (headOf n).length ≤ 50 := by
  unfold headOf
  have := numS_len (n := n) (k := 2) (by decide) (by omega)
  rw [len_tl, tl_append, List.length_append, ← len_tl, ← len_tl, lenS1.2.2.2.2.2.1]
  omega
theorem ix_mark {h : List Cell} {g : Int} (hg : g = -1 ∨ g = 0 ∨ g = 1) : ixD h (.lst [.str "?", .str "+", .str "-"]) (.int g) = some (.str (mkS g)) := by
  rcases hg with rfl | rfl | rfl <;> rfl
theorem dget_mark {g : Int} (hg : g = -1 ∨ g = 0 ∨ g = 1) : lookK kd_MARKS (.inl g) = some (.str (mkS g)) := by
  rcases hg with rfl | rfl | rfl <;> rfl
theorem Good.word_ix (G : Good names signs) {s : List (Nat × Int)} (hs : s ∈ signs) {p : Nat × Int} (hp : p ∈ s) (h : List Cell) : ixD h (.tup (names.map .str)) (.int p.1) = some (.str (names.getD p.1 Str.empty)) := by
  obtain ⟨n, h1, h2, _⟩ := G.get (((G.rows s hs).2.2 p hp).1)
  rw [x_tup, h2]
  exact atI_nat (k := p.1) (by rw [List.getElem?_map, h1]; rfl) rfl
theorem Good.word_add (G : Good names signs) {s : List (Nat × Int)} (hs : s ∈ signs) {p : Nat × Int} (hp : p ∈ s) (h : List Cell) : binD .Add h (.str (mkS p.2)) (.str (names.getD p.1 Str.empty)) = some (.str (wordOf names p)) := by
  obtain ⟨n, h1, h2, h3, _⟩ := G.get (((G.rows s hs).2.2 p hp).1)
  rw [o_add_ss, if_pos (by rw [mkS_len, h2, sizeLine_eq]; omega)]
  rfl
theorem law_words (G : Good names signs) {s : List (Nat × Int)} (hs : s ∈ signs) {v1 v2 v3 v5 v6 : Option D} {f : Sx} {hp : List Cell} {n : Str} (hf : f [some (.tup (names.map .str)), v1, v2, v3, some (.ref hp.length), v5, v6] (hp ++ [.lst [.str n]]) = some (.ok (encS s))) :
    ∃ v5' v6', sFor (iData f) (gxTup 2 (gxCons (gxName 5) (gxCons (gxName 6) gxNil))) sb__law_text_1 sNext [some (.tup (names.map .str)), v1, v2, v3, some (.ref hp.length), v5, v6] (hp ++ [.lst [.str n]]) =
      some (.nx [some (.tup (names.map .str)), v1, v2, v3, some (.ref hp.length), v5', v6'] (hp ++ [.lst ((n :: s.map (wordOf names)).map .str)])) := by
  rw [sFor_list (li_tup (f := f) (xs := s.map encH) hf)]
  obtain ⟨ρ', h', e, v5', v6', rfl, rfl⟩ := forL_ix (gx := gxTup 2 (gxCons (gxName 5) (gxCons (gxName 6) gxNil))) (body := sb__law_text_1)
    (fun i ρ h => ∃ v5 v6, ρ = [some (.tup (names.map .str)), v1, v2, v3, some (.ref hp.length), v5, v6] ∧ h = hp ++ [.lst ((n :: (s.take i).map (wordOf names)).map .str)])
    (xs := s.map encH) (ρ := [some (.tup (names.map .str)), v1, v2, v3, some (.ref hp.length), v5, v6]) (h := hp ++ [.lst [.str n]])
    (fun i d ρ h hd ⟨v5, v6, e1, e2⟩ => by
      subst e1 e2
      obtain ⟨p, hpi, rfl⟩ := map_get hd
      have hpm : p ∈ s := List.mem_of_getElem? hpi
      have hsg := ((G.rows s hs).2.2 p hpm).2
      have hil := (List.getElem?_eq_some_iff.mp hpi).1
      have a1 := G.word_ix hs hpm (hp ++ [.lst ((n :: (s.take i).map (wordOf names)).map .str)])
      have a2 := G.word_add hs hpm (hp ++ [.lst ((n :: (s.take i).map (wordOf names)).map .str)])
      have a3 := ix_mark (h := hp ++ [.lst ((n :: (s.take i).map (wordOf names)).map .str)]) hsg
      have a4 : mutEnd .append (.ref hp.length) [.str (wordOf names p)] (hp ++ [.lst ((n :: (s.take i).map (wordOf names)).map .str)]) = some (.ok .non (hp ++ [.lst ((n :: (s.take (i + 1)).map (wordOf names)).map .str)])) := by
        rw [u_append (xs := (n :: (s.take i).map (wordOf names)).map .str) (get_last _ _) (by rw [List.length_map, List.length_cons, List.length_map, List.length_take, sizeLine_eq]; have := (G.rows s hs).1; omega), set_last]
        rw [List.take_succ, hpi]
        simp
      refine ⟨_, rfl, _, _, .inl ?_, some (.int p.1), some (.int p.2), rfl, rfl⟩
      generalize hp ++ [.lst ((n :: (s.take (i + 1)).map (wordOf names)).map .str)] = h2 at *
      generalize hp ++ [.lst ((n :: (s.take i).map (wordOf names)).map .str)] = h1 at *
      generalize names.getD p.1 Str.empty = nm at *
      show sb__law_text_1 [some (.tup (names.map .str)), v1, v2, v3, some (.ref hp.length), some (.int p.1), some (.int p.2)] h1 = _
      simp -implicitDefEqProofs [sb__law_text_1, a1, a2, a3, a4, ok3, -o_add_ss, -x_tup, -x_lst]) ⟨_, _, rfl, rfl⟩
  refine ⟨v5', v6', ?_⟩
  rw [e, List.length_map, List.take_length]
theorem zip_take {α β : Type} {xs : List α} {ys : List β} {i : Nat} {x : α} {y : β} (h1 : xs[i]? = some x) (h2 : ys[i]? = some y) : (xs.zip ys).take (i + 1) = (xs.zip ys).take i ++ [(x, y)] := by
  rw [List.take_succ]
  congr 1
  have : (xs.zip ys)[i]? = some (x, y) := List.getElem?_zip_eq_some.mpr ⟨h1, h2⟩
  rw [this]
  rfl
theorem text_join (G : Good names signs) {h : List Cell} {d : D} (e : seqD h d = some ((headOf signs.length :: (names.zip signs).map fun p => lineOf names p.1 p.2).map .str)) : gJoin "\n" h d = some (.str (textOf names signs)) := by
  refine join_ok e 50 (fun p hp => ?_) ?_
  · rcases List.mem_cons.mp hp with rfl | hp
    · exact head_len G.hi
    · obtain ⟨q, hq, rfl⟩ := List.mem_map.mp hp
      have := List.of_mem_zip hq
      exact G.line_len this.2 (name_len (G.n.2 _ this.1))
  · rw [List.length_cons, List.length_map, List.length_zip, lenS1.2.2.2.2.1]
    have := G.hi
    omega
theorem text_len (G : Good names signs) : (textOf names signs).length ≤ 663 := by
  have := join_le (y := "\n") (ps := headOf signs.length :: (names.zip signs).map fun p => lineOf names p.1 p.2) 50 (fun p hp => by
    rcases List.mem_cons.mp hp with rfl | hp
    · exact head_len G.hi
    · obtain ⟨q, hq, rfl⟩ := List.mem_map.mp hp
      have := List.of_mem_zip hq
      exact G.line_len this.2 (name_len (G.n.2 _ this.1)))
  rw [List.length_cons, List.length_map, List.length_zip, lenS1.2.2.2.2.1] at this
  have h2 := G.hi
  unfold textOf
  omega
theorem str_num {h : List Cell} {n : Nat} (hn : n ≤ 12) : biD .str h [.int n] = some (.str (numS n)) := by
  rw [l_strI, if_pos (by
    have : ((n : Int)).natAbs = n := by omega
    rw [this]
    exact Nat.lt_of_le_of_lt (Nat.log2_le_self _) (by omega))]
  rfl
theorem head_add {h : List Cell} {n : Nat} (hn : n ≤ 12) : binD .Add h (.str "signs ") (.str (numS n)) = some (.str (headOf n)) := by
  rw [o_add_ss, if_pos]
  · rfl
  · rw [lenS1.2.2.2.2.2.1, sizeLine_eq]
    have := numS_len (n := n) (k := 2) (by decide) (by omega)
    omega
theorem line_join (G : Good names signs) {s : List (Nat × Int)} (hs : s ∈ signs) {n : Str} (hn : n.length ≤ 8) {h : List Cell} {d : D} (e : seqD h d = some ((n :: s.map (wordOf names)).map .str)) : gJoin " " h d = some (.str (lineOf names n s)) := by
  obtain ⟨h1, h2⟩ := G.line_words hs hn
  refine join_ok e 9 h2 ?_
  rw [lenS1.2.2.2.1]
  omega
theorem law_text_ok (G : Good names signs) : fn__law_text [.tup (names.map .str), .tup (signs.map encS)] = some (.val (.str (textOf names signs))) := by
  have e0 : fn__law_text [.tup (names.map .str), .tup (signs.map encS)] = (sm__law_text [some (.tup (names.map .str)), some (.tup (signs.map encS)), none, none, none, none, none] []).bind endD := rfl
  rw [e0]
  unfold sm__law_text
  have i1 : sSet 2 (mLst (nCons (liftM (sBin .Add (sCst (.str "signs ")) (sBi .str (sCons (sBi .len (sCons (sVar 1) sNil)) sNil)))) nNil)) [some (.tup (names.map .str)), some (.tup (signs.map encS)), none, none, none, none, none] [] = some (.nx [some (.tup (names.map .str)), some (.tup (signs.map encS)), some (.ref 0), none, none, none, none] [.lst [.str (headOf signs.length)]]) := by
    have a1 := str_num (h := []) G.hi
    have a2 := head_add (h := []) G.hi
    have a3 : ownM [] [.str (headOf signs.length)] = some (.ok (.ref 0) [.lst [.str (headOf signs.length)]]) := if_pos (by rw [sizeLine_eq]; show 1 ≤ 16777216; decide)
    simp -implicitDefEqProofs [a1, a2, a3, -o_add_ss, -l_strI]
  rw [m_seq, i1]
  dsimp only
  have hr := li_range1 (l := sCons (sBi .len (sCons (sVar 1) sNil)) sNil) (ρ := [some (.tup (names.map .str)), some (.tup (signs.map encS)), some (.ref 0), none, none, none, none]) (h := [.lst [.str (headOf signs.length)]]) (j := (signs.length : Int)) (by simp) (by omega) (small62 (by rw [sizeLine_eq]; have := G.hi; omega))
  rw [Int.toNat_natCast] at hr
  rw [m_seq, sFor_list hr]
  obtain ⟨ρ', h', e, junk, v3, v4, v5, v6, rfl, rfl⟩ := forL_ix (gx := gxName 3) (body := sb__law_text_2)
    (fun i ρ h => ∃ junk v3 v4 v5 v6, ρ = [some (.tup (names.map .str)), some (.tup (signs.map encS)), some (.ref 0), v3, v4, v5, v6] ∧ h = .lst ((headOf signs.length :: ((names.zip signs).take i).map fun p => lineOf names p.1 p.2).map .str) :: junk)
    (xs := rngL 0 signs.length) (ρ := [some (.tup (names.map .str)), some (.tup (signs.map encS)), some (.ref 0), none, none, none, none]) (h := [.lst [.str (headOf signs.length)]])
    (fun i d ρ h hd ⟨junk, v3, v4, v5, v6, e1, e2⟩ => by
      subst e1 e2
      obtain ⟨hi, rfl⟩ := rng_get hd
      rw [Int.zero_add]
      obtain ⟨n, hn1, hn2, hn3, hn4⟩ := G.get hi
      obtain ⟨s, hs⟩ : ∃ s, signs[i]? = some s := ⟨_, List.getElem?_eq_getElem hi⟩
      have hsm := List.mem_of_getElem? hs
      have x1 : ∀ h : List Cell, ixD h (.tup (names.map .str)) (.int (i : Int)) = some (.str n) := fun h => by
        rw [x_tup]; exact atI_nat (k := i) (by rw [List.getElem?_map, hn1]; rfl) rfl
      have x2 : ∀ h : List Cell, ixD h (.tup (signs.map encS)) (.int (i : Int)) = some (encS s) := fun h => by
        rw [x_tup]; exact atI_nat (k := i) (by rw [List.getElem?_map, hs]; rfl) rfl
      generalize hcell : Cell.lst ((headOf signs.length :: ((names.zip signs).take i).map fun p => lineOf names p.1 p.2).map .str) :: junk = hp
      have j1 : sSet 4 (mLst (nCons (liftM (sIx (sVar 0) (sVar 3))) nNil)) [some (.tup (names.map .str)), some (.tup (signs.map encS)), some (.ref 0), some (.int i), v4, v5, v6] hp = some (.nx [some (.tup (names.map .str)), some (.tup (signs.map encS)), some (.ref 0), some (.int i), some (.ref hp.length), v5, v6] (hp ++ [.lst [.str n]])) := by
        have a3 : ownM hp [.str n] = some (.ok (.ref hp.length) (hp ++ [.lst [.str n]])) := if_pos (by rw [sizeLine_eq]; show 1 ≤ 16777216; decide)
        simp -implicitDefEqProofs [x1, a3, -x_tup]
      obtain ⟨v5', v6', j2⟩ := law_words G hsm (v1 := some (.tup (signs.map encS))) (v2 := some (.ref 0)) (v3 := some (.int i)) (v5 := v5) (v6 := v6) (f := sIx (sVar 1) (sVar 3)) (hp := hp) (n := n) (by simp [x2, -x_tup])
      have j3 := line_join G hsm hn3 (h := hp ++ [.lst ((n :: s.map (wordOf names)).map .str)]) (d := .ref hp.length) (seqD_ref (get_last _ _))
      have hG := G.hi
      refine ⟨_, rfl, [some (.tup (names.map .str)), some (.tup (signs.map encS)), some (.ref 0), some (.int i), some (.ref hp.length), v5', v6'], .lst ((headOf signs.length :: ((names.zip signs).take (i + 1)).map fun p => lineOf names p.1 p.2).map .str) :: (junk ++ [.lst ((n :: s.map (wordOf names)).map .str)]), .inl ?_, _, _, _, _, _, rfl, rfl⟩
      show sb__law_text_2 [some (.tup (names.map .str)), some (.tup (signs.map encS)), some (.ref 0), some (.int i), v4, v5, v6] hp = _
      unfold sb__law_text_2
      rw [m_seq, j1]
      dsimp only
      rw [m_seq, j2]
      dsimp only
      have j4 : mutEnd .append (.ref 0) [.str (lineOf names n s)] (hp ++ [.lst ((n :: s.map (wordOf names)).map .str)]) = some (.ok .non (.lst ((headOf signs.length :: ((names.zip signs).take (i + 1)).map fun p => lineOf names p.1 p.2).map .str) :: (junk ++ [.lst ((n :: s.map (wordOf names)).map .str)]))) := by
        subst hcell
        rw [u_append (xs := (headOf signs.length :: ((names.zip signs).take i).map fun p => lineOf names p.1 p.2).map .str) rfl (by rw [List.length_map, List.length_cons, List.length_map, List.length_take, sizeLine_eq]; omega)]
        rw [zip_take hn1 hs]
        simp
      generalize hp ++ [.lst ((n :: s.map (wordOf names)).map .str)] = h2 at *
      simp -implicitDefEqProofs [strM, j3, j4]) ⟨[], _, _, _, _, rfl, rfl⟩
  rw [e]
  have et : (names.zip signs).take (rngL 0 signs.length).length = names.zip signs := List.take_of_length_le (by rw [List.length_zip, rngL_len]; omega)
  rw [et]
  have a1 := text_join G (h := .lst ((headOf signs.length :: (names.zip signs).map fun p => lineOf names p.1 p.2).map .str) :: junk) (d := .ref 0) (seqD_ref rfl)
  generalize Cell.lst ((headOf signs.length :: (names.zip signs).map fun p => lineOf names p.1 p.2).map .str) :: junk = h1 at *
  have hrt : retD h1 (.str (textOf names signs)) = some (.rt (.val (.str (textOf names signs)))) := ret_val rfl (by simp only [dep, depthD]; omega)
  simp -implicitDefEqProofs [strM, a1, hrt, endD]
end K75

set_option Elab.async false
set_option linter.all false
set_option maxRecDepth 100000
set_option maxHeartbeats 1000000
namespace K75
open PySem PySem.Spec PyProof.Rows L2 DL TL
/-! ### format_signs -/
theorem zipE (xs : List Str) (ys : List (List (Nat × Int))) : ((xs.map D.str).zip (ys.map encS)).map (fun p => D.tup [p.1, p.2]) = (xs.zip ys).map fun p => .tup [.str p.1, encS p.2] := by
  rw [List.zip_map, List.map_map]
  rfl
theorem tl_emp : tl Str.empty = [] := rfl
theorem head_eq (n : Nat) : (Str.empty ++ ("signs" : Str)) ++ (" " : Str) ++ numS n = headOf n := ext_tl (by
  unfold headOf
  rw [tl_append, tl_append, tl_append, tl_append, tl_emp, tl_ofString, tl_ofString, tl_ofString]
  rfl)
theorem joined_head {ρ : Rho} {h : List Cell} {n : Nat} {f : Sx} (hn : n ≤ 12) (hf : f ρ h = some (.ok (.int n))) : sJoined [(sFmt (sCst (.str "signs"))), (sCst (.str " ")), (sFmt f)] Str.empty ρ h = some (.ok (.str (headOf n))) := by
  have b1 : fmtD (.str "signs") = some (.str "signs") := by
    show (if ("signs" : Str).length ≤ sizeLine then some (D.str "signs") else none) = _
    rw [if_pos (by rw [lenS1.2.2.2.2.2.2, sizeLine_eq]; decide)]
  have b2 : fmtD (.int n) = some (.str (numS n)) := by
    show (if ((n : Int)).natAbs.log2 < 1920 then some (D.str (toString (n : Int))) else none) = _
    rw [if_pos (by
      have : ((n : Int)).natAbs = n := by omega
      rw [this]
      exact Nat.lt_of_le_of_lt (Nat.log2_le_self _) (by omega))]
    rfl
  have hl : ∀ x y : Str, (x ++ y).length = x.length + y.length := fun x y => by rw [len_tl, tl_append, List.length_append, ← len_tl, ← len_tl]
  have hn3 := numS_len (n := n) (k := 2) (by decide) (by omega)
  have le0 : (Str.empty : Str).length = 0 := rfl
  have l1 := lenS1.2.2.2.2.2.2
  have l2 := lenS1.2.2.2.1
  have c1 : (Str.empty ++ ("signs" : Str)).length ≤ sizeLine := by rw [hl, le0, l1, sizeLine_eq]; omega
  have c2 : (Str.empty ++ ("signs" : Str) ++ (" " : Str)).length ≤ sizeLine := by rw [hl, hl, le0, l1, l2, sizeLine_eq]; omega
  have c3 : (Str.empty ++ ("signs" : Str) ++ (" " : Str) ++ numS n).length ≤ sizeLine := by rw [hl, hl, hl, le0, l1, l2, sizeLine_eq]; omega
  show bnd (bnd (some (.ok (.str "signs"))) fun x => vok (fmtD x)) (fun x => onStr x fun y => if (Str.empty ++ y).length ≤ sizeLine then sJoined [(sCst (.str " ")), (sFmt f)] (Str.empty ++ y) ρ h else none) = _
  rw [bnd_ok, b1, vok_some, bnd_ok, m_onStr, if_pos c1]
  show bnd (some (.ok (.str " "))) (fun x => onStr x fun y => if (Str.empty ++ ("signs" : Str) ++ y).length ≤ sizeLine then sJoined [(sFmt f)] (Str.empty ++ ("signs" : Str) ++ y) ρ h else none) = _
  rw [bnd_ok, m_onStr, if_pos c2]
  show bnd (bnd (f ρ h) fun x => vok (fmtD x)) (fun x => onStr x fun y => if (Str.empty ++ ("signs" : Str) ++ (" " : Str) ++ y).length ≤ sizeLine then sJoined [] (Str.empty ++ ("signs" : Str) ++ (" " : Str) ++ y) ρ h else none) = _
  rw [hf, bnd_ok, b2, vok_some, bnd_ok, m_onStr, if_pos c3, head_eq]
  rfl
variable {names : List Str} {signs : List (List (Nat × Int))}
theorem Good.find (G : Good names signs) : signs.findIdx? (fun s => !rowB signs.length s) = none := by
  rw [List.findIdx?_eq_none_iff]
  intro s hs
  rw [rowB_of (G.rows s hs)]; rfl
theorem format_head {d : D} {rows : List (List (Nat × Int))} {row : List Str} (hd : noRef d = true) (hx : biD .tuple [] [d] = some (.tup (row.map .str))) (hz : ∀ w ∈ row, w.length ≤ sizeLine) (hl : row.length ≤ 1000) (h1 : 1 ≤ rows.length) (h2 : rows.length ≤ 12) (hs : ∀ s ∈ rows, s.length ≤ 1000) (k : Sm) :
    (sSeq (sSet 1 (liftM (sCall 1 fn_as_signs (sCons (sVar 1) sNil)))) (sSeq (sSet 0 (liftM (sCall 2 fn_as_names (sCons (sBi .len (sCons (sVar 1) sNil)) (sCons (sVar 0) sNil))))) k)) [some d, some (.lst (rows.map encSL)), none, none, none, none, none] [] =
      match rows.findIdx? (fun s => !rowB rows.length s) with
      | some k => some (.exc "BadSigns" [("house", .int (k : Nat))] [some d, some (.lst (rows.map encSL)), none, none, none, none, none] [])
      | none => if row.length = rows.length ∧ row.Nodup ∧ row.all nameOk = true then k [some (.tup (row.map .str)), some (.tup (rows.map encS)), none, none, none, none, none] [] else some (.exc "BadNames" [("row", .tup (row.map .str))] [some d, some (.tup (rows.map encS)), none, none, none, none, none] []) := by
  have a1 := as_signs_ok h1 h2 hs
  have hn : noRefs [D.lst (rows.map encSL)] = true := by rw [noRefs_cons, noRef_lst, noRefs_SL]; rfl
  have a2 := as_names_ok (size := rows.length) hx hz hl
  have hn2 : noRefs [D.int rows.length, d] = true := by rw [noRefs_cons, noRefs_cons, hd]; rfl
  have hlen : biD .len [] [.tup (rows.map encS)] = some (.int rows.length) := by rw [l_tup, List.length_map]
  rw [m_seq]
  cases q : rows.findIdx? (fun s => !rowB rows.length s) with
  | some k =>
    rw [q] at a1
    have c1 := app_exc (h := []) hn a1
    have i1 : sSet 1 (liftM (sCall 1 fn_as_signs (sCons (sVar 1) sNil))) [some d, some (.lst (rows.map encSL)), none, none, none, none, none] [] = some (.exc "BadSigns" [("house", .int (k : Nat))] [some d, some (.lst (rows.map encSL)), none, none, none, none, none] []) := by
      simp -implicitDefEqProofs [c1]
    rw [i1]
  | none =>
    rw [q] at a1
    have c1 := app_val (h := []) hn a1
    have i1 : sSet 1 (liftM (sCall 1 fn_as_signs (sCons (sVar 1) sNil))) [some d, some (.lst (rows.map encSL)), none, none, none, none, none] [] = some (.nx [some d, some (.tup (rows.map encS)), none, none, none, none, none] []) := by
      simp -implicitDefEqProofs [c1]
    rw [i1]
    dsimp only
    rw [m_seq]
    by_cases c : row.length = rows.length ∧ row.Nodup ∧ row.all nameOk = true
    · rw [if_pos c] at a2 ⊢
      have c2 := app_val (h := []) hn2 a2
      have i2 : sSet 0 (liftM (sCall 2 fn_as_names (sCons (sBi .len (sCons (sVar 1) sNil)) (sCons (sVar 0) sNil)))) [some d, some (.tup (rows.map encS)), none, none, none, none, none] [] = some (.nx [some (.tup (row.map .str)), some (.tup (rows.map encS)), none, none, none, none, none] []) := by
        simp -implicitDefEqProofs [hlen, c2, -l_tup]
      rw [i2]
    · rw [if_neg c] at a2 ⊢
      have c2 := app_exc (h := []) hn2 a2
      have i2 : sSet 0 (liftM (sCall 2 fn_as_names (sCons (sBi .len (sCons (sVar 1) sNil)) (sCons (sVar 0) sNil)))) [some d, some (.tup (rows.map encS)), none, none, none, none, none] [] = some (.exc "BadNames" [("row", .tup (row.map .str))] [some d, some (.tup (rows.map encS)), none, none, none, none, none] []) := by
        simp -implicitDefEqProofs [hlen, c2, -l_tup]
      rw [i2]
theorem format_text (G : Good names signs) : ((sSeq (sSet 2 (mLst (nCons (liftM (sJoined [(sFmt (sCst (.str "signs"))), (sCst (.str " ")), (sFmt (sBi .len (sCons (sVar 1) sNil)))] Str.empty)) nNil)))
  (sSeq (sFor (iZipD (sCons (sVar 0) (sCons (sVar 1) sNil))) (gxTup 2 (gxCons (gxName 3) (gxCons (gxName 4) gxNil))) sb_format_signs_2 sNext)
  (sRet (liftM (sStrM (strM .join) (sCst (.str "\n")) (sVar 2)))))) [some (.tup (names.map .str)), some (.tup (signs.map encS)), none, none, none, none, none] []).bind endD = some (.val (.str (textOf names signs))) := by
  have i1 : sSet 2 (mLst (nCons (liftM (sJoined [(sFmt (sCst (.str "signs"))), (sCst (.str " ")), (sFmt (sBi .len (sCons (sVar 1) sNil)))] Str.empty)) nNil)) [some (.tup (names.map .str)), some (.tup (signs.map encS)), none, none, none, none, none] [] = some (.nx [some (.tup (names.map .str)), some (.tup (signs.map encS)), some (.ref 0), none, none, none, none] [.lst [.str (headOf signs.length)]]) := by
    have a1 := joined_head (ρ := [some (.tup (names.map .str)), some (.tup (signs.map encS)), none, none, none, none, none]) (h := []) (f := sBi .len (sCons (sVar 1) sNil)) G.hi (by simp)
    have a3 : ownM [] [.str (headOf signs.length)] = some (.ok (.ref 0) [.lst [.str (headOf signs.length)]]) := if_pos (by rw [sizeLine_eq]; show 1 ≤ 16777216; decide)
    rw [m_set, m_mLst, m_nCons, m_lift, a1]
    dsimp only
    rw [m_nNil]
    dsimp only
    rw [m_bndNM_ok, a3]
    rfl
  rw [m_seq, i1]
  dsimp only
  rw [m_seq, sFor_list (li_zipT (l := sCons (sVar 0) (sCons (sVar 1) sNil)) (xs := names.map .str) (ys := signs.map encS) rfl), zipE]
  obtain ⟨ρ', h', e, v3, v4, v5, v6, rfl, rfl⟩ := forL_ix (gx := gxTup 2 (gxCons (gxName 3) (gxCons (gxName 4) gxNil))) (body := sb_format_signs_2)
    (fun i ρ h => ∃ v3 v4 v5 v6, ρ = [some (.tup (names.map .str)), some (.tup (signs.map encS)), some (.ref 0), v3, v4, v5, v6] ∧ h = [.lst ((headOf signs.length :: ((names.zip signs).take i).map fun p => lineOf names p.1 p.2).map .str)])
    (xs := (names.zip signs).map fun p => .tup [.str p.1, encS p.2]) (ρ := [some (.tup (names.map .str)), some (.tup (signs.map encS)), some (.ref 0), none, none, none, none]) (h := [.lst [.str (headOf signs.length)]])
    (fun i d ρ h hd ⟨v3, v4, v5, v6, e1, e2⟩ => by
      subst e1 e2
      obtain ⟨⟨n, s⟩, hp, rfl⟩ := map_get hd
      have hz := List.getElem?_zip_eq_some.mp hp
      have hpm := List.of_mem_zip (List.mem_of_getElem? hp)
      have hsm : s ∈ signs := hpm.2
      have hn3 : n.length ≤ 8 := name_len (G.n.2 _ hpm.1)
      have hil := (List.getElem?_eq_some_iff.mp hp).1
      rw [List.length_zip] at hil
      have hG := G.hi
      generalize hcell : [Cell.lst ((headOf signs.length :: ((names.zip signs).take i).map fun p => lineOf names p.1 p.2).map .str)] = hh
      have hrow := G.rows s hsm
      have hc := sComp_list (vs := [5, 6]) (gx := gxTup 2 (gxCons (gxName 5) (gxCons (gxName 6) gxNil))) (tst := sYes) (elt := se_format_signs_1) (ρ := [some (.tup (names.map .str)), some (.tup (signs.map encS)), some (.ref 0), some (.str n), some (encS s), v5, v6]) (h := hh) (li_tup (f := sVar 4) (xs := s.map encH) rfl) (by rw [List.length_map, sizeLine_eq]; have := hrow.1; omega) (ds := (s.map (wordOf names)).map .str) (by
        rw [List.map_map]
        refine comL_map fun p hp => ⟨_, rfl, rfl, ?_⟩
        have hsg := (hrow.2.2 p hp).2
        have a1 := G.word_ix hsm hp hh
        have a2 := G.word_add hsm hp hh
        have a3 := dget_mark hsg
        generalize names.getD p.1 Str.empty = nm at *
        simp -implicitDefEqProofs [se_format_signs_1, keyD, a1, a2, a3, -o_add_ss, -x_tup])
      have j3 := line_join G hsm hn3 (h := hh) (d := .lst ((n :: s.map (wordOf names)).map .str)) rfl
      have j4 : mutEnd .append (.ref 0) [.str (lineOf names n s)] hh = some (.ok .non [.lst ((headOf signs.length :: ((names.zip signs).take (i + 1)).map fun p => lineOf names p.1 p.2).map .str)]) := by
        subst hcell
        rw [u_append (xs := (headOf signs.length :: ((names.zip signs).take i).map fun p => lineOf names p.1 p.2).map .str) rfl (by rw [List.length_map, List.length_cons, List.length_map, List.length_take, sizeLine_eq]; omega)]
        rw [zip_take hz.1 hz.2]
        simp
      have j5 : okLen .lst ((n :: s.map (wordOf names)).map .str) = some (.ok (.lst ((n :: s.map (wordOf names)).map .str))) := okLen_ok (by rw [List.length_map, sizeLine_eq]; have := (G.line_words hsm hn3).1; omega)
      have j6 : (D.str n :: (s.map (wordOf names)).map .str ++ []) = (n :: s.map (wordOf names)).map .str := by simp
      refine ⟨_, rfl, _, _, .inl ?_, some (.str n), some (encS s), v5, v6, rfl, rfl⟩
      have j7 : sStrM (strM .join) (sCst (.str " ")) (sLst (sCons (sVar 3) (sStar (sComp [5, 6] (iData (sVar 4)) (gxTup 2 (gxCons (gxName 5) (gxCons (gxName 6) gxNil))) sYes se_format_signs_1) sNil))) [some (.tup (names.map .str)), some (.tup (signs.map encS)), some (.ref 0), some (.str n), some (encS s), v5, v6] hh = some (.ok (.str (lineOf names n s))) := by
        rw [m_strM, m_cst, bnd_ok, m_onStr, m_lst, m_cons, m_var, m_star, hc]
        show bnd (bndL (some (.ok (D.str n :: ((s.map (wordOf names)).map .str ++ [])))) (okLen .lst)) _ = _
        rw [bndL_ok, List.append_nil]
        show bnd (okLen .lst ((n :: s.map (wordOf names)).map .str)) _ = _
        rw [j5, bnd_ok]
        show vok (gJoin " " hh (.lst ((n :: s.map (wordOf names)).map .str))) = _
        rw [j3]; rfl
      show sb_format_signs_2 [some (.tup (names.map .str)), some (.tup (signs.map encS)), some (.ref 0), some (.str n), some (encS s), v5, v6] hh = _
      unfold sb_format_signs_2
      rw [m_drop, m_mMu, m_var]
      dsimp only [List.getElem?_cons_succ, List.getElem?_cons_zero]
      rw [m_bndDM_ok, if_pos m_isRef, m_nCons, m_lift, j7]
      dsimp only
      rw [m_nNil]
      dsimp only
      rw [m_bndNM_ok, j4]
      rfl) ⟨_, _, _, _, rfl, rfl⟩
  rw [e]
  have et : (names.zip signs).take ((names.zip signs).map fun p => D.tup [.str p.1, encS p.2]).length = names.zip signs := by rw [List.length_map]; exact List.take_length
  rw [et]
  have a1 := text_join G (h := [.lst ((headOf signs.length :: (names.zip signs).map fun p => lineOf names p.1 p.2).map .str)]) (d := .ref 0) (seqD_ref rfl)
  generalize [Cell.lst ((headOf signs.length :: (names.zip signs).map fun p => lineOf names p.1 p.2).map .str)] = h1 at *
  have hrt : retD h1 (.str (textOf names signs)) = some (.rt (.val (.str (textOf names signs)))) := ret_val rfl (by simp only [dep, depthD]; omega)
  simp -implicitDefEqProofs [strM, a1, hrt, endD]
theorem Good.small (G : Good names signs) : ∀ s ∈ signs, s.length ≤ 1000 := fun s hs => by have := (G.rows s hs).1; omega
theorem format_ok (G : Good names signs) : fn_format_signs [.lst (names.map .str), .lst (signs.map encSL)] = some (.val (.str (textOf names signs))) := by
  have e0 : fn_format_signs [.lst (names.map .str), .lst (signs.map encSL)] = (sm_format_signs [some (.lst (names.map .str)), some (.lst (signs.map encSL)), none, none, none, none, none] []).bind endD := rfl
  rw [e0]
  unfold sm_format_signs
  rw [format_head (d := .lst (names.map .str)) (row := names) (noRefs_strs names) rfl (fun w hw => by have := name_len (G.n.2 w hw); rw [sizeLine_eq]; omega) (by have := G.hi; have := G.len; omega) G.lo G.hi G.small, G.find]
  dsimp only
  rw [if_pos ⟨G.len, G.n.1, List.all_eq_true.mpr G.n.2⟩]
  exact format_text G
theorem format_bad (G : Good names signs) {row : List Str} (hz : ∀ w ∈ row, w.length ≤ sizeLine) (hl : row.length ≤ 1000) (hb : ¬ (row.length = signs.length ∧ row.Nodup ∧ row.all nameOk = true)) :
    fn_format_signs [.lst (row.map .str), .lst (signs.map encSL)] = some (.exc "BadNames" [("row", .tup (row.map .str))]) := by
  have e0 : fn_format_signs [.lst (row.map .str), .lst (signs.map encSL)] = (sm_format_signs [some (.lst (row.map .str)), some (.lst (signs.map encSL)), none, none, none, none, none] []).bind endD := rfl
  rw [e0]
  unfold sm_format_signs
  rw [format_head (d := .lst (row.map .str)) (row := row) (noRefs_strs row) rfl hz hl G.lo G.hi G.small, G.find]
  dsimp only
  rw [if_neg hb]
  have hrow : noRefs (row.map D.str) = true := noRefs_strs row
  simp [endD, hrow]
theorem format_badS {rows : List (List (Nat × Int))} (h1 : 1 ≤ rows.length) (h2 : rows.length ≤ 12) (hs : ∀ s ∈ rows, s.length ≤ 1000) {k : Nat} (hk : rows.findIdx? (fun s => !rowB rows.length s) = some k) :
    fn_format_signs [.lst [], .lst (rows.map encSL)] = some (.exc "BadSigns" [("house", .int (k : Nat))]) := by
  have e0 : fn_format_signs [.lst [], .lst (rows.map encSL)] = (sm_format_signs [some (.lst []), some (.lst (rows.map encSL)), none, none, none, none, none] []).bind endD := rfl
  rw [e0]
  unfold sm_format_signs
  rw [format_head (d := .lst []) (row := []) rfl rfl (fun w hw => by cases hw) (by simp) h1 h2 hs, hk]
  simp [endD]
end K75

set_option Elab.async false
set_option linter.all false
set_option maxRecDepth 100000
set_option maxHeartbeats 1000000
namespace K75
open PySem PySem.Spec PyProof.Rows L2 DL TL
theorem noRefs_tup {ds : List D} (h : noRefs ds = true) : noRef (.tup ds) = true := h
theorem retT {h : List Cell} {ds : List D} (h1 : noRefs ds = true) (h2 : depl ds ≤ 6) : retD h (.tup ds) = some (.rt (.val (.tup ds))) := ret_val (noRefs_tup h1) (by simp only [dep, depthD]; omega)
theorem law_told_ok {t : Str} (ht : t.length + 2 ≤ sizeLine) : fn__law_told [.str t] = some (.val (encRd (readL (linesOf t)))) := by
  have e0 : fn__law_told [.str t] = (sm__law_told [some (.str t), none] []).bind endD := rfl
  rw [e0]
  unfold sm__law_told
  have a1 := read_signs_ok ht
  cases q : readL (linesOf t) with
  | inl e =>
    rw [q] at a1
    have a2 := app_exc (h := []) (ds := [.str t]) rfl a1
    have hb : sRet (liftM (sTup (sCons (sCst (.str "told")) (sCons (sCall 1 fn_read_signs (sCons (sVar 0) sNil)) sNil)))) [some (.str t), none] [] = some (.exc "BadText" (fsAt e) [some (.str t), none] []) := by
      rw [m_ret, m_lift, m_tup, m_cons, m_cst, m_cons, m_call, m_cons, m_var]
      dsimp only [List.getElem?_cons_zero]
      rw [m_nil, m_consL, bndL_ok, if_pos (show [D.str t].length = 1 from rfl), a2]
      rfl
    rw [m_try, hb]
    show (handleD "BadText" (fsAt e) [some (.str t), none] [] [⟨mtOf ex_BadText, 1, [.txt "BadText", .fld "line", .fld "word"]⟩]).bind endD = _
    have hm : mtOf ex_BadText "BadText" = some true := by decide +kernel
    have hp : partsV (fsAt e) [.txt "BadText", .fld "line", .fld "word"] = some [.str "BadText", .int (e.1 : Nat), .int (e.2 : Nat)] := by rfl
    have hs : suiteR [.txt "BadText", .fld "line", .fld "word"] (fsAt e) = some (.rt (.val (encB e))) := by
      unfold suiteR
      rw [hp]
      exact if_pos ⟨rfl, by rw [sizeLine_eq]; show 3 ≤ 16777216; decide⟩
    have hh : handleD "BadText" (fsAt e) [some (.str t), none] [] [⟨mtOf ex_BadText, 1, [.txt "BadText", .fld "line", .fld "word"]⟩] = some (.rt (.val (encB e))) := by
      unfold handleD
      dsimp only
      rw [hm]
      dsimp only
      rw [if_pos (by show 1 < 2; decide), hs]
    rw [hh]
    rfl
  | inr r =>
    rw [q] at a1
    have a2 := app_val (h := []) (ds := [.str t]) rfl a1
    have hb : sRet (liftM (sTup (sCons (sCst (.str "told")) (sCons (sCall 1 fn_read_signs (sCons (sVar 0) sNil)) sNil)))) [some (.str t), none] [] = some (.rt (.val (.tup [.str "told", encR r]))) := by
      have hrt := retT (h := []) (ds := [.str "told", encR r]) (by simp [noRef_R]) (by have := dep_R r; simp only [dep, depl]; omega)
      simp -implicitDefEqProofs [a2, ok2, hrt]
    rw [m_try, hb]
    rfl
variable {names : List Str} {signs : List (List (Nat × Int))}
theorem try_ret {l : List HC} {ρ : Rho} {h : List Cell} {f : Sm} {r : Rf} (e : f ρ h = some (.rt r)) : sTry f l ρ h = some (.rt r) := by rw [m_try, e]
theorem try_exc {l : List HC} {ρ ρ' : Rho} {h h' : List Cell} {f : Sm} {c : Str} {fs : List (Str × D)} (e : f ρ h = some (.exc c fs ρ' h')) : sTry f l ρ h = handleD c fs ρ' h' l := by rw [m_try, e]
theorem written_call {d g : D} {x : Res} {ρ2 : Option D} (hc : appF fn_format_signs [] [d, g] = some x) : sCall 2 fn_format_signs (sCons (sVar 0) (sCons (sVar 1) sNil)) [some d, some g, ρ2] [] = some x := by
  rw [m_call, m_cons, m_var, m_cons, m_var]
  dsimp only [List.getElem?_cons_zero, List.getElem?_cons_succ]
  rw [m_nil, m_consL, m_consL, bndL_ok, if_pos (show [d, g].length = 2 from rfl), hc]
theorem written_body {d g : D} {c : Str} {fs : List (Str × D)} (hc : appF fn_format_signs [] [d, g] = some (.exc c fs)) : sRet (liftM (sTup (sCons (sCst (.str "told")) (sCons (sCall 2 fn_format_signs (sCons (sVar 0) (sCons (sVar 1) sNil))) sNil)))) [some d, some g, none] [] = some (.exc c fs [some d, some g, none] []) := by
  rw [m_ret, m_lift, m_tup, m_cons, m_cst, m_cons, written_call hc]
  rfl
theorem written_ok (G : Good names signs) : fn__law_written [.lst (names.map .str), .lst (signs.map encSL)] = some (.val (.tup [.str "told", .str (textOf names signs)])) := by
  have e0 : fn__law_written [.lst (names.map .str), .lst (signs.map encSL)] = (sm__law_written [some (.lst (names.map .str)), some (.lst (signs.map encSL)), none] []).bind endD := rfl
  rw [e0]
  unfold sm__law_written
  have hn : noRefs [D.lst (names.map .str), .lst (signs.map encSL)] = true := by rw [noRefs_cons, noRef_lst, noRefs_strs, noRefs_cons, noRef_lst, noRefs_SL]; rfl
  have a2 := written_call (ρ2 := none) (app_val (h := []) hn (format_ok G))
  have hrt := retT (h := []) (ds := [.str "told", .str (textOf names signs)]) rfl (by simp only [dep, depl]; omega)
  rw [try_ret (r := .val (.tup [.str "told", .str (textOf names signs)])) (by
    rw [m_ret, m_lift, m_tup, m_cons, m_cst, m_cons, a2, m_nil, m_consL, m_consL, bndL_ok, ok2]
    dsimp only
    rw [m_bndS_ok, hrt])]
  rfl
theorem written_bad (G : Good names signs) {row : List Str} (hz : ∀ w ∈ row, w.length ≤ sizeLine) (hl : row.length ≤ 1000) (hb : ¬ (row.length = signs.length ∧ row.Nodup ∧ row.all nameOk = true)) :
    fn__law_written [.lst (row.map .str), .lst (signs.map encSL)] = some (.val (.tup [.str "BadNames", .tup (row.map .str)])) := by
  have e0 : fn__law_written [.lst (row.map .str), .lst (signs.map encSL)] = (sm__law_written [some (.lst (row.map .str)), some (.lst (signs.map encSL)), none] []).bind endD := rfl
  rw [e0]
  unfold sm__law_written
  have hn : noRefs [D.lst (row.map .str), .lst (signs.map encSL)] = true := by rw [noRefs_cons, noRef_lst, noRefs_strs, noRefs_cons, noRef_lst, noRefs_SL]; rfl
  rw [try_exc (written_body (app_exc (h := []) hn (format_bad G hz hl hb)))]
  have hm : mtOf ex_BadNames "BadNames" = some true := by decide +kernel
  have hs : suiteR [.txt "BadNames", .fld "row"] [("row", .tup (row.map .str))] = some (.rt (.val (.tup [.str "BadNames", .tup (row.map .str)]))) := by
    have hp : partsV [("row", .tup (row.map .str))] [.txt "BadNames", .fld "row"] = some [.str "BadNames", .tup (row.map .str)] := by rfl
    unfold suiteR
    rw [hp]
    exact if_pos ⟨by simp, by rw [sizeLine_eq]; show 2 ≤ 16777216; decide⟩
  have hh : handleD "BadNames" [("row", .tup (row.map .str))] [some (.lst (row.map .str)), some (.lst (signs.map encSL)), none] [] [⟨mtOf ex_BadNames, 2, [.txt "BadNames", .fld "row"]⟩, ⟨mtOf ex_BadSigns, 2, [.txt "BadSigns", .fld "house"]⟩] = some (.rt (.val (.tup [.str "BadNames", .tup (row.map .str)]))) := by
    unfold handleD
    dsimp only
    rw [hm]
    dsimp only
    rw [if_pos (by show 2 < 3; decide), hs]
  rw [hh]
  rfl
theorem written_badS {rows : List (List (Nat × Int))} (h1 : 1 ≤ rows.length) (h2 : rows.length ≤ 12) (hs : ∀ s ∈ rows, s.length ≤ 1000) {k : Nat} (hk : rows.findIdx? (fun s => !rowB rows.length s) = some k) :
    fn__law_written [.lst [], .lst (rows.map encSL)] = some (.val (.tup [.str "BadSigns", .int (k : Nat)])) := by
  have e0 : fn__law_written [.lst [], .lst (rows.map encSL)] = (sm__law_written [some (.lst []), some (.lst (rows.map encSL)), none] []).bind endD := rfl
  rw [e0]
  unfold sm__law_written
  have hn : noRefs [D.lst [], .lst (rows.map encSL)] = true := by rw [noRefs_cons, noRef_lst, noRefs_cons, noRef_lst, noRefs_SL]; rfl
  rw [try_exc (written_body (app_exc (h := []) hn (format_badS h1 h2 hs hk)))]
  have hm : mtOf ex_BadNames "BadSigns" = some false := by decide +kernel
  have hm2 : mtOf ex_BadSigns "BadSigns" = some true := by decide +kernel
  have hs : suiteR [.txt "BadSigns", .fld "house"] [("house", .int (k : Nat))] = some (.rt (.val (.tup [.str "BadSigns", .int (k : Nat)]))) := by
    have hp : partsV [("house", .int (k : Nat))] [.txt "BadSigns", .fld "house"] = some [.str "BadSigns", .int (k : Nat)] := by rfl
    unfold suiteR
    rw [hp]
    exact if_pos ⟨rfl, by rw [sizeLine_eq]; show 2 ≤ 16777216; decide⟩
  have hh : handleD "BadSigns" [("house", .int (k : Nat))] [some (.lst []), some (.lst (rows.map encSL)), none] [] [⟨mtOf ex_BadNames, 2, [.txt "BadNames", .fld "row"]⟩, ⟨mtOf ex_BadSigns, 2, [.txt "BadSigns", .fld "house"]⟩] = some (.rt (.val (.tup [.str "BadSigns", .int (k : Nat)]))) := by
    unfold handleD
    dsimp only
    rw [hm]
    dsimp only
    unfold handleD
    dsimp only
    rw [hm2]
    dsimp only
    rw [if_pos (by show 2 < 3; decide), hs]
  rw [hh]
  rfl
/-! ### same -/
mutual
def plainD : D → Bool
  | .non => true
  | .bl _ => true
  | .int _ => true
  | .str _ => true
  | .tup ds => plainDs ds
  | _ => false
def plainDs : List D → Bool
  | [] => true
  | d :: ds => plainD d && plainDs ds
end
theorem plainDs_mem : ∀ {ds : List D} {i : Nat} {d : D}, plainDs ds = true → ds[i]? = some d → plainD d = true
  | [], i, d, _, e => by simp at e
  | x :: xs, 0, d, h, e => by
    simp at e
    subst e
    exact (Bool.and_eq_true_iff.mp (show (plainD x && plainDs xs) = true from h)).1
  | x :: xs, i + 1, d, h, e => plainDs_mem (Bool.and_eq_true_iff.mp (show (plainD x && plainDs xs) = true from h)).2 (by simpa using e)
theorem depl_mem : ∀ {ds : List D} {i : Nat} {d : D}, ds[i]? = some d → dep d ≤ depl ds
  | [], i, d, e => by simp at e
  | x :: xs, 0, d, e => by simp at e; subst e; exact Nat.le_max_left _ _
  | x :: xs, i + 1, d, e => Nat.le_trans (depl_mem (ds := xs) (i := i) (by simpa using e)) (Nat.le_max_right _ _)
mutual
theorem plain_noRef : ∀ d : D, plainD d = true → noRef d = true
  | .non, _ => rfl
  | .bl _, _ => rfl
  | .int _, _ => rfl
  | .str _, _ => rfl
  | .tup ds, h => plain_noRefs ds h
theorem plain_noRefs : ∀ ds : List D, plainDs ds = true → noRefs ds = true
  | [], _ => rfl
  | d :: ds, h => by
    have h' := Bool.and_eq_true_iff.mp (show (plainD d && plainDs ds) = true from h)
    show (noRef d && noRefs ds) = true
    rw [plain_noRef d h'.1, plain_noRefs ds h'.2]; rfl
end
mutual
/-- no tuple within is too long -/
def shortD : D → Prop
  | .tup ds => ds.length ≤ 1000 ∧ shortDs ds
  | _ => True
def shortDs : List D → Prop
  | [] => True
  | d :: ds => shortD d ∧ shortDs ds
end
theorem shortDs_mem : ∀ {ds : List D} {i : Nat} {d : D}, shortDs ds → ds[i]? = some d → shortD d
  | [], i, d, _, e => by simp at e
  | x :: xs, 0, d, h, e => by simp at e; subst e; exact h.1
  | x :: xs, i + 1, d, h, e => shortDs_mem h.2 (by simpa using e)
theorem same_ok : ∀ (n : Nat) (d : D), plainD d = true → shortD d → dep d < n → fnRec 3 sm__law_same n [d, d] = some (.val (.bl true))
  | 0, _, _, _, h => absurd h (Nat.not_lt_zero _)
  | n + 1, d, hp, hs, hd => by
    show (sm__law_same (fnRec 3 sm__law_same n) [some d, some d, none] []).bind endD = _
    have IH : ∀ x : D, plainD x = true → shortD x → dep x < n → fnRec 3 sm__law_same n [x, x] = some (.val (.bl true)) := fun x h1 h2 h3 => same_ok n x h1 h2 h3
    generalize fnRec 3 sm__law_same n = fn at IH ⊢
    unfold sm__law_same
    cases d with
    | non => rfl
    | bl b => cases b <;> rfl
    | int i =>
      have t1 : ∀ h, tiD h (D.int i) = some .int := fun _ => rfl
      have t2 : DL.isNon (D.int i) = false := rfl
      simp -implicitDefEqProofs [t1, t2, isiT, endD, retD, deepD, depthD]
    | str i =>
      have t1 : ∀ h, tiD h (D.str i) = some .str := fun _ => rfl
      have t2 : DL.isNon (D.str i) = false := rfl
      simp -implicitDefEqProofs [t1, t2, isiT, endD, retD, deepD, depthD]
    | tup ds =>
      have hp' : plainDs ds = true := hp
      have hd' : depl ds < n := by have : depl ds + 1 < n + 1 := hd; omega
      have ih : ∀ i x, ds[i]? = some x → fn [x, x] = some (.val (.bl true)) := fun i x hx =>
        IH x (plainDs_mem hp' hx) (shortDs_mem hs.2 hx) (Nat.lt_of_le_of_lt (depl_mem hx) hd')
      have hl := hs.1
      have hr := li_range1 (l := sCons (sBi .len (sCons (sVar 1) sNil)) sNil) (ρ := [some (.tup ds), some (.tup ds), none]) (h := []) (j := (ds.length : Int)) (by simp) (by omega) (small62 (by rw [sizeLine_eq]; omega))
      rw [Int.toNat_natCast] at hr
      have hc := sComp_list (vs := [2]) (gx := gxName 2) (tst := st__law_same_1 fn) (elt := sVar 2) hr (by rw [rngL_len, sizeLine_eq]; omega) (ds := ((List.range ds.length).filter fun _ => false).map fun i : Nat => .int (i : Int)) (by
        rw [rngL_map]
        refine comL_filter (p := fun _ => false) fun i hi => ⟨_, rfl, ?_, fun z => by cases z⟩
        have hi := List.mem_range.mp hi
        obtain ⟨x, hx⟩ : ∃ x, ds[i]? = some x := ⟨_, List.getElem?_eq_getElem hi⟩
        have hx1 : ixD [] (.tup ds) (.int (i : Int)) = some x := by rw [x_tup]; exact atI_nat (k := i) hx rfl
        have ha : appF fn [] [x, x] = some (.ok (.bl true)) := app_val (by
          have := plain_noRef x (plainDs_mem hp' hx)
          rw [noRefs_cons, noRefs_cons, this]; rfl) (ih i x hx)
        show st__law_same_1 fn [some (.tup ds), some (.tup ds), some (.int (0 + (i : Int)))] [] = _
        rw [Int.zero_add]
        simp -implicitDefEqProofs [st__law_same_1, hx1, ha, -x_tup])
      have hf : (List.range ds.length).filter (fun _ => false) = [] := by simp
      rw [hf, List.map_nil] at hc
      have e1 : sRet (liftM (sNot (sTru (sComp [2] (iRange1 (sCons (sBi .len (sCons (sVar 1) sNil)) sNil)) (gxName 2) (st__law_same_1 fn) (sVar 2))))) [some (.tup ds), some (.tup ds), none] [] = some (.rt (.val (.bl true))) := by
        rw [m_ret, m_lift, m_not, m_tru, hc]
        rfl
      have t1 : ∀ h, tiD h (D.tup ds) = some .tuple := fun _ => rfl
      have t2 : DL.isNon (D.tup ds) = false := rfl
      have e2 : sIfS (sOr (sNot (sTru (sIsi .tuple (sVar 0)))) (sCmp .NotEq (sBi .len (sCons (sVar 0) sNil)) (sBi .len (sCons (sVar 1) sNil)))) (sRet (liftM (sCst (.bl false)))) sNext [some (.tup ds), some (.tup ds), none] [] = some (.nx [some (.tup ds), some (.tup ds), none] []) := by
        simp -implicitDefEqProofs [t1, isiT]
      have e3 : (sSeq (sIfS (sOr (sNot (sTru (sIsi .tuple (sVar 0)))) (sCmp .NotEq (sBi .len (sCons (sVar 0) sNil)) (sBi .len (sCons (sVar 1) sNil)))) (sRet (liftM (sCst (.bl false)))) sNext)
  (sRet (liftM (sNot (sTru (sComp [2] (iRange1 (sCons (sBi .len (sCons (sVar 1) sNil)) sNil)) (gxName 2) (st__law_same_1 fn) (sVar 2))))))) [some (.tup ds), some (.tup ds), none] [] = some (.rt (.val (.bl true))) := by
        rw [m_seq, e2]
        exact e1
      have f1 : sIfS (sCmp .Is (sVar 1) (sCst .non)) (sRet (liftM (sCmp .Is (sVar 0) (sCst .non)))) sNext [some (.tup ds), some (.tup ds), none] [] = some (.nx [some (.tup ds), some (.tup ds), none] []) := by
        simp -implicitDefEqProofs [t2]
      have f2 : sIfS (sOr (sTru (sIsi .bool (sVar 1))) (sTru (sIsi .bool (sVar 0)))) (sRet (liftM (sAndV (sIsi .bool (sVar 1)) (sAndV (sIsi .bool (sVar 0)) (sCmp .Eq (sVar 0) (sVar 1)))))) sNext [some (.tup ds), some (.tup ds), none] [] = some (.nx [some (.tup ds), some (.tup ds), none] []) := by
        simp -implicitDefEqProofs [t1, isiT]
      have f3 : sTru (sIsi .tuple (sVar 1)) [some (.tup ds), some (.tup ds), none] [] = some (.ok (.bl true)) := by
        simp -implicitDefEqProofs [t1, isiT]
      rw [m_seq, f1]
      dsimp only
      rw [m_seq, f2]
      dsimp only
      rw [m_seq, m_ifS, f3, m_bndBS_ok, if_pos rfl, e3]
      rfl
    | lst _ => cases hp
    | ref _ => cases hp
    | scr _ => cases hp
    | dct _ => cases hp
    | obj _ _ => cases hp
theorem law_same_ok {d : D} (hp : plainD d = true) (hs : shortD d) (hd : dep d < 8) : fn__law_same [d, d] = some (.val (.bl true)) := same_ok 8 d hp hs hd
end K75

set_option Elab.async false
set_option linter.all false
set_option maxRecDepth 100000
set_option maxHeartbeats 1000000
namespace K75
open PySem PySem.Spec PyProof.Rows L2 DL TL
/-! ### the text read again -/
theorem mem_joinL {S : List Nat} {x : Nat} : ∀ {ps : List (List Nat)}, x ∈ joinL S ps → x ∈ S ∨ ∃ p ∈ ps, x ∈ p
  | [], h => by cases h
  | [p], h => .inr ⟨p, List.mem_singleton.mpr rfl, h⟩
  | p :: q :: r, h => by
    have e : joinL S (p :: q :: r) = p ++ (S ++ joinL S (q :: r)) := rfl
    rw [e] at h
    rcases List.mem_append.mp h with h | h
    · exact .inr ⟨p, List.mem_cons_self, h⟩
    · rcases List.mem_append.mp h with h | h
      · exact .inl h
      · rcases mem_joinL h with h | ⟨a, h1, h2⟩
        · exact .inl h
        · exact .inr ⟨a, List.mem_cons_of_mem _ h1, h2⟩
theorem ch_free {c : Nat} (h : chOk c = true) : c ≠ 32 ∧ c ≠ 10 := by
  constructor
  · intro e; subst e; revert h; decide +kernel
  · intro e; subst e; revert h; decide +kernel
theorem name_free {n : Str} (h : nameOk n = true) : (32 ∉ tl n) ∧ 10 ∉ tl n := by
  unfold nameOk at h
  have h2 := List.all_eq_true.mp (Bool.and_eq_true_iff.mp h).2
  exact ⟨fun z => (ch_free (h2 _ z)).1 rfl, fun z => (ch_free (h2 _ z)).2 rfl⟩
theorem mk_free (g : Int) : (32 ∉ tl (mkS g)) ∧ 10 ∉ tl (mkS g) := by
  unfold mkS
  split
  · rw [tl_ofString]; decide
  · split
    · rw [tl_ofString]; decide
    · rw [tl_ofString]; decide
variable {names : List Str} {signs : List (List (Nat × Int))}
theorem Good.word_free (G : Good names signs) {s : List (Nat × Int)} (hs : s ∈ signs) {p : Nat × Int} (hp : p ∈ s) : (32 ∉ tl (wordOf names p)) ∧ 10 ∉ tl (wordOf names p) := by
  obtain ⟨n, _, h2, _, h4⟩ := G.get (((G.rows s hs).2.2 p hp).1)
  have f1 := name_free h4
  have f2 := mk_free p.2
  unfold wordOf
  rw [h2, tl_append]
  exact ⟨fun z => by rcases List.mem_append.mp z with z | z; exact f2.1 z; exact f1.1 z, fun z => by rcases List.mem_append.mp z with z | z; exact f2.2 z; exact f1.2 z⟩
theorem Good.words_free (G : Good names signs) {s : List (Nat × Int)} (hs : s ∈ signs) {n : Str} (hn : nameOk n = true) : ∀ w ∈ n :: s.map (wordOf names), (32 ∉ tl w) ∧ 10 ∉ tl w := fun w hw => by
  rcases List.mem_cons.mp hw with rfl | hw
  · exact name_free hn
  · obtain ⟨p, hp, rfl⟩ := List.mem_map.mp hw
    exact G.word_free hs hp
theorem Good.line_free (G : Good names signs) {s : List (Nat × Int)} (hs : s ∈ signs) {n : Str} (hn : nameOk n = true) : 10 ∉ tl (lineOf names n s) := fun z => by
  unfold lineOf at z
  rw [join_eq, tl_join, tl_sp] at z
  rcases mem_joinL z with z | ⟨q, h1, h2⟩
  · simp at z
  · obtain ⟨w, hw, rfl⟩ := List.mem_map.mp h1
    exact (G.words_free hs hn w hw).2 h2
theorem Good.line_split (G : Good names signs) {s : List (Nat × Int)} (hs : s ∈ signs) {n : Str} (hn : nameOk n = true) : Txt.split (lineOf names n s) " " = n :: s.map (wordOf names) := by
  have := split_join (y := " ") (s := 32) (S := []) tl_sp (by decide +kernel) (parts := n :: s.map (wordOf names)) (by simp) (fun p hp => (G.words_free hs hn p hp).1)
  unfold lineOf
  exact this
theorem num_free (n : Nat) : (32 ∉ tl (numS n)) ∧ 10 ∉ tl (numS n) := by
  rw [tl_numS]
  exact ⟨numL_free (by decide), numL_free (by decide)⟩
theorem head_join (n : Nat) : headOf n = Txt.join " " [("signs" : Str), numS n] := ext_tl (by
  rw [join_eq, tl_join, tl_sp]
  unfold headOf
  rw [tl_append, tl_ofString]
  show _ = tl ("signs" : Str) ++ ([32] ++ tl (numS n))
  rw [tl_ofString]
  rfl)
theorem signs_free : (32 ∉ tl ("signs" : Str)) ∧ 10 ∉ tl ("signs" : Str) := by rw [tl_ofString]; decide
theorem head_split (n : Nat) : Txt.split (headOf n) " " = [("signs" : Str), numS n] := by
  rw [head_join]
  exact split_join (y := " ") (s := 32) (S := []) tl_sp (by decide +kernel) (by simp) (fun p hp => by
    simp only [List.mem_cons, List.not_mem_nil, or_false] at hp
    rcases hp with rfl | rfl
    · exact signs_free.1
    · exact (num_free n).1)
theorem head_free (n : Nat) : 10 ∉ tl (headOf n) := fun z => by
  unfold headOf at z
  rw [tl_append] at z
  rcases List.mem_append.mp z with z | z
  · rw [tl_ofString] at z; revert z; decide
  · exact (num_free n).2 z
theorem Good.zip_name (G : Good names signs) {p : Str × List (Nat × Int)} (hp : p ∈ names.zip signs) : p.2 ∈ signs ∧ nameOk p.1 = true := by
  have := List.of_mem_zip (a := p.1) (b := p.2) hp
  exact ⟨this.2, G.n.2 _ this.1⟩
theorem Good.lines (G : Good names signs) : linesOf (textOf names signs) = [("signs" : Str), numS signs.length] :: (names.zip signs).map fun p => p.1 :: p.2.map (wordOf names) := by
  have h1 : Txt.split (textOf names signs) "\n" = headOf signs.length :: (names.zip signs).map fun p => lineOf names p.1 p.2 := by
    unfold textOf
    exact split_join (y := "\n") (s := 10) (S := []) tl_nl (by decide +kernel) (by simp) (fun p hp => by
      rcases List.mem_cons.mp hp with rfl | hp
      · exact head_free _
      · obtain ⟨q, hq, rfl⟩ := List.mem_map.mp hp
        obtain ⟨k1, k2⟩ := G.zip_name hq
        exact G.line_free k1 k2)
  unfold linesOf
  rw [h1, List.map_cons, head_split, List.map_map]
  congr 1
  refine List.map_congr_left fun q hq => ?_
  obtain ⟨k1, k2⟩ := G.zip_name hq
  exact G.line_split k1 k2
theorem nodup_ix {α : Type} {xs : List α} (hn : xs.Nodup) {i j : Nat} (hi : i < xs.length) (hj : j < xs.length) (e : xs[i] = xs[j]) : i = j := by
  have h := List.pairwise_iff_getElem.mp hn
  rcases Nat.lt_trichotomy i j with c | c | c
  · exact absurd e (h i j hi hj c)
  · exact c
  · exact absurd e.symm (h j i hj hi c)
theorem find_at {α : Type} [DecidableEq α] {xs : List α} {i : Nat} {x : α} (hn : xs.Nodup) (h : xs[i]? = some x) : xs.findIdx? (fun y => decide (y = x)) = some i := by
  obtain ⟨j, h1, h2, h3⟩ := findIdx_mem (List.mem_of_getElem? h)
  have hi := (List.getElem?_eq_some_iff.mp h).1
  have : i = j := by
    have e1 : xs[i] = x := (List.getElem?_eq_some_iff.mp h).2
    have e2 : xs[j] = x := (List.getElem?_eq_some_iff.mp h2).2
    exact nodup_ix hn hi h3 (e1.trans e2.symm)
  rw [this]; exact h1
theorem sizes_nodup : sizesS.Nodup := by
  unfold sizesS
  refine List.pairwise_map.mpr (List.Pairwise.imp (fun {a b} hab e => ?_) (List.nodup_range (n := 12)))
  have := numS_inj e
  omega
theorem count_head {n : Nat} (h1 : 1 ≤ n) (h2 : n ≤ 12) : countOf [("signs" : Str), numS n] = .inr n := by
  have hf : sizesS.findIdx? (fun y => decide (y = numS n)) = some (n - 1) := find_at sizes_nodup (by
    unfold sizesS
    rw [List.getElem?_map, List.getElem?_range (by omega)]
    show some (numS (1 + (n - 1))) = _
    rw [show 1 + (n - 1) = n by omega])
  simp only [countOf, if_true, hf]
  rw [show n - 1 + 1 = n by omega]
theorem names_read : ∀ (ns : List Str) (i : Nat) (acc : List Str), (acc ++ ns).Nodup → (∀ n ∈ ns, nameOk n = true) → namesOf ns i acc = .inr (acc ++ ns)
  | [], _, acc, _, _ => by simp [namesOf]
  | n :: ns, i, acc, h1, h2 => by
    have hn : n ∉ acc := fun z => by
      have := (List.nodup_append.mp h1).2.2 n z n List.mem_cons_self
      exact this rfl
    have e : nameStep n i acc = .inr (acc ++ [n]) := if_pos ⟨h2 n List.mem_cons_self, hn⟩
    simp only [namesOf, e]
    rw [names_read ns (i + 1) (acc ++ [n]) (by rw [List.append_assoc]; exact h1) (fun m hm => h2 m (List.mem_cons_of_mem _ hm)), List.append_assoc]
    rfl
theorem sgn_mk {g : Int} (hg : g = -1 ∨ g = 0 ∨ g = 1) : sgn (mkS g) = some g := by
  rcases hg with rfl | rfl | rfl <;> decide +kernel
theorem mk_tl1 (g : Int) : ∃ c, tl (mkS g) = [c] := by
  unfold mkS
  split
  · exact ⟨43, by rw [tl_ofString]; rfl⟩
  · split
    · exact ⟨45, by rw [tl_ofString]; rfl⟩
    · exact ⟨63, by rw [tl_ofString]; rfl⟩
theorem word_parts (g : Int) (n : Str) : mkO (mkS g ++ n) = mkS g ∧ nmO (mkS g ++ n) = n := by
  obtain ⟨c, hc⟩ := mk_tl1 g
  constructor
  · refine ext_tl ?_
    show tl (cutS _ none (some 1)) = _
    rw [tl_cut01, tl_append, hc]; rfl
  · refine ext_tl ?_
    show tl (cutS _ (some 1) none) = _
    rw [tl_cut1, tl_append, hc]; rfl
theorem Good.row_step (G : Good names signs) {s : List (Nat × Int)} (hs : s ∈ signs) {p : Nat × Int} (hp : p ∈ s) {acc : List (Nat × Int)} (h1 : acc.length < 4) (h2 : lastOf acc < (p.1 : Int)) {i : Nat} : rowStep names (wordOf names p) i acc = .inr (acc ++ [p]) := by
  obtain ⟨n, k1, k2, _, _⟩ := G.get (((G.rows s hs).2.2 p hp).1)
  have hsg := sgn_mk (((G.rows s hs).2.2 p hp).2)
  have hw := word_parts p.2 n
  unfold rowStep wordOf
  rw [k2, hw.1, hw.2, hsg, find_at G.n.1 k1]
  dsimp only
  rw [if_neg (by rintro (z | z) <;> omega)]
theorem Good.row_read (G : Good names signs) {s : List (Nat × Int)} (hs : s ∈ signs) : ∀ (r acc : List (Nat × Int)) (i : Nat), acc ++ r = s → rowOf names (r.map (wordOf names)) i acc = .inr s
  | [], acc, i, e => by rw [List.append_nil] at e; subst e; rfl
  | p :: r, acc, i, e => by
    have hrow := G.rows s hs
    have hp : p ∈ s := by rw [← e]; exact List.mem_append_right _ List.mem_cons_self
    have hl : acc.length < 4 := by
      have := congrArg List.length e
      rw [List.length_append, List.length_cons] at this
      have := hrow.1
      omega
    have hla : lastOf acc < (p.1 : Int) := by
      cases q : acc.getLast? with
      | none => unfold lastOf; rw [q]; dsimp only; omega
      | some r0 =>
        unfold lastOf
        rw [q]
        dsimp only
        have hm : r0 ∈ acc := List.mem_of_getLast? q
        have hpw := hrow.2.1
        rw [← e, List.map_append] at hpw
        have := (List.pairwise_append.mp hpw).2.2 r0.1 (List.mem_map.mpr ⟨r0, hm, rfl⟩) p.1 (List.mem_map.mpr ⟨p, List.mem_cons_self, rfl⟩)
        omega
    rw [List.map_cons]
    simp only [rowOf, G.row_step hs hp hl hla]
    exact G.row_read hs r (acc ++ [p]) (i + 1) (by rw [List.append_assoc]; exact e)
theorem Good.rows_read (G : Good names signs) : ∀ (zs : List (Str × List (Nat × Int))) (i : Nat), (∀ z ∈ zs, z.2 ∈ signs) → rowsOf names (zs.map fun p => p.1 :: p.2.map (wordOf names)) i = .inr (zs.map (·.2))
  | [], _, _ => rfl
  | z :: zs, i, h => by
    have h1 := G.row_read (h z List.mem_cons_self) z.2 [] 1 rfl
    have h2 := G.rows_read zs (i + 1) fun y hy => h y (List.mem_cons_of_mem _ hy)
    simp only [List.map_cons, rowsOf, List.tail_cons, h1, h2]
theorem Good.read (G : Good names signs) : readL (linesOf (textOf names signs)) = .inr (names, signs) := by
  rw [G.lines]
  unfold readL
  have hz : (names.zip signs).length = signs.length := by rw [List.length_zip, G.len]; omega
  have h2 : ((names.zip signs).map fun p => p.1 :: p.2.map (wordOf names)).map (fun ws => ws.headD Str.empty) = names := by
    rw [List.map_map]
    have : ((fun ws : List Str => ws.headD Str.empty) ∘ fun p : Str × List (Nat × Int) => p.1 :: p.2.map (wordOf names)) = Prod.fst := rfl
    rw [this, List.map_fst_zip (by rw [G.len]; exact Nat.le_refl _)]
  have h3 := G.rows_read (names.zip signs) 0 (fun z hz => (G.zip_name hz).1)
  have h4 : (names.zip signs).map (·.2) = signs := List.map_snd_zip (by rw [G.len]; exact Nat.le_refl _)
  rw [List.headD_cons, count_head G.lo G.hi]
  dsimp only
  rw [List.length_cons, List.length_map, hz, if_neg (by omega), if_neg (by omega), List.tail_cons, h2, names_read names 0 [] (by simpa using G.n.1) G.n.2, List.nil_append]
  dsimp only
  rw [h3, h4]
end K75

set_option Elab.async false
set_option linter.all false
set_option maxRecDepth 100000
set_option maxHeartbeats 1000000
namespace DL
open PySem PySem.Spec PyProof.Rows L2
/-- a comprehension over a list of the frame's own -/
theorem mComp_at {vs : List Nat} {f gx : _} {tst elt : Sx} {ρ : Rho} {h : List Cell} {n : Nat} {xs ds : List D} (hf : f ρ h = some (.ok (.ref n))) (hn : h[n]? = some (.lst xs)) (hl : xs.length ≤ sizeLine) (hc : comL gx tst elt (wipeR ρ vs) h xs = some (.ok ds)) : mComp vs (iData f) gx tst elt ρ h = some (.ok (.ref h.length) (h ++ [.lst ds])) := by
  have e : ∃ itm, iData f ρ h = some (.ok itm xs.length) ∧ ∀ i, itm h i = xs[i]? := by
    unfold iData
    rw [hf]
    show ∃ itm, itmD h (.ref n) = some (.ok itm xs.length) ∧ _
    unfold itmD
    dsimp only
    rw [hn]
    exact ⟨_, rfl, fun i => by simp only [hn]⟩
  obtain ⟨itm, e1, e2⟩ := e
  show bndLM (bndIR (iData f ρ h) _) h _ = _
  rw [e1]
  show bndLM (if xs.length ≤ sizeLine then compD itm gx tst elt (wipeR ρ vs) h xs.length 0 else none) h _ = _
  rw [if_pos hl, show compD itm gx tst elt (wipeR ρ vs) h xs.length 0 = comL gx tst elt (wipeR ρ vs) h xs from compD_from itm xs gx tst elt _ h e2 xs [] rfl, hc]
  rfl
end DL
namespace K75
open PySem PySem.Spec PyProof.Rows L2 DL TL
/-! ### one change of the lines -/
def ch0 : Sm := (sSet 0 (mCompM [8] (iData (sVar 0)) (gxName 8) sYes (mList (sVar 8))))
def ch1 : Sm := (sSet 3 (liftM (sBin .Mod (sBi .int (sCons (sIx (sVar 1) (sCst (.int 1))) sNil)) (sBi .len (sCons (sVar 0) sNil)))))
def ch2 : Sm := (sSet 4 (liftM (sBin .Mod (sBi .int (sCons (sIx (sVar 1) (sCst (.int 2))) sNil)) (sBi .len (sCons (sIx (sVar 0) (sVar 3)) sNil)))))
def ch3 : Sm := (sSet 5 (liftM (sLst (sCons (sCst (.str "")) (sCons (sCst (.str "signs")) (sCons (sCst (.str "web")) (sCons (sCst (.str "0")) (sCons (sCst (.str "13")) (sCons (sCst (.str "07")) (sCons (sCst (.str "?")) (sCons (sCst (.str "+")) (sCons (sCst (.str "-")) (sCons (sCst (.str "A")) (sCons (sCst (.str "ninesigns")) (sCons (sCst (.str "a1")) (sCons (sCst (.str "*")) (sCons (sBin .Add (sCst (.str "!")) (sIx (sVar 2) (sCst (.int 0)))) (sCons (sBin .Add (sCst (.str "+")) (sIx (sVar 2) (sUn .USub (sCst (.int 1))))) sNil))))))))))))))))))
def ch4 : Sm := (sSet 5 (liftM (sBin .Add (sVar 5) (sLst (sCons (sBin .Add (sCst (.str "-")) (sIx (sVar 2) (sCst (.int 0)))) (sCons (sBin .Add (sCst (.str "?")) (sIx (sVar 2) (sBin .Mod (sBi .int (sCons (sIx (sVar 1) (sCst (.int 3))) sNil)) (sBi .len (sCons (sVar 2) sNil))))) (sCons (sIx (sVar 2) (sUn .USub (sCst (.int 1)))) (sCons (sBin .Add (sBin .Add (sCst (.str "+")) (sIx (sVar 2) (sCst (.int 0)))) (sCst (.str " "))) (sCons (sCst (.str "12")) sNil)))))))))
def ct0 : Sx := (sCmp .Eq (sIx (sVar 1) (sCst (.int 0))) (sCst (.int 0)))
def cb0 : Sm := (sPut (sIx (sVar 0) (sVar 3)) (sVar 4) (liftM (sIx (sVar 5) (sIx (sVar 1) (sCst (.int 3))))))
def ct1 : Sx := (sCmp .Eq (sIx (sVar 1) (sCst (.int 0))) (sCst (.int 1)))
def cb1 : Sm := (sDrop (mMu .insert (sIx (sVar 0) (sVar 3)) (nCons (liftM (sVar 4)) (nCons (liftM (sIx (sIx (sVar 0) (sVar 3)) (sVar 4))) nNil))))
def ct2 : Sx := (sCmp .Eq (sIx (sVar 1) (sCst (.int 0))) (sCst (.int 2)))
def cb2 : Sm := (sDrop (mMu .popAt (sIx (sVar 0) (sVar 3)) (nCons (liftM (sVar 4)) nNil)))
def ct3 : Sx := (sCmp .Eq (sIx (sVar 1) (sCst (.int 0))) (sCst (.int 3)))
def cb3 : Sm := (sDrop (mMu .insert (sVar 0) (nCons (liftM (sVar 3)) (nCons (mList (sIx (sVar 0) (sVar 3))) nNil))))
def ct4 : Sx := (sAnd (sCmp .Eq (sIx (sVar 1) (sCst (.int 0))) (sCst (.int 4))) (sCmp .Gt (sBi .len (sCons (sVar 0) sNil)) (sCst (.int 1))))
def cb4 : Sm := (sDrop (mMu .popAt (sVar 0) (nCons (liftM (sVar 3)) nNil)))
def ct5 : Sx := (sCmp .Eq (sIx (sVar 1) (sCst (.int 0))) (sCst (.int 5)))
def cb5 : Sm := (sDrop (mMu .append (sIx (sVar 0) (sVar 3)) (nCons (liftM (sIx (sVar 5) (sIx (sVar 1) (sCst (.int 3))))) nNil)))
def ct6 : Sx := (sCmp .Eq (sIx (sVar 1) (sCst (.int 0))) (sCst (.int 6)))
def cb6 : Sm := (sSeq (sSet 6 (liftM (sIx (sVar 0) (sUn .USub (sCst (.int 1)))))) (sSeq (sPut (sVar 0) (sUn .USub (sCst (.int 1))) (liftM (sIx (sVar 0) (sVar 3)))) (sPut (sVar 0) (sVar 3) (liftM (sVar 6)))))
def ct7 : Sx := (sCmp .Eq (sIx (sVar 1) (sCst (.int 0))) (sCst (.int 7)))
def cb7 : Sm := (sSeq (sSet 7 (liftM (sIx (sIx (sVar 0) (sVar 3)) (sVar 4)))) (sPut (sIx (sVar 0) (sVar 3)) (sVar 4) (liftM (sBin .Add (sIx (sLst (sCons (sCst (.str "+")) (sCons (sCst (.str "-")) (sCons (sCst (.str "?")) (sCons (sCst (.str " ")) (sCons (sCst (.str "!")) sNil)))))) (sBin .Mod (sBi .int (sCons (sIx (sVar 1) (sCst (.int 3))) sNil)) (sCst (.int 5)))) (sSl (sVar 7) (some (sCst (.int 1))) none)))))
def ct8 : Sx := (sCmp .Eq (sIx (sVar 1) (sCst (.int 0))) (sCst (.int 8)))
def cb8 : Sm := (sDrop (mMu0 .reverse (sIx (sVar 0) (sVar 3))))
def ch5 : Sm := (sIfS ct0 cb0 (sIfS ct1 cb1 (sIfS ct2 cb2 (sIfS ct3 cb3 (sIfS ct4 cb4 (sIfS ct5 cb5 (sIfS ct6 cb6 (sIfS ct7 cb7 (sIfS ct8 cb8 sNext)))))))))
def ch6 : Sm := (sRet (mComp [8] (iData (sVar 0)) (gxName 8) sYes se__law_changed_1))
theorem changed_eq : sm__law_changed = (sSeq ch0 (sSeq ch1 (sSeq ch2 (sSeq ch3 (sSeq ch4 (sSeq ch5 ch6)))))) := rfl
def cellW (ws : List Str) : Cell := .lst (ws.map .str)
def hT (rs : List Nat) (rows : List (List Str)) : List Cell := .lst (rs.map .ref) :: rows.map cellW
structure Tab (a b c : Nat) (rs : List Nat) (rows : List (List Str)) : Prop where
  ne : rs ≠ []
  la : rs.length ≤ a
  ok : ∀ r ∈ rs, ∃ k, r = k + 1 ∧ k < rows.length
  lb : ∀ ws ∈ rows, ws.length ≤ b
  lc : ∀ ws ∈ rows, ∀ w ∈ ws, w.length ≤ c
section
variable {rs : List Nat} {rows : List (List Str)} {ws : List Str} {k : Nat}
theorem hT_get0 : (hT rs rows)[0]? = some (.lst (rs.map .ref)) := rfl
theorem hT_get (h : rows[k]? = some ws) : (hT rs rows)[k + 1]? = some (.lst (ws.map .str)) := by
  show (rows.map cellW)[k]? = _
  rw [List.getElem?_map, h]; rfl
theorem hT_set0 {rs' : List Nat} : (hT rs rows).set 0 (.lst (rs'.map .ref)) = hT rs' rows := rfl
theorem map_set' {α β : Type} (f : α → β) : ∀ (xs : List α) (k : Nat) (x : α), (xs.map f).set k (f x) = (xs.set k x).map f
  | [], _, _ => rfl
  | y :: ys, 0, x => rfl
  | y :: ys, k + 1, x => by
    show f y :: (ys.map f).set k (f x) = f y :: (ys.set k x).map f
    rw [map_set' f ys k x]
theorem hT_set : (hT rs rows).set (k + 1) (.lst (ws.map .str)) = hT rs (rows.set k ws) := by
  show Cell.lst (rs.map .ref) :: (rows.map cellW).set k (cellW ws) = _
  rw [map_set']; rfl
theorem hT_new : hT rs rows ++ [.lst (ws.map .str)] = hT rs (rows ++ [ws]) := by
  show Cell.lst (rs.map .ref) :: (rows.map cellW ++ [cellW ws]) = Cell.lst (rs.map .ref) :: (rows ++ [ws]).map cellW
  rw [List.map_append]; rfl
theorem hT_len : (hT rs rows).length = rows.length + 1 := by simp [hT]
end
section
variable {a b c : Nat} {rs : List Nat} {rows : List (List Str)} {ws : List Str} {k : Nat}
theorem Tab.up (T : Tab a b c rs rows) : Tab (a + 1) (b + 1) (c + 1) rs rows := ⟨T.ne, by have := T.la; omega, T.ok, fun ws h => by have := T.lb ws h; omega, fun ws h w hw => by have := T.lc ws h w hw; omega⟩
theorem Tab.set (T : Tab a b c rs rows) (h1 : ws.length ≤ b) (h2 : ∀ w ∈ ws, w.length ≤ c) : Tab a b c rs (rows.set k ws) := by
  refine ⟨T.ne, T.la, fun r hr => by rw [List.length_set]; exact T.ok r hr, fun v hv => ?_, fun v hv => ?_⟩
  · rcases List.mem_or_eq_of_mem_set hv with z | z
    · exact T.lb v z
    · rw [z]; exact h1
  · rcases List.mem_or_eq_of_mem_set hv with z | z
    · exact T.lc v z
    · rw [z]; exact h2
theorem Tab.new (T : Tab a b c rs rows) (h1 : ws.length ≤ b) (h2 : ∀ w ∈ ws, w.length ≤ c) : Tab a b c rs (rows ++ [ws]) := by
  refine ⟨T.ne, T.la, fun r hr => by
    obtain ⟨k, h, h'⟩ := T.ok r hr
    exact ⟨k, h, by rw [List.length_append]; simp; omega⟩, fun v hv => ?_, fun v hv => ?_⟩
  · rcases List.mem_append.mp hv with z | z
    · exact T.lb v z
    · rw [List.mem_singleton.mp z]; exact h1
  · rcases List.mem_append.mp hv with z | z
    · exact T.lc v z
    · rw [List.mem_singleton.mp z]; exact h2
end
theorem seqIx {m : Nat} {i : Int} {k : Nat} (h : i = k) (hk : k < m) : ixN m i = some k := by
  subst h
  unfold ixN
  rw [if_pos (Int.natCast_nonneg k), if_pos (by omega)]; rfl
theorem put_ok {h : List Cell} {n : Nat} {xs : List D} {i : Int} {k : Nat} {d : D} {ρ : Rho} (hn : h[n]? = some (.lst xs)) (hi : i = k) (hk : k < xs.length) : putEnd (.ref n) (.int i) d h ρ = some (.nx ρ (h.set n (.lst (xs.set k d)))) := by
  unfold putEnd
  rw [cell_ref hn]
  dsimp only
  rw [seqIx hi hk]
theorem put_neg1 {h : List Cell} {n : Nat} {xs : List D} {d : D} {ρ : Rho} (hn : h[n]? = some (.lst xs)) (hk : xs ≠ []) : putEnd (.ref n) (.int (-1)) d h ρ = some (.nx ρ (h.set n (.lst (xs.set (xs.length - 1) d)))) := by
  unfold putEnd
  rw [cell_ref hn]
  dsimp only
  have hl : 0 < xs.length := List.length_pos_iff.mpr hk
  have : ixN xs.length (-1) = some (xs.length - 1) := by
    unfold ixN
    rw [if_neg (by omega), if_pos (by omega)]
    congr 1
    omega
  rw [this]
/-- the frame of a change -/
structure Ch (a b c : Nat) (rs : List Nat) (rows : List (List Str)) (ds : List Int) (names menu : List Str) (at_ place k : Nat) (ws : List Str) (w : Str) : Prop where
  T : Tab a b c rs rows
  ha : a ≤ 1000
  hb : b ≤ 1000
  hat : rs[at_]? = some (k + 1)
  hws : rows[k]? = some ws
  hw : ws[place]? = some w
  hm : ∀ i : Int, 0 ≤ i → i < 20 → ∃ u, atI (menu.map D.str) i = some (.str u) ∧ u.length ≤ c
  hd : ∃ d0 d1 d2 d3 : Int, ∃ r, ds = d0 :: d1 :: d2 :: d3 :: r ∧ 0 ≤ d3 ∧ d3 < 20
def fr (ds : List Int) (names menu : List Str) (at_ place : Nat) (v6 v7 v8 : Option D) : Rho := [some (.ref 0), some (.lst (ds.map .int)), some (.tup (names.map .str)), some (.int at_), some (.int place), some (.lst (menu.map .str)), v6, v7, v8]
def Done (a b c : Nat) (ds : List Int) (names menu : List Str) (at_ place : Nat) (x : Option Out) : Prop := ∃ v6 v7 v8 rs rows, x = some (.nx (fr ds names menu at_ place v6 v7 v8) (hT rs rows)) ∧ Tab (a + 1) (b + 1) (c + 1) rs rows
section
variable {a b c : Nat} {rs : List Nat} {rows : List (List Str)} {ds : List Int} {names menu : List Str} {at_ place k : Nat} {ws : List Str} {w : Str} {v6 v7 v8 : Option D}
theorem Ch.len (C : Ch a b c rs rows ds names menu at_ place k ws w) : ws.length ≤ b ∧ (∀ u ∈ ws, u.length ≤ c) ∧ place < ws.length ∧ at_ < rs.length ∧ k < rows.length ∧ rs.length ≤ a :=
  ⟨C.T.lb ws (List.mem_of_getElem? C.hws), C.T.lc ws (List.mem_of_getElem? C.hws), (List.getElem?_eq_some_iff.mp C.hw).1, (List.getElem?_eq_some_iff.mp C.hat).1, (List.getElem?_eq_some_iff.mp C.hws).1, C.T.la⟩
theorem Ch.x0 (C : Ch a b c rs rows ds names menu at_ place k ws w) : ixD (hT rs rows) (.ref 0) (.int at_) = some (.ref (k + 1)) := by
  rw [x_ref hT_get0]; exact atI_nat (k := at_) (by rw [List.getElem?_map, C.hat]; rfl) rfl
theorem Ch.x1 (C : Ch a b c rs rows ds names menu at_ place k ws w) : ixD (hT rs rows) (.ref (k + 1)) (.int place) = some (.str w) := by
  rw [x_ref (hT_get C.hws)]; exact atI_nat (k := place) (by rw [List.getElem?_map, C.hw]; rfl) rfl
theorem fr0 : (fr ds names menu at_ place v6 v7 v8)[0]? = some (some (.ref 0)) := rfl
theorem fr1 : (fr ds names menu at_ place v6 v7 v8)[1]? = some (some (.lst (ds.map .int))) := rfl
theorem fr3 : (fr ds names menu at_ place v6 v7 v8)[3]? = some (some (.int at_)) := rfl
theorem fr4 : (fr ds names menu at_ place v6 v7 v8)[4]? = some (some (.int place)) := rfl
theorem fr5 : (fr ds names menu at_ place v6 v7 v8)[5]? = some (some (.lst (menu.map .str))) := rfl
theorem done_row (C : Ch a b c rs rows ds names menu at_ place k ws w) {ws' : List Str} (h1 : ws'.length ≤ b + 1) (h2 : ∀ u ∈ ws', u.length ≤ c + 1) {x : Option Out} (e : x = some (.nx (fr ds names menu at_ place v6 v7 v8) (hT rs (rows.set k ws')))) : Done a b c ds names menu at_ place x :=
  ⟨_, _, _, _, _, e, C.T.up.set h1 h2⟩
theorem Ch.men (C : Ch a b c rs rows ds names menu at_ place k ws w) (h : List Cell) : ∃ u : Str, ∃ d3 : Int, ixD h (.lst (ds.map .int)) (.int 3) = some (.int d3) ∧ ixD h (.lst (menu.map .str)) (.int d3) = some (.str u) ∧ u.length ≤ c ∧ 0 ≤ d3 := by
  obtain ⟨d0, d1, d2, d3, r, rfl, h1, h2⟩ := C.hd
  obtain ⟨u, h3, h4⟩ := C.hm d3 h1 h2
  exact ⟨u, d3, by rw [x_lst]; exact atI_nat (k := 3) rfl rfl, by rw [x_lst]; exact h3, h4, h1⟩
theorem set_mem {ws : List Str} {i : Nat} {u : Str} {c : Nat} (h : ∀ w ∈ ws, w.length ≤ c) (hu : u.length ≤ c) : ∀ w ∈ ws.set i u, w.length ≤ c := fun w hw => by
  rcases List.mem_or_eq_of_mem_set hw with z | z
  · exact h w z
  · rw [z]; exact hu
theorem do0 (C : Ch a b c rs rows ds names menu at_ place k ws w) : Done a b c ds names menu at_ place (cb0 (fr ds names menu at_ place v6 v7 v8) (hT rs rows)) := by
  obtain ⟨l1, l2, l3, l4, l5, l6⟩ := C.len
  obtain ⟨u, d3, m1, m2, m3, m4⟩ := C.men (hT rs rows)
  have p := put_ok (ρ := fr ds names menu at_ place v6 v7 v8) (d := .str u) (hT_get (rs := rs) C.hws) (i := place) (k := place) rfl (by rw [List.length_map]; exact l3)
  rw [map_set' D.str, hT_set] at p
  refine done_row (ws' := ws.set place u) (v6 := v6) (v7 := v7) (v8 := v8) C (by rw [List.length_set]; omega) (fun z hz => by have := set_mem l2 m3 z hz; omega) ?_
  have x0 := C.x0
  generalize hT rs rows = h at *
  simp -implicitDefEqProofs [cb0, fr0, fr1, fr3, fr4, fr5, x0, m1, m2, p, -x_lst]
theorem do1 (C : Ch a b c rs rows ds names menu at_ place k ws w) : Done a b c ds names menu at_ place (cb1 (fr ds names menu at_ place v6 v7 v8) (hT rs rows)) := by
  obtain ⟨l1, l2, l3, l4, l5, l6⟩ := C.len
  have hb := C.hb
  have p := u_insert (d := .str w) (i := place) (k := place) (hT_get (rs := rs) C.hws) rfl (by rw [List.length_map, sizeLine_eq]; omega) (small63 (by omega))
  have e : (ws.map D.str).take place ++ [.str w] ++ (ws.map D.str).drop place = (ws.take place ++ [w] ++ ws.drop place).map .str := by simp
  rw [e, hT_set] at p
  refine done_row (ws' := ws.take place ++ [w] ++ ws.drop place) (v6 := v6) (v7 := v7) (v8 := v8) C (by simp; omega) (fun z hz => by
    have : z ∈ ws := by
      rcases List.mem_append.mp hz with z1 | z1
      · rcases List.mem_append.mp z1 with z1 | z1
        · exact List.mem_of_mem_take z1
        · rw [List.mem_singleton.mp z1]; exact List.mem_of_getElem? C.hw
      · exact List.mem_of_mem_drop z1
    have := l2 z this; omega) ?_
  have x0 := C.x0
  have x1 := C.x1
  generalize hT rs rows = h at *
  simp -implicitDefEqProofs [cb1, fr0, fr1, fr3, fr4, fr5, x0, x1, p, -x_lst]
theorem do2 (C : Ch a b c rs rows ds names menu at_ place k ws w) : Done a b c ds names menu at_ place (cb2 (fr ds names menu at_ place v6 v7 v8) (hT rs rows)) := by
  obtain ⟨l1, l2, l3, l4, l5, l6⟩ := C.len
  have hb := C.hb
  have p := u_popAt (d := .str w) (i := place) (k := place) (hT_get (rs := rs) C.hws) (by rw [List.getElem?_map, C.hw]; rfl) rfl (small63 (by omega))
  rw [map_erase D.str, hT_set] at p
  refine done_row (ws' := ws.eraseIdx place) (v6 := v6) (v7 := v7) (v8 := v8) C (by have := List.length_eraseIdx_le ws place; omega) (fun z hz => by have := l2 z (List.mem_of_mem_eraseIdx hz); omega) ?_
  have x0 := C.x0
  generalize hT rs rows = h at *
  simp -implicitDefEqProofs [cb2, fr0, fr1, fr3, fr4, fr5, x0, p, -x_lst]
theorem do3 (C : Ch a b c rs rows ds names menu at_ place k ws w) : Done a b c ds names menu at_ place (cb3 (fr ds names menu at_ place v6 v7 v8) (hT rs rows)) := by
  obtain ⟨l1, l2, l3, l4, l5, l6⟩ := C.len
  have ha := C.ha
  have hb := C.hb
  have hs : seqD (hT rs rows) (.ref (k + 1)) = some (ws.map .str) := seqD_ref (hT_get C.hws)
  have o : ownM (hT rs rows) (ws.map .str) = some (.ok (.ref (rows.length + 1)) (hT rs (rows ++ [ws]))) := by
    unfold ownM
    rw [if_pos (by rw [List.length_map, sizeLine_eq]; omega), hT_len, hT_new]
  have p := u_insert (h := hT rs (rows ++ [ws])) (d := .ref (rows.length + 1)) (i := at_) (k := at_) hT_get0 rfl (by rw [List.length_map, sizeLine_eq]; omega) (small63 (by omega))
  have e : (rs.map D.ref).take at_ ++ [.ref (rows.length + 1)] ++ (rs.map D.ref).drop at_ = (rs.take at_ ++ [rows.length + 1] ++ rs.drop at_).map .ref := by simp
  rw [e, hT_set0] at p
  have T2 := C.T.up.new (ws := ws) (by omega) (fun u hu => by have := l2 u hu; omega)
  refine ⟨v6, v7, v8, rs.take at_ ++ [rows.length + 1] ++ rs.drop at_, rows ++ [ws], ?_, ⟨by simp, by simp; omega, fun r hr => ?_, T2.lb, T2.lc⟩⟩
  · have x0 := C.x0
    generalize hT rs rows = h at *
    show cb3 (fr ds names menu at_ place v6 v7 v8) h = some (.nx (fr ds names menu at_ place v6 v7 v8) _)
    simp -implicitDefEqProofs [cb3, fr0, fr1, fr3, fr4, fr5, x0, hs, o, p, -x_lst]
  · rcases List.mem_append.mp hr with z1 | z1
    · rcases List.mem_append.mp z1 with z1 | z1
      · exact T2.ok r (List.mem_of_mem_take z1)
      · rw [List.mem_singleton.mp z1]; exact ⟨rows.length, rfl, by simp⟩
    · exact T2.ok r (List.mem_of_mem_drop z1)
theorem do4 (C : Ch a b c rs rows ds names menu at_ place k ws w) (h2 : 1 < rs.length) : Done a b c ds names menu at_ place (cb4 (fr ds names menu at_ place v6 v7 v8) (hT rs rows)) := by
  obtain ⟨l1, l2, l3, l4, l5, l6⟩ := C.len
  have ha := C.ha
  have p := u_popAt (d := .ref (k + 1)) (i := at_) (k := at_) (hT_get0 (rs := rs) (rows := rows)) (by rw [List.getElem?_map, C.hat]; rfl) rfl (small63 (by omega))
  rw [map_erase D.ref, hT_set0] at p
  have hl : (rs.eraseIdx at_).length = rs.length - 1 := List.length_eraseIdx_of_lt l4
  refine ⟨v6, v7, v8, rs.eraseIdx at_, rows, ?_, ⟨fun z => by rw [z] at hl; simp at hl; omega, by omega, fun r hr => C.T.ok r (List.mem_of_mem_eraseIdx hr), C.T.up.lb, C.T.up.lc⟩⟩
  have x0 := C.x0
  generalize hT rs rows = h at *
  show cb4 (fr ds names menu at_ place v6 v7 v8) h = some (.nx (fr ds names menu at_ place v6 v7 v8) _)
  simp -implicitDefEqProofs [cb4, fr0, fr1, fr3, fr4, fr5, x0, p, -x_lst]
theorem do5 (C : Ch a b c rs rows ds names menu at_ place k ws w) : Done a b c ds names menu at_ place (cb5 (fr ds names menu at_ place v6 v7 v8) (hT rs rows)) := by
  obtain ⟨l1, l2, l3, l4, l5, l6⟩ := C.len
  have hb := C.hb
  obtain ⟨u, d3, m1, m2, m3, m4⟩ := C.men (hT rs rows)
  have p := u_append (d := .str u) (hT_get (rs := rs) C.hws) (by rw [List.length_map, sizeLine_eq]; omega)
  have e : ws.map D.str ++ [.str u] = (ws ++ [u]).map .str := by simp
  rw [e, hT_set] at p
  refine done_row (ws' := ws ++ [u]) (v6 := v6) (v7 := v7) (v8 := v8) C (by simp; omega) (fun z hz => by
    rcases List.mem_append.mp hz with z1 | z1
    · have := l2 z z1; omega
    · rw [List.mem_singleton.mp z1]; omega) ?_
  have x0 := C.x0
  generalize hT rs rows = h at *
  simp -implicitDefEqProofs [cb5, fr0, fr1, fr3, fr4, fr5, x0, m1, m2, p, -x_lst]
theorem do6 (C : Ch a b c rs rows ds names menu at_ place k ws w) : Done a b c ds names menu at_ place (cb6 (fr ds names menu at_ place v6 v7 v8) (hT rs rows)) := by
  obtain ⟨l1, l2, l3, l4, l5, l6⟩ := C.len
  obtain ⟨r', hr'⟩ : ∃ r, rs[rs.length - 1]? = some r := ⟨_, List.getElem?_eq_getElem (by omega)⟩
  have x2 : ixD (hT rs rows) (.ref 0) (.int (-1)) = some (.ref r') := by
    rw [x_ref hT_get0]
    exact atI_neg (k := 1) (by rw [List.length_map, List.getElem?_map, hr']; rfl) (by decide) (by rw [List.length_map]; omega) rfl
  have p := put_neg1 (ρ := fr ds names menu at_ place (some (.ref r')) v7 v8) (d := .ref (k + 1)) (hT_get0 (rs := rs) (rows := rows)) (fun z => by have := congrArg List.length z; simp at this; exact C.T.ne this)
  rw [List.length_map, map_set' D.ref, hT_set0] at p
  have p2 := put_ok (ρ := fr ds names menu at_ place (some (.ref r')) v7 v8) (d := .ref r') (hT_get0 (rs := rs.set (rs.length - 1) (k + 1)) (rows := rows)) (i := at_) (k := at_) rfl (by rw [List.length_map, List.length_set]; omega)
  rw [map_set' D.ref, hT_set0] at p2
  have x0 := C.x0
  refine ⟨some (.ref r'), v7, v8, (rs.set (rs.length - 1) (k + 1)).set at_ r', rows, ?_, ⟨fun z => by have := congrArg List.length z; simp at this; exact C.T.ne this, by rw [List.length_set, List.length_set]; omega, fun r hr => ?_, C.T.up.lb, C.T.up.lc⟩⟩
  · generalize hT rs rows = h at *
    generalize hT (rs.set (rs.length - 1) (k + 1)) rows = h2 at *
    have e6 : (fr ds names menu at_ place v6 v7 v8).set 6 (some (.ref r')) = fr ds names menu at_ place (some (.ref r')) v7 v8 := rfl
    have f6 : (fr ds names menu at_ place (some (.ref r')) v7 v8)[6]? = some (some (.ref r')) := rfl
    show cb6 (fr ds names menu at_ place v6 v7 v8) h = some (.nx (fr ds names menu at_ place (some (.ref r')) v7 v8) _)
    simp -implicitDefEqProofs [cb6, fr0, fr1, fr3, fr4, fr5, x0, x2, e6, f6, p, p2, -x_lst]
  · rcases List.mem_or_eq_of_mem_set hr with z | z
    · rcases List.mem_or_eq_of_mem_set z with z | z
      · exact C.T.ok r z
      · exact ⟨k, z, l5⟩
    · rw [z]; exact C.T.ok r' (List.mem_of_getElem? hr')
theorem do7 (C : Ch a b c rs rows ds names menu at_ place k ws w) (hc : c ≤ 1000) : Done a b c ds names menu at_ place (cb7 (fr ds names menu at_ place v6 v7 v8) (hT rs rows)) := by
  obtain ⟨l1, l2, l3, l4, l5, l6⟩ := C.len
  obtain ⟨u, d3, m1, m2, m3, m4⟩ := C.men (hT rs rows)
  obtain ⟨q, hq, hq1⟩ : ∃ q : Str, ixD (hT rs rows) (.lst [.str "+", .str "-", .str "?", .str " ", .str "!"]) (.int (d3 % 5)) = some (.str q) ∧ q.length = 1 := by
    have h1 := Int.emod_nonneg d3 (show (5 : Int) ≠ 0 by decide)
    have h2 := Int.emod_lt_of_pos d3 (show (0 : Int) < 5 by decide)
    have : d3 % 5 = 0 ∨ d3 % 5 = 1 ∨ d3 % 5 = 2 ∨ d3 % 5 = 3 ∨ d3 % 5 = 4 := by omega
    rcases this with h | h | h | h | h <;> rw [h]
    · exact ⟨"+", rfl, by decide +kernel⟩
    · exact ⟨"-", rfl, by decide +kernel⟩
    · exact ⟨"?", rfl, by decide +kernel⟩
    · exact ⟨" ", rfl, by decide +kernel⟩
    · exact ⟨"!", rfl, by decide +kernel⟩
  have hwl := l2 w (List.mem_of_getElem? C.hw)
  have hs1 : slD (hT rs rows) (.str w) (some 1) none = some (.str (nmO w)) := by
    show (if w.length ≤ sizeLine then _ else _) = _
    rw [if_pos (by rw [sizeLine_eq]; omega)]; rfl
  have hnl : (nmO w).length ≤ w.length := cutS_length w _ _
  have had : binD .Add (hT rs rows) (.str q) (.str (nmO w)) = some (.str (q ++ nmO w)) := by
    rw [o_add_ss, if_pos (by rw [hq1, sizeLine_eq]; omega)]
  have hql : (q ++ nmO w).length ≤ c + 1 := by rw [len_tl, tl_append, List.length_append, ← len_tl, ← len_tl, hq1]; omega
  have ok5 : ∀ a b c d e : D, okLen .lst [a, b, c, d, e] = some (.ok (.lst [a, b, c, d, e])) := fun _ _ _ _ _ => okLen_lit rfl
  have p := put_ok (ρ := fr ds names menu at_ place v6 (some (.str w)) v8) (d := .str (q ++ nmO w)) (hT_get (rs := rs) C.hws) (i := place) (k := place) rfl (by rw [List.length_map]; exact l3)
  rw [map_set' D.str, hT_set] at p
  refine done_row (ws' := ws.set place (q ++ nmO w)) (v6 := v6) (v7 := some (.str w)) (v8 := v8) C (by rw [List.length_set]; omega) (set_mem (fun z hz => by have := l2 z hz; omega) hql) ?_
  have x0 := C.x0
  have x1 := C.x1
  generalize hT rs rows = h at *
  have e7 : (fr ds names menu at_ place v6 v7 v8).set 7 (some (.str w)) = fr ds names menu at_ place v6 (some (.str w)) v8 := rfl
  have f7 : (fr ds names menu at_ place v6 (some (.str w)) v8)[7]? = some (some (.str w)) := rfl
  simp -implicitDefEqProofs [cb7, fr0, fr1, fr3, fr4, fr5, x0, x1, e7, f7, m1, hq, hs1, had, ok5, p, -x_lst, -o_add_ss]
theorem do8 (C : Ch a b c rs rows ds names menu at_ place k ws w) : Done a b c ds names menu at_ place (cb8 (fr ds names menu at_ place v6 v7 v8) (hT rs rows)) := by
  obtain ⟨l1, l2, l3, l4, l5, l6⟩ := C.len
  have p := u_reverse (hT_get (rs := rs) C.hws)
  rw [← List.map_reverse, hT_set] at p
  refine done_row (ws' := ws.reverse) (v6 := v6) (v7 := v7) (v8 := v8) C (by simp; omega) (fun z hz => by have := l2 z (List.mem_reverse.mp hz); omega) ?_
  have x0 := C.x0
  generalize hT rs rows = h at *
  simp -implicitDefEqProofs [cb8, fr0, fr1, fr3, fr4, fr5, x0, p, -x_lst]
theorem do_chain (C : Ch a b c rs rows ds names menu at_ place k ws w) (hc : c ≤ 1000) : Done a b c ds names menu at_ place (ch5 (fr ds names menu at_ place v6 v7 v8) (hT rs rows)) := by
  have hd := C.hd
  obtain ⟨d0, d1, d2, d3, r, e, _, _⟩ := hd
  have x : ∀ h : List Cell, ixD h (.lst (ds.map .int)) (.int 0) = some (.int d0) := fun h => by rw [e, x_lst]; exact atI_nat (k := 0) rfl rfl
  have hl : biD .len (hT rs rows) [.ref 0] = some (.int rs.length) := by rw [l_ref hT_get0, List.length_map]
  have step : ∀ (n : Int) (t : Sx) (A B : Sm), t = sCmp .Eq (sIx (sVar 1) (sCst (.int 0))) (sCst (.int n)) → sIfS t A B (fr ds names menu at_ place v6 v7 v8) (hT rs rows) = if d0 = n then A (fr ds names menu at_ place v6 v7 v8) (hT rs rows) else B (fr ds names menu at_ place v6 v7 v8) (hT rs rows) := by
    intro n t A B et
    subst et
    have : sCmp .Eq (sIx (sVar 1) (sCst (.int 0))) (sCst (.int n)) (fr ds names menu at_ place v6 v7 v8) (hT rs rows) = some (.ok (.bl (decide (d0 = n)))) := by
      simp -implicitDefEqProofs [fr1, x, -x_lst]
    rw [m_ifS, this, m_bndBS_ok]
    by_cases c : d0 = n
    · rw [if_pos (decide_eq_true c), if_pos c]
    · rw [if_neg (by rw [decide_eq_false c]; decide), if_neg c]
  have stop : Done a b c ds names menu at_ place (sNext (fr ds names menu at_ place v6 v7 v8) (hT rs rows)) := ⟨v6, v7, v8, rs, rows, rfl, C.T.up⟩
  unfold ch5
  rw [step 0 ct0 _ _ rfl]
  split
  · exact do0 C
  rw [step 1 ct1 _ _ rfl]
  split
  · exact do1 C
  rw [step 2 ct2 _ _ rfl]
  split
  · exact do2 C
  rw [step 3 ct3 _ _ rfl]
  split
  · exact do3 C
  have h4 : ct4 (fr ds names menu at_ place v6 v7 v8) (hT rs rows) = some (.ok (.bl (decide (d0 = 4) && decide (1 < rs.length)))) := by
    by_cases c1 : d0 = 4
    · simp -implicitDefEqProofs [ct4, fr0, fr1, x, c1, hl, -x_lst]
      omega
    · simp -implicitDefEqProofs [ct4, fr0, fr1, x, c1, hl, -x_lst]
  rw [m_ifS, h4, m_bndBS_ok]
  split
  · rename_i h
    exact do4 C (of_decide_eq_true (Bool.and_eq_true_iff.mp h).2)
  rw [step 5 ct5 _ _ rfl]
  split
  · exact do5 C
  rw [step 6 ct6 _ _ rfl]
  split
  · exact do6 C
  rw [step 7 ct7 _ _ rfl]
  split
  · exact do7 C hc
  rw [step 8 ct8 _ _ rfl]
  split
  · exact do8 C
  exact stop
end
end K75

set_option Elab.async false
set_option linter.all false
set_option maxRecDepth 100000
set_option maxHeartbeats 1000000
namespace K75
open PySem PySem.Spec PyProof.Rows L2 DL TL
structure Shape (a b c : Nat) (L : List (List Str)) : Prop where
  ne : L ≠ []
  la : L.length ≤ a
  nr : ∀ ws ∈ L, ws ≠ []
  lb : ∀ ws ∈ L, ws.length ≤ b
  lc : ∀ ws ∈ L, ∀ w ∈ ws, w.length ≤ c
theorem refs_succ (n : Nat) : List.range' 1 (n + 1) = List.range' 1 n ++ [n + 1] := by rw [List.range'_concat]; simp; omega
theorem copy_rows {L : List (List Str)} {ρ : Rho} (h8 : 8 < ρ.length) (hl : L.length ≤ 1000) (hb : ∀ ws ∈ L, ws.length ≤ 1000) : ∀ (ys pre : List (List Str)), L = pre ++ ys →
    compM (fun _ i => (L.map encW)[i]?) (gxName 8) sYes (mList (sVar 8)) ρ 0 ys.length pre.length (hT (List.range' 1 pre.length) pre) = some (.ok (.ref 0) (hT (List.range' 1 L.length) L))
  | [], pre, e => by
    rw [List.append_nil] at e
    subst e
    show (match (L.map encW)[L.length]? with | none => some (ResM.ok (.ref 0) (hT (List.range' 1 L.length) L)) | some _ => none) = _
    rw [List.getElem?_eq_none (by simp)]
  | ws :: ys, pre, e => by
    have ih := copy_rows h8 hl hb ys (pre ++ [ws]) (by rw [e]; simp)
    have hg : (L.map encW)[pre.length]? = some (encW ws) := by
      rw [List.getElem?_map, e, List.getElem?_append_right (Nat.le_refl _), Nat.sub_self]; rfl
    have hwl : ws.length ≤ 1000 := hb ws (by rw [e]; exact List.mem_append_right _ List.mem_cons_self)
    have hpl : pre.length ≤ 1000 := by have := congrArg List.length e; rw [List.length_append] at this; omega
    have hv : (ρ.set 8 (some (encW ws)))[8]? = some (some (encW ws)) := List.getElem?_set_self h8
    have he : mList (sVar 8) (ρ.set 8 (some (encW ws))) (hT (List.range' 1 pre.length) pre) = some (.ok (.ref (pre.length + 1)) (hT (List.range' 1 pre.length) (pre ++ [ws]))) := by
      rw [m_mList, m_var, hv]
      dsimp only
      rw [m_bndDM_ok]
      show ownM (hT (List.range' 1 pre.length) pre) (ws.map .str) = _
      unfold ownM
      rw [if_pos (by rw [List.length_map, sizeLine_eq]; omega), hT_len, hT_new]
    show (match (L.map encW)[pre.length]? with
      | none => some (ResM.ok (.ref 0) (hT (List.range' 1 pre.length) pre))
      | some d => bndM (mList (sVar 8) (ρ.set 8 (some d)) (hT (List.range' 1 pre.length) pre)) fun d1 h1 => (match h1[0]? with
          | some (Cell.lst xs) => if xs.length < sizeLine then compM (fun _ i => (L.map encW)[i]?) (gxName 8) sYes (mList (sVar 8)) ρ 0 ys.length (pre.length + 1) (h1.set 0 (.lst (xs ++ [d1]))) else none
          | none => none)) = _
    rw [hg]
    dsimp only
    rw [he, m_bndM_ok]
    show (if ((List.range' 1 pre.length).map D.ref).length < sizeLine then compM (fun _ i => (L.map encW)[i]?) (gxName 8) sYes (mList (sVar 8)) ρ 0 ys.length (pre.length + 1) ((hT (List.range' 1 pre.length) (pre ++ [ws])).set 0 (.lst ((List.range' 1 pre.length).map D.ref ++ [D.ref (pre.length + 1)]))) else none) = _
    rw [if_pos (by rw [List.length_map, List.length_range', sizeLine_eq]; omega)]
    have e1 : (List.range' 1 pre.length).map D.ref ++ [D.ref (pre.length + 1)] = (List.range' 1 (pre.length + 1)).map D.ref := by rw [refs_succ, List.map_append]; rfl
    rw [e1, hT_set0]
    have el : (pre ++ [ws]).length = pre.length + 1 := by simp
    rw [el] at ih
    exact ih
theorem copy_ok {L : List (List Str)} {ρ : Rho} {f : Sx} (hf : f ρ [] = some (.ok (.lst (L.map encW)))) (h8 : 8 < ρ.length) (hl : L.length ≤ 1000) (hb : ∀ ws ∈ L, ws.length ≤ 1000) :
    mCompM [8] (iData f) (gxName 8) sYes (mList (sVar 8)) ρ [] = some (.ok (.ref 0) (hT (List.range' 1 L.length) L)) := by
  have e : iData f ρ [] = some (.ok (fun _ i => (L.map encW)[i]?) (L.map encW).length) := by unfold iData; rw [hf]; rfl
  show bndIM (iData f ρ []) [] _ = _
  rw [e]
  show compM (fun _ i => (L.map encW)[i]?) (gxName 8) sYes (mList (sVar 8)) (wipeR ρ [8]) 0 (L.map encW).length 0 [.lst []] = _
  rw [List.length_map]
  exact copy_rows (ρ := wipeR ρ [8]) (by simp; omega) hl hb L [] rfl
/-- the lines that come out -/
def fixW (ws : List Str) : List Str := if ws.isEmpty = true then [Str.empty] else ws
def outL (rs : List Nat) (rows : List (List Str)) : List (List Str) := rs.map fun r => fixW (rows.getD (r - 1) [])
theorem emp_str : ("" : Str) = Str.empty := by decide +kernel
theorem changed_end {a b c : Nat} {rs : List Nat} {rows : List (List Str)} {ds : List Int} {names menu : List Str} {at_ place : Nat} {v6 v7 v8 : Option D} (T : Tab a b c rs rows) (ha : a ≤ 1001) :
    (ch6 (fr ds names menu at_ place v6 v7 v8) (hT rs rows)).bind endD = some (.lstF ((outL rs rows).map encW)) := by
  have hel : ∀ r : Nat, ∀ k, r = k + 1 → k < rows.length → ∃ ws, rows[k]? = some ws ∧ rows.getD (r - 1) [] = ws := fun r k h1 h2 => by
    subst h1
    refine ⟨rows[k], List.getElem?_eq_getElem h2, ?_⟩
    rw [Nat.add_sub_cancel, List.getD_eq_getElem?_getD, List.getElem?_eq_getElem h2]; rfl
  have hla := T.la
  let g : Nat → D := fun r => if (rows.getD (r - 1) []).isEmpty = true then .lst [.str Str.empty] else .ref r
  have hc : mComp [8] (iData (sVar 0)) (gxName 8) sYes se__law_changed_1 (fr ds names menu at_ place v6 v7 v8) (hT rs rows) = some (.ok (.ref (hT rs rows).length) (hT rs rows ++ [.lst (rs.map g)])) := by
    refine mComp_at (n := 0) (xs := rs.map D.ref) rfl hT_get0 (by rw [List.length_map, sizeLine_eq]; omega) ?_
    refine comL_map fun r hr => ⟨_, rfl, rfl, ?_⟩
    obtain ⟨k, h1, h2⟩ := T.ok r hr
    obtain ⟨ws, h3, h4⟩ := hel r k h1 h2
    have ht : truD (hT rs rows) (.ref r) = some (!ws.isEmpty) := by
      rw [h1, t_ref (hT_get h3), List.isEmpty_map]
    have hv : ((wipeR (fr ds names menu at_ place v6 v7 v8) [8]).set 8 (some (.ref r)))[8]? = some (some (.ref r)) := rfl
    generalize (wipeR (fr ds names menu at_ place v6 v7 v8) [8]).set 8 (some (.ref r)) = ρ1 at hv
    generalize hT rs rows = h at *
    show _ = some (Res.ok (if (rows.getD (r - 1) []).isEmpty = true then .lst [.str Str.empty] else .ref r))
    rw [h4]
    cases q : ws.isEmpty with
    | true => rw [q] at ht; simp -implicitDefEqProofs [se__law_changed_1, hv, ht, ok1, emp_str]
    | false => rw [q] at ht; simp -implicitDefEqProofs [se__law_changed_1, hv, ht]
  unfold ch6
  rw [m_ret, hc, m_bndS_ok]
  have hm : (rs.map g).mapM (deepD (hT rs rows ++ [.lst (rs.map g)]) (hT rs rows).length depthD) = some ((outL rs rows).map encW) := by
    have : ∀ l : List Nat, (∀ r ∈ l, ∃ k, r = k + 1 ∧ k < rows.length) → (l.map g).mapM (deepD (hT rs rows ++ [.lst (rs.map g)]) (hT rs rows).length depthD) = some ((outL l rows).map encW) := by
      intro l
      induction l with
      | nil => intro _; rfl
      | cons r l ih =>
        intro hl
        have ih := ih fun x hx => hl x (List.mem_cons_of_mem _ hx)
        obtain ⟨k, h1, h2⟩ := hl r List.mem_cons_self
        obtain ⟨ws, h3, h4⟩ := hel r k h1 h2
        have e1 : deepD (hT rs rows ++ [.lst (rs.map g)]) (hT rs rows).length depthD (g r) = some (encW (fixW ws)) := by
          show deepD _ _ depthD (if (rows.getD (r - 1) []).isEmpty = true then .lst [.str Str.empty] else .ref r) = _
          rw [h4]
          cases q : ws.isEmpty with
          | true =>
            rw [if_pos rfl]
            unfold fixW
            rw [q, if_pos rfl]
            rfl
          | false =>
            rw [if_neg (by decide)]
            unfold fixW
            rw [q, if_neg (by decide)]
            have hg : (hT rs rows ++ [.lst (rs.map g)])[r]? = some (.lst (ws.map .str)) := by
              rw [List.getElem?_append_left (by rw [hT_len]; omega), h1]; exact hT_get h3
            have hne : r ≠ (hT rs rows).length := by rw [hT_len]; omega
            have hdd : (ws.map D.str).mapM (deepD (hT rs rows ++ [.lst (rs.map g)]) (hT rs rows).length 63) = some (ws.map D.str) := deep_noRefs 63 (ws.map .str) (noRefs_strs ws) (Nat.lt_of_le_of_lt (depl_strs ws) (by decide))
            show (if r = (hT rs rows).length then none else (match (hT rs rows ++ [.lst (rs.map g)])[r]? with
              | some (Cell.lst xs) => (xs.mapM (deepD (hT rs rows ++ [.lst (rs.map g)]) (hT rs rows).length 63)).map D.lst
              | none => none)) = _
            rw [if_neg hne, hg]
            dsimp only
            rw [hdd]
            rfl
        rw [List.map_cons, List.mapM_cons, e1, ih]
        show some (_ :: _) = _
        unfold outL
        rw [List.map_cons, List.map_cons, h4]
    exact this rs T.ok
  have hr : retD (hT rs rows ++ [.lst (rs.map g)]) (.ref (hT rs rows).length) = some (.rt (.lstF ((outL rs rows).map encW))) := by
    unfold retD
    simp only [get_last]
    rw [hm]
  rw [hr]
  rfl
end K75

set_option Elab.async false
set_option linter.all false
set_option maxRecDepth 100000
set_option maxHeartbeats 1000000
namespace K75
open PySem PySem.Spec PyProof.Rows L2 DL TL
def menuA (n0 nl : Str) : List Str := ["", "signs", "web", "0", "13", "07", "?", "+", "-", "A", "ninesigns", "a1", "*", ("!" : Str) ++ n0, ("+" : Str) ++ nl]
def menuB (n0 nl nk : Str) : List Str := [("-" : Str) ++ n0, ("?" : Str) ++ nk, nl, ("+" : Str) ++ n0 ++ (" " : Str), "12"]
theorem len_app (x y : Str) : (x ++ y).length = x.length + y.length := by rw [len_tl, tl_append, List.length_append, ← len_tl, ← len_tl]
theorem len_one : ("!" : Str).length = 1 ∧ ("+" : Str).length = 1 ∧ ("-" : Str).length = 1 ∧ ("?" : Str).length = 1 ∧ (" " : Str).length = 1 := by decide +kernel
theorem menu_len {n0 nl nk : Str} (h0 : n0.length ≤ 8) (hl : nl.length ≤ 8) (hk : nk.length ≤ 8) : ∀ u ∈ menuA n0 nl ++ menuB n0 nl nk, u.length ≤ 10 := by
  intro u hu
  obtain ⟨l1, l2, l3, l4, l5⟩ := len_one
  have hlit : ∀ u ∈ (["", "signs", "web", "0", "13", "07", "?", "+", "-", "A", "ninesigns", "a1", "*", "12"] : List Str), u.length ≤ 10 := by decide +kernel
  rcases List.mem_append.mp hu with h | h
  · simp only [menuA, List.mem_cons, List.not_mem_nil, or_false] at h
    rcases h with h | h | h | h | h | h | h | h | h | h | h | h | h | h | h
    all_goals first
      | (rw [h, len_app]; omega)
      | (rw [h]; exact hlit _ (by simp))
  · simp only [menuB, List.mem_cons, List.not_mem_nil, or_false] at h
    rcases h with h | h | h | h | h
    · rw [h, len_app]; omega
    · rw [h, len_app]; omega
    · rw [h]; omega
    · rw [h, len_app, len_app]; omega
    · rw [h]; exact hlit _ (by simp)
theorem ints_at {zs : List Str} {i : Int} (h0 : 0 ≤ i) (h1 : i < zs.length) : ∃ u, atI (zs.map D.str) i = some (.str u) ∧ u ∈ zs := by
  have hk : i.toNat < zs.length := by omega
  exact ⟨zs[i.toNat], atI_nat (k := i.toNat) (by rw [List.getElem?_map, List.getElem?_eq_getElem hk]; rfl) (by omega), List.getElem_mem hk⟩
theorem law_changed_ok {L : List (List Str)} {a b c : Nat} {ds : List Int} {names : List Str} (S : Shape a b c L) (ha : a ≤ 1000) (hb : b ≤ 1000) (hc : c ≤ 1000) (hc2 : 10 ≤ c)
    (hd : ∃ d0 d1 d2 d3 : Int, ∃ r, ds = d0 :: d1 :: d2 :: d3 :: r ∧ 0 ≤ d3 ∧ d3 < 20) (hn : names ≠ []) (hz : ∀ n ∈ names, n.length ≤ 8) :
    ∃ L', fn__law_changed [.lst (L.map encW), .lst (ds.map .int), .tup (names.map .str)] = some (.lstF (L'.map encW)) ∧ Shape (a + 1) (b + 1) (c + 1) L' := by
  have e0 : fn__law_changed [.lst (L.map encW), .lst (ds.map .int), .tup (names.map .str)] = (sm__law_changed [some (.lst (L.map encW)), some (.lst (ds.map .int)), some (.tup (names.map .str)), none, none, none, none, none, none] []).bind endD := rfl
  rw [e0, changed_eq]
  obtain ⟨d0, d1, d2, d3, r, hds, h30, h31⟩ := id hd
  have x1 : ∀ h : List Cell, ixD h (.lst (ds.map .int)) (.int 1) = some (.int d1) := fun h => by rw [hds, x_lst]; exact atI_nat (k := 1) rfl rfl
  have x2 : ∀ h : List Cell, ixD h (.lst (ds.map .int)) (.int 2) = some (.int d2) := fun h => by rw [hds, x_lst]; exact atI_nat (k := 2) rfl rfl
  have x3 : ∀ h : List Cell, ixD h (.lst (ds.map .int)) (.int 3) = some (.int d3) := fun h => by rw [hds, x_lst]; exact atI_nat (k := 3) rfl rfl
  have hcopy := copy_ok (ρ := [some (.lst (L.map encW)), some (.lst (ds.map .int)), some (.tup (names.map .str)), none, none, none, none, none, none]) (f := sVar 0) rfl (by show 8 < 9; decide) (Nat.le_trans S.la ha) (fun ws h => Nat.le_trans (S.lb ws h) hb)
  have T : Tab a b c (List.range' 1 L.length) L := ⟨fun z => by have := congrArg List.length z; rw [List.length_range'] at this; exact S.ne (List.eq_nil_of_length_eq_zero this), by rw [List.length_range']; exact S.la, fun r hr => by
    have := List.mem_range'_1.mp hr
    exact ⟨r - 1, by omega, by omega⟩, S.lb, S.lc⟩
  have hLl : 0 < L.length := List.length_pos_iff.mpr S.ne
  -- the line
  obtain ⟨at_, hat⟩ : ∃ n : Nat, d1 % (L.length : Int) = n := ⟨(d1 % (L.length : Int)).toNat, by have := Int.emod_nonneg d1 (show (L.length : Int) ≠ 0 by omega); omega⟩
  have hatl : at_ < L.length := by have := Int.emod_lt_of_pos d1 (show (0 : Int) < (L.length : Int) by omega); omega
  obtain ⟨ws, hws⟩ : ∃ ws, L[at_]? = some ws := ⟨_, List.getElem?_eq_getElem hatl⟩
  have hwm := List.mem_of_getElem? hws
  have hwl : 0 < ws.length := List.length_pos_iff.mpr (S.nr ws hwm)
  obtain ⟨place, hpl⟩ : ∃ n : Nat, d2 % (ws.length : Int) = n := ⟨(d2 % (ws.length : Int)).toNat, by have := Int.emod_nonneg d2 (show (ws.length : Int) ≠ 0 by omega); omega⟩
  have hpll : place < ws.length := by have := Int.emod_lt_of_pos d2 (show (0 : Int) < (ws.length : Int) by omega); omega
  obtain ⟨w, hw⟩ : ∃ w, ws[place]? = some w := ⟨_, List.getElem?_eq_getElem hpll⟩
  have hrs : (List.range' 1 L.length)[at_]? = some (at_ + 1) := by
    rw [List.getElem?_range' hatl]; congr 1; omega
  -- the names
  have hnl : 0 < names.length := List.length_pos_iff.mpr hn
  obtain ⟨n0, hn0⟩ : ∃ n, names[0]? = some n := ⟨_, List.getElem?_eq_getElem hnl⟩
  obtain ⟨nl, hnl2⟩ : ∃ n, names[names.length - 1]? = some n := ⟨_, List.getElem?_eq_getElem (by omega)⟩
  obtain ⟨kk, hkk⟩ : ∃ n : Nat, d3 % (names.length : Int) = n := ⟨(d3 % (names.length : Int)).toNat, by have := Int.emod_nonneg d3 (show (names.length : Int) ≠ 0 by omega); omega⟩
  have hkl : kk < names.length := by have := Int.emod_lt_of_pos d3 (show (0 : Int) < (names.length : Int) by omega); omega
  obtain ⟨nk, hnk⟩ : ∃ n, names[kk]? = some n := ⟨_, List.getElem?_eq_getElem hkl⟩
  have z0 := hz n0 (List.mem_of_getElem? hn0)
  have zl := hz nl (List.mem_of_getElem? hnl2)
  have zk := hz nk (List.mem_of_getElem? hnk)
  have y0 : ∀ h : List Cell, ixD h (.tup (names.map .str)) (.int 0) = some (.str n0) := fun h => by rw [x_tup]; exact atI_nat (k := 0) (by rw [List.getElem?_map, hn0]; rfl) rfl
  have yl : ∀ h : List Cell, ixD h (.tup (names.map .str)) (.int (-1)) = some (.str nl) := fun h => by
    rw [x_tup]; exact atI_neg (k := 1) (by rw [List.length_map, List.getElem?_map, hnl2]; rfl) (by decide) (by rw [List.length_map]; omega) rfl
  have yk : ∀ h : List Cell, ixD h (.tup (names.map .str)) (.int kk) = some (.str nk) := fun h => by rw [x_tup]; exact atI_nat (k := kk) (by rw [List.getElem?_map, hnk]; rfl) rfl
  have ynl : ∀ h : List Cell, biD .len h [.tup (names.map .str)] = some (.int names.length) := fun h => by rw [l_tup, List.length_map]
  have ymod : ∀ h : List Cell, binD .Mod h (.int d3) (.int names.length) = some (.int kk) := fun h => by rw [o_mod_ii, if_pos (by omega), hkk]
  have hA : ∀ (h : List Cell) (x y : Str), x.length = 1 → y.length ≤ 8 → binD .Add h (.str x) (.str y) = some (.str (x ++ y)) := fun h x y h1 h2 => by
    rw [o_add_ss, if_pos (by rw [h1, sizeLine_eq]; omega)]
  obtain ⟨l1, l2, l3, l4, l5⟩ := len_one
  -- the steps
  generalize hh : hT (List.range' 1 L.length) L = h at hcopy
  have s0 : ch0 [some (.lst (L.map encW)), some (.lst (ds.map .int)), some (.tup (names.map .str)), none, none, none, none, none, none] [] = some (.nx [some (.ref 0), some (.lst (ds.map .int)), some (.tup (names.map .str)), none, none, none, none, none, none] h) := by
    unfold ch0
    rw [m_set, hcopy]; rfl
  have hlen : biD .len h [.ref 0] = some (.int L.length) := by rw [← hh, l_ref hT_get0, List.length_map, List.length_range']
  have hmod : ∀ h : List Cell, binD .Mod h (.int d1) (.int L.length) = some (.int at_) := fun h => by rw [o_mod_ii, if_pos (by omega), hat]
  have s1 : ch1 [some (.ref 0), some (.lst (ds.map .int)), some (.tup (names.map .str)), none, none, none, none, none, none] h = some (.nx [some (.ref 0), some (.lst (ds.map .int)), some (.tup (names.map .str)), some (.int at_), none, none, none, none, none] h) := by
    simp -implicitDefEqProofs [ch1, x1, hlen, hmod, -x_lst, -o_mod_ii]
  have xr : ixD h (.ref 0) (.int at_) = some (.ref (at_ + 1)) := by
    rw [← hh, x_ref hT_get0]; exact atI_nat (k := at_) (by rw [List.getElem?_map, hrs]; rfl) rfl
  have hlen2 : biD .len h [.ref (at_ + 1)] = some (.int ws.length) := by rw [← hh, l_ref (hT_get hws), List.length_map]
  have hmod2 : ∀ h : List Cell, binD .Mod h (.int d2) (.int ws.length) = some (.int place) := fun h => by rw [o_mod_ii, if_pos (by omega), hpl]
  have s2 : ch2 [some (.ref 0), some (.lst (ds.map .int)), some (.tup (names.map .str)), some (.int at_), none, none, none, none, none] h = some (.nx [some (.ref 0), some (.lst (ds.map .int)), some (.tup (names.map .str)), some (.int at_), some (.int place), none, none, none, none] h) := by
    simp -implicitDefEqProofs [ch2, x2, xr, hlen2, hmod2, -x_lst, -o_mod_ii]
  have o15 : okLen .lst ((menuA n0 nl).map D.str) = some (.ok (.lst ((menuA n0 nl).map D.str))) := okLen_lit rfl
  have o5 : okLen .lst ((menuB n0 nl nk).map D.str) = some (.ok (.lst ((menuB n0 nl nk).map D.str))) := okLen_lit rfl
  have a1 := hA h "!" n0 l1 z0
  have a2 := hA h "+" nl l2 zl
  have a3 := hA h "-" n0 l3 z0
  have a4 := hA h "?" nk l4 zk
  have a5 := hA h "+" n0 l2 z0
  have a6 : binD .Add h (.str (("+" : Str) ++ n0)) (.str " ") = some (.str (("+" : Str) ++ n0 ++ (" " : Str))) := by
    rw [o_add_ss, if_pos (by rw [len_app, l2, l5, sizeLine_eq]; omega)]
  have s3 : ch3 [some (.ref 0), some (.lst (ds.map .int)), some (.tup (names.map .str)), some (.int at_), some (.int place), none, none, none, none] h = some (.nx [some (.ref 0), some (.lst (ds.map .int)), some (.tup (names.map .str)), some (.int at_), some (.int place), some (.lst ((menuA n0 nl).map .str)), none, none, none] h) := by
    simp only [menuA, List.map_cons, List.map_nil] at o15 ⊢
    simp -implicitDefEqProofs [ch3, y0, yl, a1, a2, o15, -x_tup, -o_add_ss]
  have a7 : binD .Add h (.lst ((menuA n0 nl).map .str)) (.lst ((menuB n0 nl nk).map .str)) = some (.lst ((menuA n0 nl ++ menuB n0 nl nk).map .str)) := by
    rw [o_add_ll, if_pos (by rw [sizeLine_eq]; show 20 ≤ 16777216; decide), List.map_append]
  have s4 : ch4 [some (.ref 0), some (.lst (ds.map .int)), some (.tup (names.map .str)), some (.int at_), some (.int place), some (.lst ((menuA n0 nl).map .str)), none, none, none] h = some (.nx (fr ds names (menuA n0 nl ++ menuB n0 nl nk) at_ place none none none) h) := by
    have e5 : sLst (sCons (sBin .Add (sCst (.str "-")) (sIx (sVar 2) (sCst (.int 0)))) (sCons (sBin .Add (sCst (.str "?")) (sIx (sVar 2) (sBin .Mod (sBi .int (sCons (sIx (sVar 1) (sCst (.int 3))) sNil)) (sBi .len (sCons (sVar 2) sNil))))) (sCons (sIx (sVar 2) (sUn .USub (sCst (.int 1)))) (sCons (sBin .Add (sBin .Add (sCst (.str "+")) (sIx (sVar 2) (sCst (.int 0)))) (sCst (.str " "))) (sCons (sCst (.str "12")) sNil))))) [some (.ref 0), some (.lst (ds.map .int)), some (.tup (names.map .str)), some (.int at_), some (.int place), some (.lst ((menuA n0 nl).map .str)), none, none, none] h = some (.ok (.lst ((menuB n0 nl nk).map .str))) := by
      simp only [menuB, List.map_cons, List.map_nil] at o5 ⊢
      simp -implicitDefEqProofs [x3, ynl, ymod, y0, yl, yk, a3, a4, a5, a6, o5, -x_tup, -x_lst, -o_add_ss, -o_mod_ii, -l_tup]
    unfold ch4
    rw [m_set, m_lift, m_bin, m_var, e5]
    dsimp only [List.getElem?_cons_succ, List.getElem?_cons_zero]
    rw [bnd_ok, bnd_ok, a7]
    rfl
  have C : Ch a b c (List.range' 1 L.length) L ds names (menuA n0 nl ++ menuB n0 nl nk) at_ place at_ ws w := ⟨T, ha, hb, hrs, hws, hw, fun i i0 i1 => by
    obtain ⟨u, u1, u2⟩ := ints_at (zs := menuA n0 nl ++ menuB n0 nl nk) i0 (by show i < ((20 : Nat) : Int); omega)
    exact ⟨u, u1, Nat.le_trans (menu_len z0 zl zk u u2) hc2⟩, hd⟩
  obtain ⟨v6, v7, v8, rs', rows', s5, T'⟩ := do_chain (v6 := none) (v7 := none) (v8 := none) C hc
  rw [hh] at s5
  rw [m_seq, s0]
  dsimp only
  rw [m_seq, s1]
  dsimp only
  rw [m_seq, s2]
  dsimp only
  rw [m_seq, s3]
  dsimp only
  rw [m_seq, s4]
  dsimp only
  rw [m_seq, s5]
  dsimp only
  refine ⟨outL rs' rows', changed_end T' (by omega), ?_⟩
  have hf : ∀ ws : List Str, (ws ∈ rows' ∨ ws = []) → fixW ws ≠ [] ∧ (fixW ws).length ≤ b + 1 ∧ ∀ w ∈ fixW ws, w.length ≤ c + 1 := fun ws hm => by
    unfold fixW
    cases q : ws.isEmpty with
    | true => rw [if_pos rfl]; exact ⟨by simp, by simp, fun w hw => by rw [List.mem_singleton.mp hw]; exact Nat.zero_le _⟩
    | false =>
      rw [if_neg (by decide)]
      have hne : ws ≠ [] := fun z => by subst z; cases q
      rcases hm with hm | hm
      · exact ⟨hne, T'.lb ws hm, T'.lc ws hm⟩
      · exact absurd hm hne
  have hmem : ∀ ws ∈ outL rs' rows', fixW ws = fixW ws ∧ ∃ v, (v ∈ rows' ∨ v = []) ∧ ws = fixW v := fun ws hm => by
    obtain ⟨r, hr, rfl⟩ := List.mem_map.mp hm
    refine ⟨rfl, _, ?_, rfl⟩
    obtain ⟨k, h1, h2⟩ := T'.ok r hr
    left
    rw [List.getD_eq_getElem?_getD, h1, Nat.add_sub_cancel, List.getElem?_eq_getElem h2]
    exact List.getElem_mem h2
  refine ⟨fun z => T'.ne (List.map_eq_nil_iff.mp z), by unfold outL; rw [List.length_map]; exact T'.la, fun ws hm => ?_, fun ws hm => ?_, fun ws hm => ?_⟩
  · obtain ⟨_, v, hv, rfl⟩ := hmem ws hm; exact (hf v hv).1
  · obtain ⟨_, v, hv, rfl⟩ := hmem ws hm; exact (hf v hv).2.1
  · obtain ⟨_, v, hv, rfl⟩ := hmem ws hm; exact (hf v hv).2.2
end K75

set_option Elab.async false
set_option linter.all false
set_option maxRecDepth 100000
set_option maxHeartbeats 1000000
namespace K75
open PySem PySem.Spec PyProof.Rows L2 DL TL
/-! ### lists of lists are equal to themselves -/
theorem pyDs_map {α : Type} {e : α → D} {g : α → PyData} (h : ∀ x, pyD (e x) = some (g x)) : ∀ xs : List α, pyD.pyDs (xs.map e) = some (xs.map g)
  | [] => rfl
  | x :: xs => by
    show (match pyD (e x), pyD.pyDs (xs.map e) with | some a, some as => some (a :: as) | _, _ => none) = _
    rw [h x, pyDs_map h xs]; rfl
theorem lay_map {α : Type} {g : α → PyData} (h : ∀ x, (g x).canLay0 = true) : ∀ xs : List α, PyData.canLayAll0 (xs.map g) = true
  | [] => rfl
  | x :: xs => by
    show ((g x).canLay0 && PyData.canLayAll0 (xs.map g)) = true
    rw [h x, lay_map h xs]; rfl
theorem dep_map {α : Type} {g : α → PyData} {k : Nat} (h : ∀ x, (g x).depth ≤ k) : ∀ xs : List α, PyData.depthAll (xs.map g) ≤ k
  | [] => Nat.zero_le _
  | x :: xs => by
    show max ((g x).depth) (PyData.depthAll (xs.map g)) ≤ k
    exact Nat.max_le.mpr ⟨h x, dep_map h xs⟩
def gH (p : Nat × Int) : PyData := .list [.int p.1, .int p.2]
def gS (s : List (Nat × Int)) : PyData := .list (s.map gH)
theorem py_SL (signs : List (List (Nat × Int))) : pyD (.lst (signs.map encSL)) = some (.list (signs.map gS)) := by
  show (pyD.pyDs (signs.map encSL)).map PyData.list = _
  rw [pyDs_map (g := gS) (fun s => by
    show (pyD.pyDs (s.map encHL)).map PyData.list = _
    rw [pyDs_map (g := gH) (fun p => rfl)]; rfl)]
  rfl
theorem lay_SL (signs : List (List (Nat × Int))) : (PyData.list (signs.map gS)).canLay0 = true := lay_map (g := gS) (fun s => lay_map (g := gH) (fun p => rfl) s) signs
theorem shaped_SL (signs : List (List (Nat × Int))) : SeqAt.shaped (.list (signs.map gS)) = true := by
  unfold SeqAt.shaped
  rw [lay_SL, Bool.true_and]
  apply decide_eq_true
  have h1 : ∀ p, (gH p).depth ≤ 1 := fun p => by simp [gH, PyData.depth, PyData.depthAll]
  have h2 : ∀ s, (gS s).depth ≤ 2 := fun s => by
    have := dep_map h1 s
    show PyData.depthAll (s.map gH) + 1 ≤ 2
    omega
  have := dep_map h2 signs
  show PyData.depthAll (signs.map gS) + 1 ≤ 64
  omega
theorem ne_self {h : List Cell} {signs : List (List (Nat × Int))} (e : h[0]? = some (.lst (signs.map encSL))) : cmpD .NotEq h (.ref 0) (.lst (signs.map encSL)) = some (.bl false) := by
  have hs : shal h (.ref 0) = .lst (signs.map encSL) := by
    show (match h[0]? with | some (Cell.lst xs) => D.lst xs | _ => .ref 0) = _
    rw [e]
  have h2 : eqD h (.ref 0) (.lst (signs.map encSL)) = some true := by
    show (match pyD (shal h (.ref 0)), pyD (shal h (.lst (signs.map encSL))) with
      | some p, some q => if SeqAt.shaped p = true ∧ SeqAt.shaped q = true then some (PyData.eqv p q) else none
      | _, _ => none) = _
    rw [hs]
    show (match pyD (.lst (signs.map encSL)), pyD (.lst (signs.map encSL)) with
      | some p, some q => if SeqAt.shaped p = true ∧ SeqAt.shaped q = true then some (PyData.eqv p q) else none
      | _, _ => none) = _
    rw [py_SL]
    dsimp only
    rw [if_pos ⟨shaped_SL signs, shaped_SL signs⟩, SeqAt.eqv_refl _ (lay_SL signs)]
  have e3 : cmpD .NotEq h (.ref 0) (.lst (signs.map encSL)) = (eqD h (.ref 0) (.lst (signs.map encSL))).map fun b => .bl (if true = true then !b else b) := rfl
  rw [e3, h2]; rfl
/-! ### what is read is short -/
theorem namesOf_len : ∀ {ws : List Str} {i : Nat} {acc out : List Str}, namesOf ws i acc = .inr out → out.length = acc.length + ws.length
  | [], _, acc, out, h => by cases h; rfl
  | w :: ws, i, acc, out, h => by
    simp only [namesOf] at h
    cases q : nameStep w i acc with
    | inl k => rw [q] at h; cases h
    | inr s =>
      rw [q] at h
      have := namesOf_len (ws := ws) h
      unfold nameStep at q
      split at q
      · cases q; rw [this]; simp; omega
      · cases q
theorem rowOf_len {names : List Str} : ∀ {ws : List Str} {i : Nat} {s out : List (Nat × Int)}, s.length ≤ 4 → rowOf names ws i s = .inr out → out.length ≤ 4
  | [], _, s, out, h0, h => by cases h; exact h0
  | w :: ws, i, s, out, h0, h => by
    simp only [rowOf] at h
    cases q : rowStep names w i s with
    | inl k => rw [q] at h; cases h
    | inr s' => rw [q] at h; exact rowOf_len (ws := ws) (rowStep_len h0 q) h
theorem rowsOf_len {names : List Str} : ∀ {wss : List (List Str)} {i : Nat} {out : List (List (Nat × Int))}, rowsOf names wss i = .inr out → out.length = wss.length ∧ ∀ s ∈ out, s.length ≤ 4
  | [], _, out, h => by cases h; exact ⟨rfl, fun s hs => by cases hs⟩
  | ws :: wss, i, out, h => by
    simp only [rowsOf] at h
    cases q : rowOf names ws.tail 1 [] with
    | inl k => rw [q] at h; cases h
    | inr s =>
      rw [q] at h
      dsimp only at h
      cases q2 : rowsOf names wss (i + 1) with
      | inl e => rw [q2] at h; cases h
      | inr ss =>
        rw [q2] at h
        cases h
        obtain ⟨h1, h2⟩ := rowsOf_len q2
        exact ⟨by simp [h1], fun t ht => by
          rcases List.mem_cons.mp ht with rfl | ht
          · exact rowOf_len (Nat.zero_le _) q
          · exact h2 t ht⟩
theorem shortDs_map {α : Type} {e : α → D} (h : ∀ x, shortD (e x)) : ∀ xs : List α, shortDs (xs.map e)
  | [] => trivial
  | x :: xs => ⟨h x, shortDs_map h xs⟩
theorem shortDs_mapOf {α : Type} {e : α → D} : ∀ xs : List α, (∀ x ∈ xs, shortD (e x)) → shortDs (xs.map e)
  | [], _ => trivial
  | x :: xs, h => ⟨h x List.mem_cons_self, shortDs_mapOf xs fun y hy => h y (List.mem_cons_of_mem _ hy)⟩
theorem plainDs_map {α : Type} {e : α → D} (h : ∀ x, plainD (e x) = true) : ∀ xs : List α, plainDs (xs.map e) = true
  | [] => rfl
  | x :: xs => by show (plainD (e x) && plainDs (xs.map e)) = true; rw [h x, plainDs_map h xs]; rfl
theorem plain_S (s : List (Nat × Int)) : plainD (encS s) = true := plainDs_map (e := encH) (fun _ => rfl) s
theorem plain_R (r : List Str × List (List (Nat × Int))) : plainD (encR r) = true := by
  show (plainDs (r.1.map D.str) && (plainDs (r.2.map encS) && true)) = true
  rw [plainDs_map (fun _ => rfl), plainDs_map plain_S]; rfl
theorem short_S {s : List (Nat × Int)} (h : s.length ≤ 1000) : shortD (encS s) := ⟨by rw [List.length_map]; exact h, shortDs_map (e := encH) (fun p => ⟨by show 2 ≤ 1000; decide, trivial, trivial, trivial⟩) s⟩
theorem short_R {r : List Str × List (List (Nat × Int))} (h1 : r.1.length ≤ 1000) (h2 : r.2.length ≤ 1000) (h3 : ∀ s ∈ r.2, s.length ≤ 1000) : shortD (encR r) :=
  ⟨by show 2 ≤ 1000; decide, ⟨by rw [List.length_map]; exact h1, shortDs_map (e := D.str) (fun _ => trivial) _⟩, ⟨by rw [List.length_map]; exact h2, shortDs_mapOf (e := encS) r.2 fun s hs => short_S (h3 s hs)⟩, trivial⟩
theorem readL_short {L : List (List Str)} {r} (h : readL L = .inr r) : shortD (encR r) := by
  unfold readL at h
  cases q : countOf (L.headD []) with
  | inl k => rw [q] at h; cases h
  | inr n =>
    rw [q] at h
    dsimp only at h
    have hn : n ≤ 12 := by
      unfold countOf at q
      split at q
      · cases q
      · split at q
        · split at q
          · cases q
          · split at q
            · cases q
            · rename_i i hi
              split at q
              · cases q
                have := (List.findIdx?_eq_some_iff_getElem.mp hi).1
                have e : sizesS.length = 12 := by unfold sizesS; simp
                omega
              · cases q
        · cases q
    split at h
    · cases h
    split at h
    · cases h
    rename_i c1 c2
    have hl : L.tail.length ≤ 12 := by rw [List.length_tail]; omega
    cases q2 : namesOf (L.tail.map fun ws => ws.headD Str.empty) 0 [] with
    | inl k => rw [q2] at h; cases h
    | inr names =>
      rw [q2] at h
      dsimp only at h
      have h1 := namesOf_len q2
      rw [List.length_map] at h1
      cases q3 : rowsOf names L.tail 0 with
      | inl e => rw [q3] at h; cases h
      | inr rows =>
        rw [q3] at h
        cases h
        obtain ⟨h2, h3⟩ := rowsOf_len q3
        exact short_R (by rw [h1]; simp; omega) (by rw [h2]; omega) (fun s hs => by have := h3 s hs; omega)
theorem same_Rd (L : List (List Str)) : fn__law_same [encRd (readL L), encRd (readL L)] = some (.val (.bl true)) := by
  cases q : readL L with
  | inl e => exact law_same_ok rfl ⟨by show 3 ≤ 1000; decide, trivial, trivial, trivial, trivial⟩ (by show dep (encB e) < 8; simp only [encB, dep, depl]; omega)
  | inr r => exact law_same_ok (by
      show (true && (plainD (encR r) && true)) = true
      rw [plain_R]; rfl) ⟨by show 2 ≤ 1000; decide, trivial, readL_short q, trivial⟩ (by
      have := dep_R r
      show dep (D.tup [.str "told", encR r]) < 8
      simp only [dep, depl]
      omega)
theorem plain_Rd (L : List (List Str)) : plainD (encRd (readL L)) = true := by
  cases readL L with
  | inl e => rfl
  | inr r =>
    show (true && (plainD (encR r) && true)) = true
    rw [plain_R]; rfl
/-- what is told of a text is what the law reads in it -/
theorem told_read {t : Str} (ht : t.length + 2 ≤ sizeLine) {ρ : Rho} {h : List Cell} {i : Nat} (hi : ρ[i]? = some (some (.str t))) : sNot (sTru (sCall 2 fn__law_same (sCons (sCall 1 fn__law_told (sCons (sVar i) sNil)) (sCons (sCall 1 fn__law_read (sCons (sVar i) sNil)) sNil)))) ρ h = some (.ok (.bl false)) := by
  have a1 : ∀ h : List Cell, appF fn__law_told h [.str t] = some (.ok (encRd (readL (linesOf t)))) := fun h => app_val rfl (law_told_ok ht)
  have a2 : ∀ h : List Cell, appF fn__law_read h [.str t] = some (.ok (encRd (readL (linesOf t)))) := fun h => app_val rfl (law_read_ok ht)
  have a3 : ∀ h : List Cell, appF fn__law_same h [encRd (readL (linesOf t)), encRd (readL (linesOf t))] = some (.ok (.bl true)) := fun h => app_val (by
    rw [noRefs_cons, noRefs_cons, plain_noRef _ (plain_Rd _)]; rfl) (same_Rd _)
  generalize encRd (readL (linesOf t)) = x at *
  simp -implicitDefEqProofs [hi, a1, a2, a3]
end K75

set_option Elab.async false
set_option linter.all false
set_option maxRecDepth 100000
set_option maxHeartbeats 1000000
namespace K75
open PySem PySem.Spec PyProof.Rows L2 DL TL
variable {names : List Str} {signs : List (List (Nat × Int))} {ns : List Int}
/-- the frame of the law -/
def lf (ns : List Int) (size : Int) (names : List Str) (signs : List (List (Nat × Int))) (v6 v7 v8 v9 v10 v11 v12 v13 : Option D) : Rho :=
  [some (.scr ns), some (.int size), some (.tup (signs.map encS)), some (.tup (names.map .str)), some (.str (textOf names signs)), some (.ref 0), v6, v7, v8, v9, v10, v11, v12, v13]
theorem Good.shape (G : Good names signs) : Shape 13 5 10 (linesOf (textOf names signs)) := by
  rw [G.lines]
  have hi := G.hi
  have hz : (names.zip signs).length ≤ 12 := by rw [List.length_zip]; omega
  have hrow : ∀ p ∈ names.zip signs, (p.1 :: p.2.map (wordOf names)).length ≤ 5 ∧ ∀ w ∈ p.1 :: p.2.map (wordOf names), w.length ≤ 9 := fun p hp => by
    obtain ⟨h1, h2⟩ := G.zip_name hp
    exact G.line_words h1 (name_len h2)
  have hnum := numS_len (n := signs.length) (k := 2) (by decide) (by omega)
  refine ⟨by simp, by rw [List.length_cons, List.length_map]; omega, fun ws h => ?_, fun ws h => ?_, fun ws h => ?_⟩
  · rcases List.mem_cons.mp h with rfl | h
    · simp
    · obtain ⟨p, hp, rfl⟩ := List.mem_map.mp h; simp
  · rcases List.mem_cons.mp h with rfl | h
    · show 2 ≤ 5; decide
    · obtain ⟨p, hp, rfl⟩ := List.mem_map.mp h; exact (hrow p hp).1
  · rcases List.mem_cons.mp h with rfl | h
    · intro w hw
      simp only [List.mem_cons, List.not_mem_nil, or_false] at hw
      rcases hw with rfl | rfl
      · rw [lenS1.2.2.2.2.2.2]; decide
      · omega
    · obtain ⟨p, hp, rfl⟩ := List.mem_map.mp h
      intro w hw
      have := (hrow p hp).2 w hw
      omega
theorem joined_ok {L : List (List Str)} {ρ : Rho} {h : List Cell} {f : Sx} {a b c : Nat} (S : Shape a b c L) (ha : a ≤ 20) (hb : b ≤ 20) (hc : c ≤ 20) (hf : f ρ h = some (.ok (.lst (L.map encW)))) (h13 : 13 < ρ.length) :
    ∃ t : Str, sStrM (strM .join) (sCst (.str "\n")) (sComp [13] (iData f) (gxName 13) sYes se_law_2) ρ h = some (.ok (.str t)) ∧ t.length ≤ 10000 := by
  have hlen : ∀ ws ∈ L, (Txt.join " " ws).length ≤ 420 := fun ws hw => by
    have := join_le (y := " ") c (S.lc ws hw)
    rw [lenS1.2.2.2.1] at this
    have h1 := Nat.le_trans (S.lb ws hw) hb
    have h2 : ws.length * c ≤ 20 * 20 := Nat.mul_le_mul h1 hc
    omega
  have hcomp := sComp_list (vs := [13]) (gx := gxName 13) (tst := sYes) (elt := se_law_2) (ρ := ρ) (h := h) (li_lst hf) (by rw [List.length_map, sizeLine_eq]; have := S.la; omega) (ds := (L.map (Txt.join " ")).map .str) (by
    rw [List.map_map]
    refine comL_map fun ws hw => ⟨_, rfl, rfl, ?_⟩
    have hv : ((wipeR ρ [13]).set 13 (some (encW ws)))[13]? = some (some (encW ws)) := List.getElem?_set_self (by simp; omega)
    generalize (wipeR ρ [13]).set 13 (some (encW ws)) = ρ1 at hv
    have j : gJoin " " h (encW ws) = some (.str (Txt.join " " ws)) := join_ok rfl c (S.lc ws hw) (by
      rw [lenS1.2.2.2.1]
      have h1 := Nat.le_trans (S.lb ws hw) hb
      have h2 : ws.length * c ≤ 20 * 20 := Nat.mul_le_mul h1 hc
      omega)
    simp -implicitDefEqProofs [se_law_2, hv, strM, j])
  have hb2 : ∀ p ∈ L.map (Txt.join " "), p.length ≤ 420 := fun p hp => by
    obtain ⟨ws, hw, rfl⟩ := List.mem_map.mp hp
    exact hlen ws hw
  have hl2 : (L.map (Txt.join " ")).length ≤ 20 := by rw [List.length_map]; exact Nat.le_trans S.la ha
  have j2 : gJoin "\n" h (.lst ((L.map (Txt.join " ")).map .str)) = some (.str (Txt.join "\n" (L.map (Txt.join " ")))) := join_ok rfl 420 hb2 (by rw [lenS1.2.2.2.2.1]; omega)
  refine ⟨Txt.join "\n" (L.map (Txt.join " ")), ?_, ?_⟩
  · rw [m_strM, m_cst, bnd_ok, m_onStr, hcomp, bnd_ok]
    show vok (gJoin "\n" h _) = _
    rw [j2]; rfl
  · have := join_le (y := "\n") 420 hb2
    rw [lenS1.2.2.2.2.1] at this
    omega
def lt0 : Sm := (sSet 7 (liftM (sComp [12] (iData (sStrM (strM .split) (sVar 4) (sCst (.str "\n")))) (gxName 12) sYes se_law_1)))
def lt1 : Sm := (sSet 8 (liftM (sCall 2 fn__law_draws (sCons (sBin .Add (sCall 2 fn__law_cell (sCons (sVar 0) (sCons (sBin .Add (sCst (.int 14)) (sVar 6)) sNil))) (sVar 6)) (sCons (sBin .Add (sBin .Mult (sLst (sCons (sCst (.int 10)) (sCons (sCst (.int 13)) (sCons (sCst (.int 6)) (sCons (sCst (.int 20)) sNil))))) (sCst (.int 2))) (sLst (sCons (sCst (.int 3)) sNil))) sNil)))))
def lt2 : Sm := (sSet 7 (liftM (sCall 3 fn__law_changed (sCons (sVar 7) (sCons (sVar 8) (sCons (sVar 3) sNil))))))
def lt3 : Sm := (sIfS (sCmp .Eq (sIx (sVar 8) (sCst (.int 8))) (sCst (.int 0))) (sSet 7 (liftM (sCall 3 fn__law_changed (sCons (sVar 7) (sCons (sSl (sVar 8) (some (sCst (.int 4))) none) (sCons (sVar 3) sNil)))))) sNext)
def lt4 : Sm := (sSet 9 (liftM (sStrM (strM .join) (sCst (.str "\n")) (sComp [13] (iData (sVar 7)) (gxName 13) sYes se_law_2))))
def lt5 : Sm := (sIfS (sNot (sTru (sCall 2 fn__law_same (sCons (sCall 1 fn__law_told (sCons (sVar 9) sNil)) (sCons (sCall 1 fn__law_read (sCons (sVar 9) sNil)) sNil))))) (sRet (liftM (sCst (.bl false)))) sNext)
theorem lt_eq : sb_law_3 = (sSeq lt0 (sSeq lt1 (sSeq lt2 (sSeq lt3 (sSeq lt4 lt5))))) := rfl

theorem law_turn (G : Good names signs) {size : Int} {v7 v8 v9 v10 v11 v12 v13 : Option D} {k : Nat} (hk : k < 6) {h : List Cell} :
    ∃ u7 u8 u9, sb_law_3 (lf ns size names signs (some (.int k)) v7 v8 v9 v10 v11 v12 v13) h = some (.nx (lf ns size names signs (some (.int k)) u7 u8 u9 v10 v11 v12 v13) h) := by
  rw [lt_eq]
  have htl := text_len G
  have S0 := G.shape
  -- the lines
  have s0 : lt0 (lf ns size names signs (some (.int k)) v7 v8 v9 v10 v11 v12 v13) h = some (.nx (lf ns size names signs (some (.int k)) (some (.lst ((linesOf (textOf names signs)).map encW))) v8 v9 v10 v11 v12 v13) h) := by
    have := lines_ok (t := textOf names signs) (by rw [sizeLine_eq]; omega) (vs := [12]) (i := 12) (ρ := lf ns size names signs (some (.int k)) v7 v8 v9 v10 v11 v12 v13) (h := h) (f := sVar 4) rfl (el := se_law_1) (fun l => by
      have e : se_law_1 ((wipeR (lf ns size names signs (some (.int k)) v7 v8 v9 v10 v11 v12 v13) [12]).set 12 (some (.str l))) h = vok (gSplit l h (.str " ")) := rfl
      rw [e]
      by_cases c : l.length + 2 ≤ sizeLine
      · rw [if_pos c]; simp only [gSplit, sp_ne, c, and_self, if_true, vok_some]; rfl
      · rw [if_neg c]; simp only [gSplit, sp_ne, c, and_false, if_false, vok_none])
    unfold lt0
    rw [m_set, m_lift, this]
    rfl
  -- the draws
  obtain ⟨ds, h1, h2, h3⟩ := law_draws_ok (c := ns.getD (14 + k) 0 + k) (sizes := [10, 13, 6, 20, 10, 13, 6, 20, 3]) (by unfold SizeOk; decide) (by decide)
  obtain ⟨d0, d1, d2, d3, d4, d5, d6, d7, d8, rfl⟩ : ∃ d0 d1 d2 d3 d4 d5 d6 d7 d8, ds = [d0, d1, d2, d3, d4, d5, d6, d7, d8] := by
    rcases ds with _ | ⟨d0, _ | ⟨d1, _ | ⟨d2, _ | ⟨d3, _ | ⟨d4, _ | ⟨d5, _ | ⟨d6, _ | ⟨d7, _ | ⟨d8, _ | ⟨d9, r⟩⟩⟩⟩⟩⟩⟩⟩⟩⟩ <;> simp at h2
    exact ⟨_, _, _, _, _, _, _, _, _, rfl⟩
  have k3 := h3 3 _ _ rfl rfl
  have k7 := h3 7 _ _ rfl rfl
  have a0 : ∀ h : List Cell, appF fn__law_cell h [.scr ns, .int (14 + (k : Int))] = some (.ok (.int (ns.getD (14 + k) 0))) := fun h => app_val rfl (by
    have := law_cell_ok (ns := ns) (k := 14 + k)
    rw [show ((14 + k : Nat) : Int) = 14 + (k : Int) by omega] at this
    exact this)
  have a1 : appF fn__law_draws h [.int (ns.getD (14 + k) 0 + (k : Int)), .lst [.int 10, .int 13, .int 6, .int 20, .int 10, .int 13, .int 6, .int 20, .int 3]] = some (.ok (.lst ([d0, d1, d2, d3, d4, d5, d6, d7, d8].map .int))) := app_lst rfl h1
  have b1 : binD .Mult h (.lst [.int 10, .int 13, .int 6, .int 20]) (.int 2) = some (.lst [.int 10, .int 13, .int 6, .int 20, .int 10, .int 13, .int 6, .int 20]) := mul_rep (n := 2) (by decide) (by rw [sizeLine_eq]; show 8 ≤ 16777216; decide)
  have b2 : binD .Add h (.lst [.int 10, .int 13, .int 6, .int 20, .int 10, .int 13, .int 6, .int 20]) (.lst [.int 3]) = some (.lst [.int 10, .int 13, .int 6, .int 20, .int 10, .int 13, .int 6, .int 20, .int 3]) := by
    rw [o_add_ll, if_pos (by rw [sizeLine_eq]; show 9 ≤ 16777216; decide)]; rfl
  have o4 : ∀ a b c d : D, okLen .lst [a, b, c, d] = some (.ok (.lst [a, b, c, d])) := fun _ _ _ _ => okLen_lit rfl
  generalize ns.getD (14 + k) 0 = cc at *
  generalize hds : [d0, d1, d2, d3, d4, d5, d6, d7, d8] = ds at a1
  have s1 : ∀ v7, lt1 (lf ns size names signs (some (.int k)) v7 v8 v9 v10 v11 v12 v13) h = some (.nx (lf ns size names signs (some (.int k)) v7 (some (.lst (ds.map .int))) v9 v10 v11 v12 v13) h) := fun v7 => by
    simp -implicitDefEqProofs [lt1, lf, a0, a1, b1, b2, o4, ok1, -o_mul_li, -o_add_ll]
  -- a change
  have hnn : names ≠ [] := fun z => by have := G.len; have := G.lo; rw [z] at *; simp at *; omega
  have hnz : ∀ n ∈ names, n.length ≤ 8 := fun n hn => name_len (G.n.2 n hn)
  obtain ⟨L1, c1, S1⟩ := law_changed_ok S0 (ds := ds) (names := names) (by decide) (by decide) (by decide) (by decide) ⟨d0, d1, d2, d3, _, hds.symm, k3⟩ hnn hnz
  obtain ⟨L2, c2, S2⟩ := law_changed_ok S1 (ds := [d4, d5, d6, d7, d8]) (names := names) (by decide) (by decide) (by decide) (by decide) ⟨d4, d5, d6, d7, _, rfl, k7⟩ hnn hnz
  have nrW : ∀ L : List (List Str), noRefs (L.map encW) = true := fun L => noRefs_map (e := encW) (fun ws => noRefs_strs ws) L
  have e1 : appF fn__law_changed h [.lst ((linesOf (textOf names signs)).map encW), .lst (ds.map .int), .tup (names.map .str)] = some (.ok (.lst (L1.map encW))) := app_lst (by
    rw [noRefs_cons, noRefs_cons, noRefs_cons, noRef_lst, noRef_lst, noRef_tup, nrW, noRefs_ints, noRefs_strs]; rfl) c1
  have e2 : appF fn__law_changed h [.lst (L1.map encW), .lst ([d4, d5, d6, d7, d8].map .int), .tup (names.map .str)] = some (.ok (.lst (L2.map encW))) := app_lst (by
    rw [noRefs_cons, noRefs_cons, noRefs_cons, noRef_lst, noRef_lst, noRef_tup, nrW, noRefs_ints, noRefs_strs]; rfl) c2
  have s2 : lt2 (lf ns size names signs (some (.int k)) (some (.lst ((linesOf (textOf names signs)).map encW))) (some (.lst (ds.map .int))) v9 v10 v11 v12 v13) h = some (.nx (lf ns size names signs (some (.int k)) (some (.lst (L1.map encW))) (some (.lst (ds.map .int))) v9 v10 v11 v12 v13) h) := by
    simp -implicitDefEqProofs [lt2, lf, e1]
  have x8 : ixD h (.lst (ds.map .int)) (.int 8) = some (.int d8) := by rw [← hds, x_lst]; exact atI_nat (k := 8) rfl rfl
  have sl : slD h (.lst (ds.map .int)) (some 4) none = some (.lst ([d4, d5, d6, d7, d8].map .int)) := by rw [← hds]; rfl
  obtain ⟨L3, S3, s3⟩ : ∃ L3, Shape 15 7 12 L3 ∧ lt3 (lf ns size names signs (some (.int k)) (some (.lst (L1.map encW))) (some (.lst (ds.map .int))) v9 v10 v11 v12 v13) h = some (.nx (lf ns size names signs (some (.int k)) (some (.lst (L3.map encW))) (some (.lst (ds.map .int))) v9 v10 v11 v12 v13) h) := by
    by_cases c : d8 = 0
    · refine ⟨L2, S2, ?_⟩
      generalize ([d4, d5, d6, d7, d8].map D.int) = dd at *
      simp -implicitDefEqProofs [lt3, lf, x8, c, sl, e2, -x_lst]
    · refine ⟨L1, ⟨S1.ne, by have := S1.la; omega, S1.nr, fun ws hw => by have := S1.lb ws hw; omega, fun ws hw w hw2 => by have := S1.lc ws hw w hw2; omega⟩, ?_⟩
      simp -implicitDefEqProofs [lt3, lf, x8, c, -x_lst]
  obtain ⟨t, j1, j2⟩ := joined_ok S3 (ρ := lf ns size names signs (some (.int k)) (some (.lst (L3.map encW))) (some (.lst (ds.map .int))) v9 v10 v11 v12 v13) (h := h) (f := sVar 7) (by decide) (by decide) (by decide) rfl (by show 13 < 14; decide)
  have s4 : lt4 (lf ns size names signs (some (.int k)) (some (.lst (L3.map encW))) (some (.lst (ds.map .int))) v9 v10 v11 v12 v13) h = some (.nx (lf ns size names signs (some (.int k)) (some (.lst (L3.map encW))) (some (.lst (ds.map .int))) (some (.str t)) v10 v11 v12 v13) h) := by
    unfold lt4
    rw [m_set, m_lift, j1]
    rfl
  have s5 : lt5 (lf ns size names signs (some (.int k)) (some (.lst (L3.map encW))) (some (.lst (ds.map .int))) (some (.str t)) v10 v11 v12 v13) h = some (.nx (lf ns size names signs (some (.int k)) (some (.lst (L3.map encW))) (some (.lst (ds.map .int))) (some (.str t)) v10 v11 v12 v13) h) := by
    unfold lt5
    rw [m_ifS, told_read (t := t) (by rw [sizeLine_eq]; omega) rfl]
    rfl
  refine ⟨some (.lst (L3.map encW)), some (.lst (ds.map .int)), some (.str t), ?_⟩
  rw [m_seq, s0]
  dsimp only
  rw [m_seq, s1]
  dsimp only
  rw [m_seq, s2]
  dsimp only
  rw [m_seq, s3]
  dsimp only
  rw [m_seq, s4]
  dsimp only
  exact s5
end K75

set_option Elab.async false
set_option linter.all false
set_option maxRecDepth 100000
set_option maxHeartbeats 1000000
namespace K75
open PySem PySem.Spec PyProof.Rows L2 DL TL
def ls0 : Sm := (sSet 1 (liftM (sIx (sLst (sCons (sCst (.int 3)) (sCons (sCst (.int 12)) (sCons (sCst (.int 5)) (sCons (sCst (.int 1)) (sCons (sCst (.int 8)) (sCons (sCst (.int 2)) (sCons (sCst (.int 4)) (sCons (sCst (.int 10)) (sCons (sCst (.int 6)) (sCons (sCst (.int 11)) (sCons (sCst (.int 7)) (sCons (sCst (.int 9)) sNil))))))))))))) (sBin .Mod (sBi .int (sCons (sCall 2 fn__law_cell (sCons (sVar 0) (sCons (sCst (.int 0)) sNil))) sNil)) (sCst (.int 12))))))
def ls1 : Sm := (sSet 2 (liftM (sCall 4 fn__law_wide_signs (sCons (sVar 0) (sCons (sCst (.int 1)) (sCons (sVar 1) (sCons (sCst (.int 4)) sNil)))))))
def ls2 : Sm := (sSet 3 (liftM (sCall 2 fn__law_names (sCons (sCall 2 fn__law_cell (sCons (sVar 0) (sCons (sCst (.int 13)) sNil))) (sCons (sVar 1) sNil)))))
def ls3 : Sm := (sSet 4 (liftM (sCall 2 fn__law_text (sCons (sVar 3) (sCons (sVar 2) sNil)))))
def ls4 : Sm := (sSet 5 (mCall 1 fn__law_listed_signs (sCons (sVar 2) sNil)))
def ls5 : Sm := (sIfS (sOr (sNot (sTru (sCall 2 fn__law_same (sCons (sCall 2 fn__law_written (sCons (sBi .list (sCons (sVar 3) sNil)) (sCons (sVar 5) sNil))) (sCons (sTup (sCons (sCst (.str "told")) (sCons (sVar 4) sNil))) sNil))))) (sCmp .NotEq (sVar 5) (sCall 1 fn__law_listed_signs (sCons (sVar 2) sNil)))) (sRet (liftM (sCst (.bl false)))) sNext)
def ls6 : Sm := (sIfS (sNot (sTru (sCall 2 fn__law_same (sCons (sCall 1 fn__law_told (sCons (sVar 4) sNil)) (sCons (sTup (sCons (sCst (.str "told")) (sCons (sTup (sCons (sVar 3) (sCons (sVar 2) sNil))) sNil))) sNil))))) (sRet (liftM (sCst (.bl false)))) sNext)
def ls7 : Sm := (sFor (iRange1 (sCons (sCst (.int 6)) sNil)) (gxName 6) sb_law_3 sNext)
def ls8 : Sm := (sFor (iData (sTup (sCons (sBin .Add (sVar 4) (sCst (.str "\n"))) (sCons (sBin .Add (sVar 4) (sCst (.str " "))) (sCons (sCst (.str "")) (sCons (sRepl (sVar 4) "signs" "sign") sNil)))))) (gxName 9) sb_law_4 sNext)
def ls9 : Sm := (sFor (iData (sTup (sCons (sBin .Add (sBi .list (sCons (sVar 3) sNil)) (sLst (sCons (sCst (.str "mill")) sNil))) (sCons (sBi .list (sCons (sSl (sVar 3) none (some (sUn .USub (sCst (.int 1))))) sNil)) (sCons (sBin .Add (sBi .list (sCons (sSl (sVar 3) none (some (sUn .USub (sCst (.int 1))))) sNil)) (sLst (sCons (sCst (.str "Mill")) sNil))) (sCons (sBin .Add (sBi .list (sCons (sSl (sVar 3) none (some (sUn .USub (sCst (.int 1))))) sNil)) (sLst (sCons (sCst (.str "")) sNil))) sNil)))))) (gxName 10) sb_law_5 sNext)
def ls10 : Sm := (sSet 11 (liftM (sBin .Mod (sBi .int (sCons (sCall 2 fn__law_cell (sCons (sVar 0) (sCons (sCst (.int 20)) sNil))) sNil)) (sVar 1))))
def ls11 : Sm := (sPut (sVar 5) (sVar 11) (liftM (sLst (sCons (sLst (sCons (sVar 11) (sCons (sCst (.int 2)) sNil))) sNil))))
def ls12 : Sm := (sRet (liftM (sCall 2 fn__law_same (sCons (sCall 2 fn__law_written (sCons (sLst sNil) (sCons (sVar 5) sNil))) (sCons (sTup (sCons (sCst (.str "BadSigns")) (sCons (sVar 11) sNil))) sNil)))))
theorem ls_eq : sm_law = (sSeq ls0 (sSeq ls1 (sSeq ls2 (sSeq ls3 (sSeq ls4 (sSeq ls5 (sSeq ls6 (sSeq ls7 (sSeq ls8 (sSeq ls9 (sSeq ls10 (sSeq ls11 ls12)))))))))))) := rfl

variable {names : List Str} {signs : List (List (Nat × Int))} {ns : List Int}
theorem size_ix {h : List Cell} (c : Int) : ∃ size : Nat, 1 ≤ size ∧ size ≤ 12 ∧ ixD h (.lst [.int 3, .int 12, .int 5, .int 1, .int 8, .int 2, .int 4, .int 10, .int 6, .int 11, .int 7, .int 9]) (.int (c % 12)) = some (.int size) := by
  have h1 := Int.emod_nonneg c (show (12 : Int) ≠ 0 by decide)
  have h2 := Int.emod_lt_of_pos c (show (0 : Int) < 12 by decide)
  obtain ⟨n, hn⟩ : ∃ n : Nat, c % 12 = n := ⟨(c % 12).toNat, by omega⟩
  rw [hn]
  have hn2 : n < 12 := by omega
  have : n = 0 ∨ n = 1 ∨ n = 2 ∨ n = 3 ∨ n = 4 ∨ n = 5 ∨ n = 6 ∨ n = 7 ∨ n = 8 ∨ n = 9 ∨ n = 10 ∨ n = 11 := by omega
  rw [x_lst]
  rcases this with rfl | rfl | rfl | rfl | rfl | rfl | rfl | rfl | rfl | rfl | rfl | rfl
  · exact ⟨3, by decide, by decide, atI_nat (k := 0) rfl rfl⟩
  · exact ⟨12, by decide, by decide, atI_nat (k := 1) rfl rfl⟩
  · exact ⟨5, by decide, by decide, atI_nat (k := 2) rfl rfl⟩
  · exact ⟨1, by decide, by decide, atI_nat (k := 3) rfl rfl⟩
  · exact ⟨8, by decide, by decide, atI_nat (k := 4) rfl rfl⟩
  · exact ⟨2, by decide, by decide, atI_nat (k := 5) rfl rfl⟩
  · exact ⟨4, by decide, by decide, atI_nat (k := 6) rfl rfl⟩
  · exact ⟨10, by decide, by decide, atI_nat (k := 7) rfl rfl⟩
  · exact ⟨6, by decide, by decide, atI_nat (k := 8) rfl rfl⟩
  · exact ⟨11, by decide, by decide, atI_nat (k := 9) rfl rfl⟩
  · exact ⟨7, by decide, by decide, atI_nat (k := 10) rfl rfl⟩
  · exact ⟨9, by decide, by decide, atI_nat (k := 11) rfl rfl⟩
theorem same_app {h : List Cell} {d : D} (hp : plainD d = true) (hs : shortD d) (hd : dep d < 8) : appF fn__law_same h [d, d] = some (.ok (.bl true)) := app_val (by
  rw [noRefs_cons, noRefs_cons, plain_noRef d hp]; rfl) (law_same_ok hp hs hd)
/-- written over the own rows -/
theorem written_app {row : List Str} {rows : List (List (Nat × Int))} {h : List Cell} {d : D} (e : h[0]? = some (.lst (rows.map encSL))) (hw : fn__law_written [.lst (row.map .str), .lst (rows.map encSL)] = some (.val d)) (hi : immD d = true) : appF fn__law_written h [.lst (row.map .str), .ref 0] = some (.ok d) := by
  have hs : shal h (.ref 0) = .lst (rows.map encSL) := by
    show (match h[0]? with | some (Cell.lst xs) => D.lst xs | _ => .ref 0) = _
    rw [e]
  refine app_imm ?_ ?_ ?_ hi
  · rw [noRefs_cons, noRefs_cons, noRef_lst, noRefs_strs]; rfl
  · show noRefs [.lst (row.map .str), shal h (.ref 0)] = true
    rw [hs, noRefs_cons, noRefs_cons, noRef_lst, noRef_lst, noRefs_strs, noRefs_SL]; rfl
  · show fn__law_written [.lst (row.map .str), shal h (.ref 0)] = _
    rw [hs]; exact hw
theorem imm_strs (row : List Str) : immDs (row.map .str) = true := immDs_map (fun _ => rfl) row
theorem turn4 {t : Str} (ht : t.length + 2 ≤ sizeLine) {ρ : Rho} {h : List Cell} (hi : ρ[9]? = some (some (.str t))) : sb_law_4 ρ h = some (.nx ρ h) := by
  unfold sb_law_4
  rw [m_ifS, told_read ht hi]
  rfl
theorem turn5 (G : Good names signs) {row : List Str} (hz : ∀ w ∈ row, w.length ≤ sizeLine) (hl : row.length ≤ 1000) (hb : ¬ (row.length = signs.length ∧ row.Nodup ∧ row.all nameOk = true)) {ρ : Rho} {h : List Cell} (h5 : ρ[5]? = some (some (.ref 0))) (h10 : ρ[10]? = some (some (.lst (row.map .str)))) (e : h[0]? = some (.lst (signs.map encSL))) : sb_law_5 ρ h = some (.nx ρ h) := by
  have a1 := written_app e (written_bad G hz hl hb) (by show (true && (immDs (row.map D.str) && true)) = true; rw [imm_strs]; rfl)
  have a2 := same_app (h := h) (d := .tup [.str "BadNames", .tup (row.map .str)]) (by show (true && (plainDs (row.map D.str) && true)) = true; rw [plainDs_map (fun _ => rfl)]; rfl) ⟨by show 2 ≤ 1000; decide, trivial, ⟨by rw [List.length_map]; exact hl, shortDs_map (e := D.str) (fun _ => trivial) _⟩, trivial⟩ (by have := depl_strs row; simp only [dep, depl]; omega)
  have a3 : biD .tuple h [.lst (row.map .str)] = some (.tup (row.map .str)) := rfl
  generalize (row.map D.str) = r at *
  simp -implicitDefEqProofs [sb_law_5, h5, h10, a1, a2, a3, ok2]
theorem cut_last (xs : List D) : DL.cutD xs none (some (-1)) = xs.dropLast := by
  unfold DL.cutD
  rw [List.dropLast_eq_take]
  show (xs.drop 0).take ((-1 + (xs.length : Int)).toNat - 0) = _
  rw [List.drop_zero, show (-1 + (xs.length : Int)).toNat - 0 = xs.length - 1 by omega]
theorem law_ok (ns : List Int) : fn_law [.scr ns] = some (.val (.bl true)) := by
  have e0 : fn_law [.scr ns] = (sm_law [some (.scr ns), none, none, none, none, none, none, none, none, none, none, none, none, none] []).bind endD := rfl
  rw [e0, ls_eq]
  -- the web
  obtain ⟨size, z1, z2, hz⟩ := size_ix (h := []) (ns.getD 0 0)
  obtain ⟨signs, w1, w2, w3⟩ := wide_signs_ok (ns := ns) z2
  obtain ⟨names, n1, n2, n3⟩ := law_names_ok (c := ns.getD 13 0) z2
  subst w2
  have G : Good names signs := ⟨n3, n2, z1, z2, w3⟩
  have htl := text_len G
  have c0 : appF fn__law_cell [] [.scr ns, .int 0] = some (.ok (.int (ns.getD 0 0))) := app_val rfl (law_cell_ok (k := 0))
  have c13 : appF fn__law_cell [] [.scr ns, .int 13] = some (.ok (.int (ns.getD 13 0))) := app_val rfl (law_cell_ok (k := 13))
  have c20 : ∀ h : List Cell, appF fn__law_cell h [.scr ns, .int 20] = some (.ok (.int (ns.getD 20 0))) := fun h => app_val rfl (law_cell_ok (k := 20))
  have o12 : ∀ a b c d e f g h i j k l : D, okLen .lst [a, b, c, d, e, f, g, h, i, j, k, l] = some (.ok (.lst [a, b, c, d, e, f, g, h, i, j, k, l])) := fun _ _ _ _ _ _ _ _ _ _ _ _ => okLen_lit rfl
  have s0 : ls0 [some (.scr ns), none, none, none, none, none, none, none, none, none, none, none, none, none] [] = some (.nx [some (.scr ns), some (.int signs.length), none, none, none, none, none, none, none, none, none, none, none, none] []) := by
    generalize ns.getD 0 0 = cc at *
    simp -implicitDefEqProofs [ls0, c0, o12, hz, -x_lst]
  have cW : appF fn__law_wide_signs [] [.scr ns, .int 1, .int signs.length, .int 4] = some (.ok (.tup (signs.map encS))) := app_val rfl w1
  have s1 : ls1 [some (.scr ns), some (.int signs.length), none, none, none, none, none, none, none, none, none, none, none, none] [] = some (.nx [some (.scr ns), some (.int signs.length), some (.tup (signs.map encS)), none, none, none, none, none, none, none, none, none, none, none] []) := by
    simp -implicitDefEqProofs [ls1, cW]
  have cN : appF fn__law_names [] [.int (ns.getD 13 0), .int signs.length] = some (.ok (.tup (names.map .str))) := app_val rfl n1
  have s2 : ls2 [some (.scr ns), some (.int signs.length), some (.tup (signs.map encS)), none, none, none, none, none, none, none, none, none, none, none] [] = some (.nx [some (.scr ns), some (.int signs.length), some (.tup (signs.map encS)), some (.tup (names.map .str)), none, none, none, none, none, none, none, none, none, none] []) := by
    generalize ns.getD 13 0 = cc at *
    simp -implicitDefEqProofs [ls2, c13, cN]
  have cT : appF fn__law_text [] [.tup (names.map .str), .tup (signs.map encS)] = some (.ok (.str (textOf names signs))) := app_val (by
    rw [noRefs_cons, noRefs_cons, noRef_tup, noRef_tup, noRefs_strs, noRefs_S]; rfl) (law_text_ok G)
  have s3 : ls3 [some (.scr ns), some (.int signs.length), some (.tup (signs.map encS)), some (.tup (names.map .str)), none, none, none, none, none, none, none, none, none, none] [] = some (.nx [some (.scr ns), some (.int signs.length), some (.tup (signs.map encS)), some (.tup (names.map .str)), some (.str (textOf names signs)), none, none, none, none, none, none, none, none, none] []) := by
    simp -implicitDefEqProofs [ls3, cT]
  have hL := listed_ok (signs := signs) z2 (fun s hs => (w3 s hs).1)
  have nT : noRefs [D.tup (signs.map encS)] = true := by rw [noRefs_cons, noRef_tup, noRefs_S]; rfl
  have cL : ∀ h : List Cell, appF fn__law_listed_signs h [.tup (signs.map encS)] = some (.ok (.lst (signs.map encSL))) := fun h => app_lst nT hL
  have s4 : ls4 [some (.scr ns), some (.int signs.length), some (.tup (signs.map encS)), some (.tup (names.map .str)), some (.str (textOf names signs)), none, none, none, none, none, none, none, none, none] [] = some (.nx (lf ns signs.length names signs none none none none none none none none) [.lst (signs.map encSL)]) := by
    have cM : appM fn__law_listed_signs [] [.tup (signs.map encS)] = some (.ok (.ref 0) [.lst (signs.map encSL)]) := by
      unfold appM
      rw [if_pos nT, hL]
      rfl
    simp -implicitDefEqProofs [ls4, cM, lf]
  generalize hh : [Cell.lst (signs.map encSL)] = h at s4
  have h0 : h[0]? = some (.lst (signs.map encSL)) := by rw [← hh]; rfl
  -- format_signs tells the text, and keeps the rows
  have s5 : ls5 (lf ns signs.length names signs none none none none none none none none) h = some (.nx (lf ns signs.length names signs none none none none none none none none) h) := by
    have a1 := written_app h0 (written_ok G) rfl
    have a2 := same_app (h := h) (d := .tup [.str "told", .str (textOf names signs)]) rfl ⟨by show 2 ≤ 1000; decide, trivial, trivial, trivial⟩ (by simp only [dep, depl]; omega)
    have a3 := ne_self h0
    have a4 := cL h
    simp -implicitDefEqProofs [ls5, lf, a1, a2, a3, a4, ok2]
  have s6 : ls6 (lf ns signs.length names signs none none none none none none none none) h = some (.nx (lf ns signs.length names signs none none none none none none none none) h) := by
    have a1 : appF fn__law_told h [.str (textOf names signs)] = some (.ok (.tup [.str "told", encR (names, signs)])) := app_val rfl (by
      have := law_told_ok (t := textOf names signs) (by rw [sizeLine_eq]; omega)
      rw [G.read] at this
      exact this)
    have a2 := same_app (h := h) (d := .tup [.str "told", encR (names, signs)]) (by
      show (true && (plainD (encR (names, signs)) && true)) = true
      rw [plain_R]; rfl) ⟨by show 2 ≤ 1000; decide, trivial, short_R (by show names.length ≤ 1000; have := G.len; omega) (by show signs.length ≤ 1000; omega) (fun s hs => G.small s hs), trivial⟩ (by
      have := dep_R (names, signs)
      simp only [dep, depl]
      omega)
    have hE : encR (names, signs) = .tup [.tup (names.map .str), .tup (signs.map encS)] := rfl
    rw [hE] at a1 a2
    simp -implicitDefEqProofs [ls6, lf, a1, a2, ok2]
  -- the changes
  obtain ⟨w6, w7, w8, w9, s7⟩ : ∃ w6 w7 w8 w9, ls7 (lf ns signs.length names signs none none none none none none none none) h = some (.nx (lf ns signs.length names signs w6 w7 w8 w9 none none none none) h) := by
    have hr := li_range1 (l := sCons (sCst (.int 6)) sNil) (ρ := lf ns signs.length names signs none none none none none none none none) (h := h) (j := (6 : Nat)) rfl (by decide) (small62 (by rw [sizeLine_eq]; decide))
    unfold ls7
    rw [sFor_list hr]
    obtain ⟨ρ', h', e, w6, w7, w8, w9, rfl, rfl⟩ := forL_ix (gx := gxName 6) (body := sb_law_3) (fun i ρ h' => ∃ w6 w7 w8 w9, ρ = lf ns signs.length names signs w6 w7 w8 w9 none none none none ∧ h' = h)
      (xs := rngL 0 ((6 : Nat) : Int).toNat) (ρ := lf ns signs.length names signs none none none none none none none none) (h := h)
      (fun i d ρ h' hd ⟨w6, w7, w8, w9, e1, e2⟩ => by
        subst e1 e2
        obtain ⟨hi, rfl⟩ := rng_get hd
        rw [Int.zero_add]
        have hi6 : i < 6 := by simpa using hi
        obtain ⟨u7, u8, u9, e⟩ := law_turn (ns := ns) G (size := signs.length) (v7 := w7) (v8 := w8) (v9 := w9) (v10 := none) (v11 := none) (v12 := none) (v13 := none) hi6 (h := h')
        exact ⟨_, rfl, _, _, .inl e, _, _, _, _, rfl, rfl⟩) ⟨_, _, _, _, rfl, rfl⟩
    exact ⟨w6, w7, w8, w9, e⟩
  -- four texts more
  obtain ⟨u9, s8⟩ : ∃ u9, ls8 (lf ns signs.length names signs w6 w7 w8 w9 none none none none) h = some (.nx (lf ns signs.length names signs w6 w7 w8 u9 none none none none) h) := by
    have hrl := TK.replace_len (textOf names signs) "signs" "sign"
    have l4 : ("sign" : Str).length = 4 := by decide +kernel
    have l1 : ("\n" : Str).length = 1 := lenS1.2.2.2.2.1
    have l1b : (" " : Str).length = 1 := lenS1.2.2.2.1
    rw [l4] at hrl
    have b1 : binD .Add h (.str (textOf names signs)) (.str "\n") = some (.str (textOf names signs ++ ("\n" : Str))) := by
      rw [o_add_ss, if_pos (by rw [l1, sizeLine_eq]; omega)]
    have b2 : binD .Add h (.str (textOf names signs)) (.str " ") = some (.str (textOf names signs ++ (" " : Str))) := by
      rw [o_add_ss, if_pos (by rw [l1b, sizeLine_eq]; omega)]
    let ts : List Str := [textOf names signs ++ ("\n" : Str), textOf names signs ++ (" " : Str), "", Txt.replace (textOf names signs) "signs" "sign"]
    have hts : ∀ t ∈ ts, t.length + 2 ≤ sizeLine := by
      intro t ht
      have l0 : ("" : Str).length = 0 := by decide +kernel
      simp only [ts, List.mem_cons, List.not_mem_nil, or_false] at ht
      rw [sizeLine_eq]
      rcases ht with rfl | rfl | rfl | rfl
      · rw [len_app, l1]; omega
      · rw [len_app, l1b]; omega
      · rw [l0]; decide
      · omega
    have hrp : sRepl (sVar 4) "signs" "sign" (lf ns signs.length names signs w6 w7 w8 w9 none none none none) h = some (.ok (.str (Txt.replace (textOf names signs) "signs" "sign"))) := by
      show (if (textOf names signs).length + ((textOf names signs).length + 1) * ("sign" : Str).length ≤ 16777216 then some (Res.ok (.str (Txt.replace (textOf names signs) "signs" "sign"))) else none) = _
      rw [if_pos (by rw [l4]; omega)]
    have o4 : ∀ a b c d : D, okLen .tup [a, b, c, d] = some (.ok (.tup [a, b, c, d])) := fun _ _ _ _ => okLen_lit rfl
    have hit : sTup (sCons (sBin .Add (sVar 4) (sCst (.str "\n"))) (sCons (sBin .Add (sVar 4) (sCst (.str " "))) (sCons (sCst (.str "")) (sCons (sRepl (sVar 4) "signs" "sign") sNil)))) (lf ns signs.length names signs w6 w7 w8 w9 none none none none) h = some (.ok (.tup (ts.map .str))) := by
      have v4 : (lf ns signs.length names signs w6 w7 w8 w9 none none none none)[4]? = some (some (.str (textOf names signs))) := rfl
      rw [m_tup, m_cons, m_bin, m_var, v4]
      dsimp only
      rw [m_cst, bnd_ok, bnd_ok, b1, vok_some, m_cons, m_bin, m_var, v4]
      dsimp only
      rw [m_cst, bnd_ok, bnd_ok, b2, vok_some, m_cons, m_cst, m_cons, hrp, m_nil, m_consL, m_consL, m_consL, m_consL, bndL_ok, o4]
      rfl
    unfold ls8
    rw [sFor_list (li_tup hit)]
    obtain ⟨ρ', h', e, u9, rfl, rfl⟩ := forL_ix (gx := gxName 9) (body := sb_law_4) (fun i ρ h' => ∃ w9, ρ = lf ns signs.length names signs w6 w7 w8 w9 none none none none ∧ h' = h)
      (xs := ts.map .str) (ρ := lf ns signs.length names signs w6 w7 w8 w9 none none none none) (h := h)
      (fun i d ρ h' hd ⟨w9, e1, e2⟩ => by
        subst e1 e2
        obtain ⟨t, ht, rfl⟩ := map_get hd
        exact ⟨_, rfl, _, _, .inl (turn4 (hts t (List.mem_of_getElem? ht)) rfl), _, rfl, rfl⟩) ⟨_, rfl, rfl⟩
    exact ⟨u9, e⟩
  -- bad names
  obtain ⟨u10, s9⟩ : ∃ u10, ls9 (lf ns signs.length names signs w6 w7 w8 u9 none none none none) h = some (.nx (lf ns signs.length names signs w6 w7 w8 u9 u10 none none none) h) := by
    have hlen := G.len
    let rws : List (List Str) := [names ++ [("mill" : Str)], names.dropLast, names.dropLast ++ [("Mill" : Str)], names.dropLast ++ [("" : Str)]]
    have hlit : ∀ u ∈ (["mill", "Mill", ""] : List Str), u.length ≤ 10 := by decide +kernel
    have hM : nameOk ("Mill" : Str) = false := by decide +kernel
    have hE : nameOk ("" : Str) = false := by decide +kernel
    have hnm : ∀ w ∈ names, w.length ≤ 10 := fun w hw => by have := name_len (G.n.2 w hw); omega
    have hnd : ∀ w ∈ names.dropLast, w.length ≤ 10 := fun w hw => hnm w (List.dropLast_subset _ hw)
    have happ : ∀ (xs : List Str) (u : Str), (∀ w ∈ xs, w.length ≤ 10) → u.length ≤ 10 → ∀ w ∈ xs ++ [u], w.length ≤ sizeLine := fun xs u h1 h2 w hw => by
      rw [sizeLine_eq]
      rcases List.mem_append.mp hw with z | z
      · have := h1 w z; omega
      · rw [List.mem_singleton.mp z]; omega
    have hbad : ∀ (xs : List Str) (u : Str), nameOk u = false → ¬ ((xs ++ [u]).length = signs.length ∧ (xs ++ [u]).Nodup ∧ (xs ++ [u]).all nameOk = true) := fun xs u hu ⟨_, _, h3⟩ => by
      rw [List.all_append] at h3
      simp [hu] at h3
    have hrw : ∀ row ∈ rws, (∀ w ∈ row, w.length ≤ sizeLine) ∧ row.length ≤ 1000 ∧ ¬ (row.length = signs.length ∧ row.Nodup ∧ row.all nameOk = true) := by
      intro row hr
      simp only [rws, List.mem_cons, List.not_mem_nil, or_false] at hr
      rcases hr with rfl | rfl | rfl | rfl
      · exact ⟨happ _ _ hnm (hlit _ (by simp)), by simp; omega, fun ⟨h1, _⟩ => by simp at h1; omega⟩
      · exact ⟨fun w hw => by have := hnd w hw; rw [sizeLine_eq]; omega, by rw [List.length_dropLast]; omega, fun ⟨h1, _⟩ => by rw [List.length_dropLast] at h1; omega⟩
      · exact ⟨happ _ _ hnd (hlit _ (by simp)), by simp; omega, hbad _ _ hM⟩
      · exact ⟨happ _ _ hnd (hlit _ (by simp)), by simp; omega, hbad _ _ hE⟩
    have v3 : (lf ns signs.length names signs w6 w7 w8 u9 none none none none)[3]? = some (some (.tup (names.map .str))) := rfl
    have bl : ∀ xs : List D, biD .list h [.tup xs] = some (.lst xs) := fun _ => rfl
    have sl : slD h (.tup (names.map .str)) none (some (-1)) = some (.tup (names.dropLast.map .str)) := by
      show some (D.tup (DL.cutD (names.map D.str) none (some (-1)))) = _
      rw [cut_last, ← List.map_dropLast]
    have ad : ∀ (xs : List Str) (u : Str), xs.length ≤ 12 → binD .Add h (.lst (xs.map .str)) (.lst [.str u]) = some (.lst ((xs ++ [u]).map .str)) := fun xs u hx => by
      rw [o_add_ll, if_pos (by rw [List.length_map, sizeLine_eq]; show xs.length + 1 ≤ _; omega), List.map_append]; rfl
    have a1 := ad names "mill" (by omega)
    have a2 := ad names.dropLast "Mill" (by rw [List.length_dropLast]; omega)
    have a3 := ad names.dropLast "" (by rw [List.length_dropLast]; omega)
    have o4 : ∀ a b c d : D, okLen .tup [a, b, c, d] = some (.ok (.tup [a, b, c, d])) := fun _ _ _ _ => okLen_lit rfl
    have hit : sTup (sCons (sBin .Add (sBi .list (sCons (sVar 3) sNil)) (sLst (sCons (sCst (.str "mill")) sNil))) (sCons (sBi .list (sCons (sSl (sVar 3) none (some (sUn .USub (sCst (.int 1))))) sNil)) (sCons (sBin .Add (sBi .list (sCons (sSl (sVar 3) none (some (sUn .USub (sCst (.int 1))))) sNil)) (sLst (sCons (sCst (.str "Mill")) sNil))) (sCons (sBin .Add (sBi .list (sCons (sSl (sVar 3) none (some (sUn .USub (sCst (.int 1))))) sNil)) (sLst (sCons (sCst (.str "")) sNil))) sNil)))) (lf ns signs.length names signs w6 w7 w8 u9 none none none none) h = some (.ok (.tup (rws.map fun row => .lst (row.map .str)))) := by
      show _ = some (Res.ok (.tup [.lst ((names ++ [("mill" : Str)]).map .str), .lst (names.dropLast.map .str), .lst ((names.dropLast ++ [("Mill" : Str)]).map .str), .lst ((names.dropLast ++ [("" : Str)]).map .str)]))
      generalize ((names ++ [("mill" : Str)]).map D.str) = q1 at *
      generalize ((names.dropLast ++ [("Mill" : Str)]).map D.str) = q2 at *
      generalize ((names.dropLast ++ [("" : Str)]).map D.str) = q3 at *
      generalize (names.dropLast.map D.str) = q4 at *
      simp -implicitDefEqProofs [v3, bl, sl, a1, a2, a3, o4, ok1, -o_add_ll]
    unfold ls9
    rw [sFor_list (li_tup hit)]
    obtain ⟨ρ', h', e, u10, rfl, rfl⟩ := forL_ix (gx := gxName 10) (body := sb_law_5) (fun i ρ h' => ∃ w10, ρ = lf ns signs.length names signs w6 w7 w8 u9 w10 none none none ∧ h' = h)
      (xs := rws.map fun row => .lst (row.map .str)) (ρ := lf ns signs.length names signs w6 w7 w8 u9 none none none none) (h := h)
      (fun i d ρ h' hd ⟨w10, e1, e2⟩ => by
        subst e1 e2
        obtain ⟨row, hr, rfl⟩ := map_get hd
        obtain ⟨k1, k2, k3⟩ := hrw row (List.mem_of_getElem? hr)
        exact ⟨_, rfl, _, _, .inl (turn5 G k1 k2 k3 rfl rfl h0), _, rfl, rfl⟩) ⟨_, rfl, rfl⟩
    exact ⟨u10, e⟩
  -- a bad row
  obtain ⟨house, hho⟩ : ∃ n : Nat, ns.getD 20 0 % (signs.length : Int) = n := ⟨(ns.getD 20 0 % (signs.length : Int)).toNat, by have := Int.emod_nonneg (ns.getD 20 0) (show (signs.length : Int) ≠ 0 by omega); omega⟩
  have hhl : house < signs.length := by have := Int.emod_lt_of_pos (ns.getD 20 0) (show (0 : Int) < (signs.length : Int) by omega); omega
  have s10 : ls10 (lf ns signs.length names signs w6 w7 w8 u9 u10 none none none) h = some (.nx (lf ns signs.length names signs w6 w7 w8 u9 u10 (some (.int house)) none none) h) := by
    have hmod : binD .Mod h (.int (ns.getD 20 0)) (.int signs.length) = some (.int house) := by rw [o_mod_ii, if_pos (by omega), hho]
    have c20 := c20 h
    generalize ns.getD 20 0 = cc at *
    simp -implicitDefEqProofs [ls10, lf, c20, hmod, -o_mod_ii]
  let rows := signs.set house [(house, 2)]
  have hrl : rows.length = signs.length := List.length_set
  have s11 : ls11 (lf ns signs.length names signs w6 w7 w8 u9 u10 (some (.int house)) none none) h = some (.nx (lf ns signs.length names signs w6 w7 w8 u9 u10 (some (.int house)) none none) [.lst (rows.map encSL)]) := by
    have p := put_ok (ρ := lf ns signs.length names signs w6 w7 w8 u9 u10 (some (.int house)) none none) (d := .lst [.lst [.int house, .int 2]]) h0 (i := house) (k := house) rfl (by rw [List.length_map]; exact hhl)
    have e1 : (signs.map encSL).set house (.lst [.lst [.int house, .int 2]]) = rows.map encSL := map_set' encSL signs house [(house, 2)]
    rw [e1] at p
    have e2 : h.set 0 (.lst (rows.map encSL)) = [.lst (rows.map encSL)] := by rw [← hh]; rfl
    rw [e2] at p
    have v11 : (lf ns signs.length names signs w6 w7 w8 u9 u10 (some (.int house)) none none)[11]? = some (some (.int house)) := rfl
    have v5 : (lf ns signs.length names signs w6 w7 w8 u9 u10 (some (.int house)) none none)[5]? = some (some (.ref 0)) := rfl
    simp -implicitDefEqProofs [ls11, v11, v5, ok1, ok2, p]
  have hfi : rows.findIdx? (fun s => !rowB rows.length s) = some house := by
    rw [List.findIdx?_eq_some_iff_getElem]
    refine ⟨by rw [hrl]; exact hhl, ?_, fun j hj => ?_⟩
    · have : rows[house]'(by rw [hrl]; exact hhl) = [(house, 2)] := List.getElem_set_self _
      rw [this]
      unfold rowB
      have : ([(house, (2 : Int))] : List (Nat × Int)).all signB = false := by simp [signB]
      rw [this]
      simp
    · have hj2 : j < signs.length := by omega
      have : rows[j]'(by rw [hrl]; exact hj2) = signs[j] := List.getElem_set_ne (by omega) _
      rw [this, hrl, rowB_of (w3 _ (List.getElem_mem hj2))]
      simp
  have hsm : ∀ s ∈ rows, s.length ≤ 1000 := fun s hs => by
    rcases List.mem_or_eq_of_mem_set hs with z | z
    · exact G.small s z
    · rw [z]; show 1 ≤ 1000; decide
  have s12 : ls12 (lf ns signs.length names signs w6 w7 w8 u9 u10 (some (.int house)) none none) [.lst (rows.map encSL)] = some (.rt (.val (.bl true))) := by
    have a1 := written_app (row := []) (h := [.lst (rows.map encSL)]) rfl (written_badS (by omega) (by omega) hsm hfi) rfl
    have a2 := same_app (h := [.lst (rows.map encSL)]) (d := .tup [.str "BadSigns", .int house]) rfl ⟨by show 2 ≤ 1000; decide, trivial, trivial, trivial⟩ (by simp only [dep, depl]; omega)
    have o0 : okLen .lst [] = some (.ok (.lst [])) := okLen_lit rfl
    have hr : ∀ h : List Cell, retD h (.bl true) = some (.rt (.val (.bl true))) := fun h => ret_val rfl (by decide)
    generalize [Cell.lst (rows.map encSL)] = h2 at *
    have a1' : appF fn__law_written h2 [.lst [], .ref 0] = some (.ok (.tup [.str "BadSigns", .int house])) := a1
    simp -implicitDefEqProofs [ls12, lf, a1', a2, o0, ok2, hr]
  rw [m_seq, s0]
  dsimp only
  rw [m_seq, s1]
  dsimp only
  rw [m_seq, s2]
  dsimp only
  rw [m_seq, s3]
  dsimp only
  rw [m_seq, s4]
  dsimp only
  rw [m_seq, s5]
  dsimp only
  rw [m_seq, s6]
  dsimp only
  rw [m_seq, s7]
  dsimp only
  rw [m_seq, s8]
  dsimp only
  rw [m_seq, s9]
  dsimp only
  rw [m_seq, s10]
  dsimp only
  rw [m_seq, s11]
  dsimp only
  rw [s12]
  rfl
theorem holds : PySem.Challenge.rw_signsandrests_k75_texts_of_signed_webs.Holds := holds_of fun ns _ _ => law_ok ns
end K75

theorem PySem.Challenge.cw_signsandrests_k75_texts_of_signed_webs_holds : PySem.Challenge.rw_signsandrests_k75_texts_of_signed_webs.Holds := by
  exact K75.holds
