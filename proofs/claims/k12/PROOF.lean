import PyProof.Rows.All
import Wide.All
import OpenK.AllK
import Wide.FinOn
import PyProof.EqAt
import PyProof.EqKinds
import PyProof.TupleCall
import HandS.ForMost
import HandS.HeadHook1
import HandS.Exc
import HandS.ExcOwn
import HandS.TryMany
import HandS.CallSlots
import HandS.ExcInit
import HandS.ExcIs
import HandS.IsInst
import HandS.WordsExc
import HandS.Wide
import HandS.Style
import HandS.Flow
import HandS.TupAny
import HandS.NoneIn
import HandS.Conv
import KE.KExcIs
import HandS.HeadHook4
import HandS.Head2
import HandS.HeadEnd
import HandS.TupMul
import HandS.More
import HandS.Zip
import PySem.Challenge.RW_wiresay_k12_systems_and_tidy_rows
set_option Elab.async false
set_option linter.all false
set_option maxRecDepth 100000
set_option maxHeartbeats 4000000
/-! L0: a layer over HandS in which immutable data are trees and mutable objects stand in a numbered store; programs become functions. -/
namespace Lay
abbrev St := L2.St
open PySem PySem.Spec PyProof.Rows L2

/-- data: immutable things as trees; ref n: the n-th object of the store; exn c ds: an exception object of the c-th class, its fields -/
inductive D where
  | non | bl (b : Bool) | int (i : Int) | str (x : Str) | tup (ds : List D) | ref (n : Nat) | exn (c : Nat) (ds : List D)

/-- what stands in the store -/
inductive SO where
  | lst (ds : List D)
  | ro (ds : List D)
  | dct (kvs : List (Key × D))
  | dlk (kvs : List (Key × D))
abbrev Store := List SO
/-- a raised exception: its class's number, its fields -/
structure Ex where
  c : Nat
  ds : List D
inductive Res (α : Type) where
  | ok (a : α) (S : Store)
  | exc (e : Ex) (S : Store)
  | bad
abbrev M (α : Type) := Store → Res α
/-- a class of the program -/
structure Cls where
  name : Str
  flds : List Str
  sups : List Nat
structure Ctx where
  K : PySem.W.Frag
  T : List Cls
def Ctx.addr (C : Ctx) (c : Nat) : Addr := match C.T[c]? with
  | some q => He.ga C.K q.name
  | none => 0
def Ctx.flds (C : Ctx) (c : Nat) : List Str := match C.T[c]? with
  | some q => q.flds
  | none => []
/-- an exception object of the class cls, its dict d, at a -/
def ExV (cls : Value) (d : Option Addr) (a : Addr) : HO := .ext fun h => ∃ (oe : Obj) (vs : Array Value), h.get? a = some oe ∧ Zc cls d oe ∧ oe.data = .fields vs
/-- what is kept for ever -/
def Fix : HO → Prop
  | .tup _ => True
  | .frz _ _ => True
  | .ext _ => True
  | .xd _ => True
  | _ => False
/-- the state has grown: more numbered objects; what is fixed stands -/
structure Le (ρ : List Addr) (H : Hp) (ρ' : List Addr) (H' : Hp) : Prop where
  ext : ∃ t, ρ' = ρ ++ t
  fix : ∀ a o, H a = some o → Fix o → H' a = some o
theorem Le.refl {ρ : List Addr} {H : Hp} : Le ρ H ρ H := ⟨⟨[], by simp⟩, fun _ _ h _ => h⟩
theorem Le.trans {ρ ρ1 ρ2 : List Addr} {H H1 H2 : Hp} (x : Le ρ H ρ1 H1) (y : Le ρ1 H1 ρ2 H2) : Le ρ H ρ2 H2 := by
  obtain ⟨⟨t, e⟩, f⟩ := x
  obtain ⟨⟨u, e'⟩, f'⟩ := y
  exact ⟨⟨t ++ u, by rw [e', e, List.append_assoc]⟩, fun a o h z => f' a o (f a o h z) z⟩
theorem Le.at {ρ ρ' : List Addr} {H H' : Hp} (x : Le ρ H ρ' H') {n : Nat} {a : Addr} (h : ρ[n]? = some a) : ρ'[n]? = some a := by
  obtain ⟨⟨t, e⟩, _⟩ := x
  rw [e, List.getElem?_append_left (List.getElem?_eq_some_iff.mp h).1]
  exact h
theorem Le.lock {ρ : List Addr} {H : Hp} {a : Addr} {o : HO} (hn : ∀ o', H a = some o' → ¬ Fix o') : Le ρ H ρ (upd H a o) :=
  ⟨⟨[], by simp⟩, fun b u h z => by
    have hb : b ≠ a := fun e => by subst e; exact hn u h z
    rw [upd_ne hb]; exact h⟩
theorem Le.new {ρ : List Addr} {H : Hp} {a : Addr} {o : HO} (hn : H a = none) : Le ρ H ρ (upd H a o) := Le.lock fun o' h => by rw [hn] at h; cases h
theorem Le.newR {ρ : List Addr} {H : Hp} {a : Addr} {o : HO} (hn : H a = none) : Le ρ H (ρ ++ [a]) (upd H a o) := ⟨⟨[a], rfl⟩, (Le.new (ρ := ρ) hn).fix⟩

/-- an exception's own dict holds its fields -/
def DictOk (flds : List Str) (H : Hp) (d : Option Addr) (xs : List V) : Prop :=
  xs.length = flds.length ∧ ((flds = [] ∧ d = none) ∨ ∃ dd fs, d = some dd ∧ H dd = some (.xd fs) ∧ ∀ (i : Nat) f, flds[i]? = some f → fs.lookup f = xs[i]?)
theorem DictOk.le {flds : List Str} {ρ ρ' : List Addr} {H H' : Hp} {d : Option Addr} {xs : List V} (l : Le ρ H ρ' H') (h : DictOk flds H d xs) : DictOk flds H' d xs := by
  obtain ⟨hl, h⟩ := h
  refine ⟨hl, ?_⟩
  rcases h with h | ⟨dd, fs, e1, e2, e3⟩
  · exact .inl h
  · exact .inr ⟨dd, fs, e1, l.fix _ _ e2 trivial, e3⟩
mutual
def Rep (C : Ctx) (ρ : List Addr) (H : Hp) : D → V → Prop
  | .non, v => v = .non
  | .bl b, v => v = .bl b
  | .int i, v => v = .int i
  | .str x, v => v = .str x
  | .tup ds, v => ∃ a xs, v = .ref a ∧ SqT C.K H a xs ∧ Reps C ρ H ds xs
  | .ref n, v => ∃ a, ρ[n]? = some a ∧ v = .ref a
  | .exn c ds, v => ∃ a d xs, v = .ref a ∧ c < C.T.length ∧ H a = some (ExV (.ref (C.addr c)) d a) ∧
      DictOk (C.flds c) H d xs ∧ Reps C ρ H ds xs
def Reps (C : Ctx) (ρ : List Addr) (H : Hp) : List D → List V → Prop
  | [], xs => xs = []
  | d :: ds, xs => ∃ v vs, xs = v :: vs ∧ Rep C ρ H d v ∧ Reps C ρ H ds vs
end
theorem SqT.le {K : PySem.W.Frag} {ρ ρ' : List Addr} {H H' : Hp} {a : Addr} {xs : List V} (l : Le ρ H ρ' H') (h : SqT K H a xs) : SqT K H' a xs := by
  rcases h with (h | ⟨o, h⟩) | h
  · exact .inl (.inl (l.fix _ _ h trivial))
  · exact .inl (.inr ⟨o, l.fix _ _ h trivial⟩)
  · exact .inr h
section
variable {C : Ctx} {ρ ρ' : List Addr} {H H' : Hp}
mutual
theorem Rep.le (l : Le ρ H ρ' H') : ∀ {d : D} {v : V}, Rep C ρ H d v → Rep C ρ' H' d v
  | .non, v, h => by simpa only [Rep] using h
  | .bl b, v, h => by simpa only [Rep] using h
  | .int i, v, h => by simpa only [Rep] using h
  | .str x, v, h => by simpa only [Rep] using h
  | .tup ds, v, h => by
    simp only [Rep] at h ⊢
    obtain ⟨a, xs, e, s, r⟩ := h
    exact ⟨a, xs, e, SqT.le l s, Reps.le l r⟩
  | .ref n, v, h => by
    simp only [Rep] at h ⊢
    obtain ⟨a, e, h⟩ := h
    exact ⟨a, l.at e, h⟩
  | .exn c ds, v, h => by
    simp only [Rep] at h ⊢
    obtain ⟨a, d, xs, e, hc, ha, hd, r⟩ := h
    exact ⟨a, d, xs, e, hc, l.fix _ _ ha trivial, hd.le l, Reps.le l r⟩
theorem Reps.le (l : Le ρ H ρ' H') : ∀ {ds : List D} {vs : List V}, Reps C ρ H ds vs → Reps C ρ' H' ds vs
  | [], vs, h => by simpa only [Reps] using h
  | d :: ds, vs, h => by
    simp only [Reps] at h ⊢
    obtain ⟨v, ws, e, r, t⟩ := h
    exact ⟨v, ws, e, Rep.le l r, Reps.le l t⟩
end
theorem Reps.nil : Reps C ρ H [] [] := by simp only [Reps]
theorem Reps.cons {d : D} {v : V} {ds : List D} {vs : List V} (r : Rep C ρ H d v) (t : Reps C ρ H ds vs) : Reps C ρ H (d :: ds) (v :: vs) := by
  simp only [Reps]; exact ⟨v, vs, rfl, r, t⟩
theorem Reps.inv {d : D} {ds : List D} {xs : List V} (h : Reps C ρ H (d :: ds) xs) : ∃ v vs, xs = v :: vs ∧ Rep C ρ H d v ∧ Reps C ρ H ds vs := by
  simpa only [Reps] using h
theorem Reps.nil_inv {xs : List V} (h : Reps C ρ H [] xs) : xs = [] := by simpa only [Reps] using h
theorem Reps.length : ∀ {ds : List D} {vs : List V}, Reps C ρ H ds vs → ds.length = vs.length
  | [], vs, h => by rw [h.nil_inv] <;> rfl
  | d :: ds, vs, h => by
    obtain ⟨v, ws, rfl, r, t⟩ := h.inv
    simp [Reps.length t]
theorem Reps.get : ∀ {ds : List D} {vs : List V} {i : Nat} {d : D}, Reps C ρ H ds vs → ds[i]? = some d → ∃ v, vs[i]? = some v ∧ Rep C ρ H d v
  | [], vs, i, d, h, e => by simp at e
  | x :: ds, vs, i, d, h, e => by
    obtain ⟨v, ws, rfl, r, t⟩ := h.inv
    cases i with
    | zero => simp at e; subst e; exact ⟨v, rfl, r⟩
    | succ i => obtain ⟨w, h1, h2⟩ := Reps.get (i := i) t (by simpa using e); exact ⟨w, by simpa using h1, h2⟩
theorem Reps.append : ∀ {ds es : List D} {vs ws : List V}, Reps C ρ H ds vs → Reps C ρ H es ws → Reps C ρ H (ds ++ es) (vs ++ ws)
  | [], es, vs, ws, h, t => by rw [h.nil_inv]; exact t
  | d :: ds, es, vs, ws, h, t => by
    obtain ⟨v, us, rfl, r, q⟩ := h.inv
    exact Reps.cons r (Reps.append q t)
theorem Reps.set : ∀ {ds : List D} {vs : List V} {d : D} {v : V} (i : Nat), Rep C ρ H d v → Reps C ρ H ds vs → Reps C ρ H (ds.set i d) (vs.set i v)
  | [], vs, d, v, i, r, h => by rw [h.nil_inv]; exact Reps.nil
  | x :: ds, vs, d, v, i, r, h => by
    obtain ⟨w, us, rfl, q, t⟩ := h.inv
    cases i with
    | zero => exact Reps.cons r t
    | succ i => exact Reps.cons q (Reps.set i r t)
theorem Reps.take : ∀ {ds : List D} {vs : List V} (n : Nat), Reps C ρ H ds vs → Reps C ρ H (ds.take n) (vs.take n)
  | ds, vs, 0, h => by simp [Reps]
  | [], vs, n + 1, h => by rw [h.nil_inv]; exact Reps.nil
  | d :: ds, vs, n + 1, h => by
    obtain ⟨w, us, rfl, q, t⟩ := h.inv
    exact Reps.cons q (Reps.take n t)
theorem Reps.drop : ∀ {ds : List D} {vs : List V} (n : Nat), Reps C ρ H ds vs → Reps C ρ H (ds.drop n) (vs.drop n)
  | ds, vs, 0, h => h
  | [], vs, n + 1, h => by rw [h.nil_inv]; exact Reps.nil
  | d :: ds, vs, n + 1, h => by
    obtain ⟨w, us, rfl, q, t⟩ := h.inv
    exact Reps.drop n t
theorem Reps.eraseIdx : ∀ {ds : List D} {vs : List V} (n : Nat), Reps C ρ H ds vs → Reps C ρ H (ds.eraseIdx n) (vs.eraseIdx n)
  | [], vs, n, h => by rw [h.nil_inv]; exact Reps.nil
  | d :: ds, vs, n, h => by
    obtain ⟨w, us, rfl, q, t⟩ := h.inv
    cases n with
    | zero => exact t
    | succ n => exact Reps.cons q (Reps.eraseIdx n t)
theorem Reps.reverse {ds : List D} {vs : List V} (h : Reps C ρ H ds vs) : Reps C ρ H ds.reverse vs.reverse := by
  induction ds generalizing vs with
  | nil => rw [h.nil_inv]; exact Reps.nil
  | cons d ds ih =>
    obtain ⟨w, us, rfl, q, t⟩ := h.inv
    rw [List.reverse_cons, List.reverse_cons]
    exact Reps.append (ih t) (Reps.cons q Reps.nil)
end

/-! ### the store -/
def KReps (C : Ctx) (ρ : List Addr) (H : Hp) (kvs : List (Key × D)) (ws : List (Key × V)) : Prop := Paired (fun (p : Key × D) (q : Key × V) => p.1 = q.1 ∧ Rep C ρ H p.2 q.2) kvs ws
theorem KReps.le {C : Ctx} {ρ ρ' : List Addr} {H H' : Hp} (l : Le ρ H ρ' H') {kvs : List (Key × D)} {ws : List (Key × V)} (h : KReps C ρ H kvs ws) : KReps C ρ' H' kvs ws :=
  Paired.mapP h fun _ _ z => ⟨z.1, z.2.le l⟩
/-- a list of the written part -/
def KL (K : PySem.W.Frag) (a : Addr) (xs : List V) : Prop :=
  ∃ (o : Obj) (its : Array Value) (n : Nat), K.lookup a = some o ∧ o.cls = .type "list" ∧ o.dict = none ∧ o.data = .seq its n ∧ its.size ≤ sizeLine ∧ Vals xs its.toList
def RepO (C : Ctx) (ρ : List Addr) (H : Hp) (a : Addr) : SO → Prop
  | .lst ds => ∃ xs, H a = some (.lst xs) ∧ Reps C ρ H ds xs
  | .ro ds => ∃ xs, ((∃ o, H a = some (.frz o (.lst xs))) ∨ KL C.K a xs) ∧ Reps C ρ H ds xs
  | .dct kvs => ∃ ws, H a = some (.dK ws) ∧ KReps C ρ H kvs ws
  | .dlk kvs => ∃ ws o, H a = some (.frz o (.dK ws)) ∧ KReps C ρ H kvs ws
def SO.isRo : SO → Bool
  | .ro _ => true
  | _ => false
structure SRep (C : Ctx) (ρ : List Addr) (H : Hp) (S : Store) : Prop where
  len : ρ.length = S.length
  inj : ∀ (i j : Nat) a o u, ρ[i]? = some a → ρ[j]? = some a → S[i]? = some o → S[j]? = some u → o.isRo = false → u.isRo = false → i = j
  at_ : ∀ (n : Nat) a o, ρ[n]? = some a → S[n]? = some o → RepO C ρ H a o
section
variable {C : Ctx} {ρ ρ' : List Addr} {H H' : Hp} {S : Store}
/-- an object of the store under growth -/
theorem RepO.le {a : Addr} {o : SO} (l : Le ρ H ρ' H') (e : o.isRo = true ∨ H' a = H a) (h : RepO C ρ H a o) : RepO C ρ' H' a o := by
  cases o with
  | lst ds => obtain ⟨xs, h1, h2⟩ := h; rcases e with e | e; cases e; exact ⟨xs, e.trans h1, h2.le l⟩
  | ro ds =>
    obtain ⟨xs, h1, h2⟩ := h
    refine ⟨xs, ?_, h2.le l⟩
    rcases h1 with ⟨o, h1⟩ | h1
    · exact .inl ⟨o, l.fix _ _ h1 trivial⟩
    · exact .inr h1
  | dct kvs => obtain ⟨ws, h1, h2⟩ := h; rcases e with e | e; cases e; exact ⟨ws, e.trans h1, h2.le l⟩
  | dlk kvs => obtain ⟨ws, o, h1, h2⟩ := h; rcases e with e | e; cases e; exact ⟨ws, o, e.trans h1, h2.le l⟩
theorem RepO.some {a : Addr} {o : SO} (h : RepO C ρ H a o) (e : o.isRo = false) : H a ≠ none := by
  cases o with
  | lst ds => obtain ⟨xs, h1, h2⟩ := h; rw [h1]; simp
  | ro ds => cases e
  | dct kvs => obtain ⟨ws, h1, h2⟩ := h; rw [h1]; simp
  | dlk kvs => obtain ⟨ws, o, h1, h2⟩ := h; rw [h1]; simp
theorem isRo_or (o : SO) : o.isRo = true ∨ o.isRo = false := by cases o <;> simp [SO.isRo]
/-- a new object of the abstract heap, not of the store -/
theorem SRep.free {p : Addr} {o : HO} (r : SRep C ρ H S) (hn : H p = none) : SRep C ρ (upd H p o) S := by
  refine ⟨r.len, r.inj, fun n a so h1 h2 => ?_⟩
  have z := r.at_ n a so h1 h2
  refine z.le (Le.new hn) ?_
  rcases isRo_or so with q | q
  · exact .inl q
  · exact .inr (upd_ne fun e => z.some q (e ▸ hn))
/-- a new object of the store -/
theorem SRep.push {p : Addr} {o : HO} {so : SO} (r : SRep C ρ H S) (hn : H p = none) (new : RepO C (ρ ++ [p]) (upd H p o) p so) : SRep C (ρ ++ [p]) (upd H p o) (S ++ [so]) := by
  have key : ∀ (n : Nat) a u, (ρ ++ [p])[n]? = some a → (S ++ [so])[n]? = some u → (n < ρ.length ∧ ρ[n]? = some a ∧ S[n]? = some u) ∨ (n = ρ.length ∧ a = p ∧ u = so) := by
    intro n a u h1 h2
    by_cases hl : n < ρ.length
    · rw [List.getElem?_append_left hl] at h1
      rw [List.getElem?_append_left (by rw [← r.len]; exact hl)] at h2
      exact .inl ⟨hl, h1, h2⟩
    · have hl2 : n < (ρ ++ [p]).length := (List.getElem?_eq_some_iff.mp h1).1
      rw [List.length_append, List.length_singleton] at hl2
      have e : n = ρ.length := by omega
      subst e
      rw [List.getElem?_append_right (Nat.le_refl _)] at h1
      rw [r.len, List.getElem?_append_right (Nat.le_refl _)] at h2
      simp at h1 h2
      exact .inr ⟨rfl, h1.symm, h2.symm⟩
  have old : ∀ (n : Nat) a u, ρ[n]? = some a → S[n]? = some u → u.isRo = false → a ≠ p := fun n a u h1 h2 h3 e => (r.at_ n a u h1 h2).some h3 (e ▸ hn)
  refine ⟨by simp [r.len], fun i j a x y h1 h2 h3 h4 h5 h6 => ?_, fun n a u h1 h2 => ?_⟩
  · rcases key i a x h1 h3 with ⟨q1, q2, q3⟩ | ⟨q1, q2, q3⟩
    · rcases key j a y h2 h4 with ⟨p1, p2, p3⟩ | ⟨p1, p2, p3⟩
      · exact r.inj i j a x y q2 p2 q3 p3 h5 h6
      · exact absurd p2 (old i a x q2 q3 h5)
    · rcases key j a y h2 h4 with ⟨p1, p2, p3⟩ | ⟨p1, p2, p3⟩
      · exact absurd q2 (old j a y p2 p3 h6)
      · omega
  · rcases key n a u h1 h2 with ⟨q1, q2, q3⟩ | ⟨q1, q2, q3⟩
    · have z := r.at_ n a u q2 q3
      refine z.le (Le.newR hn) ?_
      rcases isRo_or u with w | w
      · exact .inl w
      · exact .inr (upd_ne (old n a u q2 q3 w))
    · subst q2 q3
      exact new
/-- an object of the store is written -/
theorem SRep.write {n : Nat} {a : Addr} {o : HO} {so so' : SO} (r : SRep C ρ H S) (hρ : ρ[n]? = some a) (hS : S[n]? = some so) (h1 : so.isRo = false) (l : Le ρ H ρ (upd H a o)) (new : RepO C ρ (upd H a o) a so') : SRep C ρ (upd H a o) (S.set n so') := by
  have hn : n < S.length := (List.getElem?_eq_some_iff.mp hS).1
  have key : ∀ (i : Nat) u, (S.set n so')[i]? = some u → (i ≠ n ∧ S[i]? = some u) ∨ (i = n ∧ u = so') := by
    intro i u h
    by_cases e : i = n
    · subst e
      rw [List.getElem?_set_self hn] at h
      exact .inr ⟨rfl, (Option.some.inj h).symm⟩
    · rw [List.getElem?_set_ne (Ne.symm e)] at h
      exact .inl ⟨e, h⟩
  refine ⟨by simp [r.len], fun i j b x y e1 e2 e3 e4 e5 e6 => ?_, fun i b u e1 e2 => ?_⟩
  · rcases key i x e3 with ⟨q1, q2⟩ | ⟨q1, q2⟩
    · rcases key j y e4 with ⟨p1, p2⟩ | ⟨p1, p2⟩
      · exact r.inj i j b x y e1 e2 q2 p2 e5 e6
      · subst p1
        exact r.inj i j b x so e1 e2 q2 hS e5 h1
    · rcases key j y e4 with ⟨p1, p2⟩ | ⟨p1, p2⟩
      · subst q1
        exact r.inj i j b so y e1 e2 hS p2 h1 e6
      · omega
  · rcases key i u e2 with ⟨q1, q2⟩ | ⟨q1, q2⟩
    · have z := r.at_ i b u e1 q2
      refine z.le l ?_
      rcases isRo_or u with w | w
      · exact .inl w
      · refine .inr (upd_ne fun e => q1 ?_)
        subst e
        exact r.inj i n b u so e1 hρ q2 hS w h1
    · subst q1 q2
      rw [hρ] at e1
      cases e1
      exact new
end

/-! ### slots, ends -/
abbrev SD := List (Option D)
structure Slots (C : Ctx) (ρ : List Addr) (H : Hp) (sd : SD) (σ : St) : Prop where
  len : sd.length = σ.length
  at_ : ∀ (i : Nat) d, sd[i]? = some (some d) → ∃ v, σ[i]? = some (some v) ∧ Rep C ρ H d v
theorem Slots.le {C : Ctx} {ρ ρ' : List Addr} {H H' : Hp} {sd : SD} {σ : St} (l : Le ρ H ρ' H') (h : Slots C ρ H sd σ) : Slots C ρ' H' sd σ :=
  ⟨h.len, fun i d e => let ⟨v, e1, r⟩ := h.at_ i d e; ⟨v, e1, r.le l⟩⟩
theorem Slots.set {C : Ctx} {ρ : List Addr} {H : Hp} {sd : SD} {σ : St} {i : Nat} {d : D} {v : V} (h : Slots C ρ H sd σ) (r : Rep C ρ H d v) : Slots C ρ H (sd.set i (some d)) (σ.set i (some v)) := by
  refine ⟨by simp [h.len], fun j e q => ?_⟩
  by_cases hj : j = i
  · subst hj
    have hl : j < sd.length := by
      have := (List.getElem?_eq_some_iff.mp q).1
      simpa using this
    rw [List.getElem?_set_self hl] at q
    cases q
    exact ⟨v, by rw [List.getElem?_set_self (by rw [← h.len]; exact hl)], r⟩
  · rw [List.getElem?_set_ne (Ne.symm hj)] at q
    obtain ⟨w, e1, r1⟩ := h.at_ j e q
    exact ⟨w, by rw [List.getElem?_set_ne (Ne.symm hj)]; exact e1, r1⟩
/-- an exception that flies: its class's object, its dict -/
def ExRep (C : Ctx) (ρ : List Addr) (H : Hp) (e : Ex) (cls : Value) (d : Option Addr) : Prop :=
  e.c < C.T.length ∧ cls = .ref (C.addr e.c) ∧ ∃ xs, DictOk (C.flds e.c) H d xs ∧ Reps C ρ H e.ds xs
theorem ExRep.le {C : Ctx} {ρ ρ' : List Addr} {H H' : Hp} {e : Ex} {cls : Value} {d : Option Addr} (l : Le ρ H ρ' H') (h : ExRep C ρ H e cls d) : ExRep C ρ' H' e cls d := by
  obtain ⟨h1, h2, xs, h4, h5⟩ := h
  exact ⟨h1, h2, xs, h4.le l, h5.le l⟩
/-- what a result means -/
def EndR {α β : Type} (C : Ctx) (W : WX) (σ : St) (ρ : List Addr) (H : Hp) (RA : α → β → List Addr → Hp → Prop) (r : Res α) (Q : β → Hp → Prop) : Prop :=
  match r with
  | .ok a S' => ∀ b ρ' H', Le ρ H ρ' H' → SRep C ρ' H' S' → RA a b ρ' H' → Q b H'
  | .exc e S' => ∀ cls d ρ' H', Le ρ H ρ' H' → SRep C ρ' H' S' → ExRep C ρ' H' e cls d → W cls d σ H'
  | .bad => False
abbrev EE := SD → Store → Res D
abbrev EB := SD → Store → Res Bool
abbrev EA := SD → Store → Res (List D)
def RD (C : Ctx) : D → V → List Addr → Hp → Prop := fun d v ρ H => Rep C ρ H d v
def RB : Bool → Bool → List Addr → Hp → Prop := fun a b _ _ => a = b
def RL (C : Ctx) : List D → List V → List Addr → Hp → Prop := fun d v ρ H => Reps C ρ H d v
/-- the reading of an expression by a function of ours -/
def LG {α β : Type} (C : Ctx) (RA : α → β → List Addr → Hp → Prop) (W : WX) (m : SD → Store → Res α) (σ : St) (H : Hp) (Q : β → Hp → Prop) : Prop :=
  ∃ sd ρ S, Slots C ρ H sd σ ∧ SRep C ρ H S ∧ EndR C W σ ρ H RA (m sd S) Q
abbrev LE (C : Ctx) (W : WX) (m : EE) : TE := LG C (RD C) W m
abbrev LB (C : Ctx) (W : WX) (m : EB) : TT := LG C RB W m
abbrev LA (C : Ctx) (W : WX) (m : EA) : TA := LG C (RL C) W m
theorem EndR.base {α β : Type} {C : Ctx} {W : WX} {σ : St} {ρ ρ' : List Addr} {H H' : Hp} {RA : α → β → List Addr → Hp → Prop} {r : Res α} {Q : β → Hp → Prop} (l : Le ρ H ρ' H') (h : EndR C W σ ρ H RA r Q) : EndR C W σ ρ' H' RA r Q := by
  cases r with
  | ok a S' => exact fun b ρ2 H2 l2 => h b ρ2 H2 (l.trans l2)
  | exc e S' => exact fun c d ρ2 H2 l2 => h c d ρ2 H2 (l.trans l2)
  | bad => exact h
theorem EndR.weak {α β : Type} {C : Ctx} {W : WX} {σ : St} {ρ : List Addr} {H : Hp} {RA : α → β → List Addr → Hp → Prop} {r : Res α} {Q Q' : β → Hp → Prop} (h : EndR C W σ ρ H RA r Q) (hq : ∀ b H', Q b H' → Q' b H') : EndR C W σ ρ H RA r Q' := by
  cases r with
  | ok a S' => exact fun b ρ2 H2 l2 s ra => hq _ _ (h b ρ2 H2 l2 s ra)
  | exc e S' => exact h
  | bad => exact h
def Res.bind {α β : Type} (r : Res α) (f : α → Store → Res β) : Res β := match r with
  | .ok a S => f a S
  | .exc e S => .exc e S
  | .bad => .bad
@[simp] theorem bind_ok {α β : Type} (a : α) (S : Store) (f : α → Store → Res β) : (Res.ok a S).bind f = f a S := rfl
@[simp] theorem bind_exc {α β : Type} (e : Ex) (S : Store) (f : α → Store → Res β) : (Res.exc e S).bind f = .exc e S := rfl
@[simp] theorem bind_bad {α β : Type} (f : α → Store → Res β) : (Res.bad).bind f = .bad := rfl
/-- one after the other -/
def eBind {α β : Type} (m : SD → Store → Res α) (f : α → SD → Store → Res β) : SD → Store → Res β := fun sd S => (m sd S).bind fun a => f a sd
theorem eBind_of {α β : Type} (m : SD → Store → Res α) (f : α → SD → Store → Res β) (sd : SD) (S : Store) : eBind m f sd S = (m sd S).bind fun a => f a sd := rfl
/-- THE STEP: a reading of m, then, with its value in hand, of f -/
theorem LG.run {α β γ δ : Type} {C : Ctx} {RA : α → β → List Addr → Hp → Prop} {RC : γ → δ → List Addr → Hp → Prop} {W : WX} {m : SD → Store → Res α} {f : α → SD → Store → Res γ} {σ : St} {H : Hp} {Q : δ → Hp → Prop} {Q' : β → Hp → Prop} {sd : SD} {ρ : List Addr} {S : Store}
    (h1 : Slots C ρ H sd σ) (h2 : SRep C ρ H S) (h3 : EndR C W σ ρ H RC (eBind m f sd S) Q)
    (k : ∀ a b ρ' S' H', Le ρ H ρ' H' → SRep C ρ' H' S' → RA a b ρ' H' → EndR C W σ ρ' H' RC (f a sd S') Q → Q' b H') : LG C RA W m σ H Q' := by
  refine ⟨sd, ρ, S, h1, h2, ?_⟩
  unfold eBind at h3
  cases e : m sd S with
  | ok a S' =>
    rw [e] at h3
    intro b ρ' H' l s ra
    exact k a b ρ' S' H' l s ra (EndR.base l h3)
  | exc x S' =>
    rw [e] at h3
    exact h3
  | bad =>
    rw [e] at h3
    exact h3
theorem _root_.L2.PE.imp {X : Cx} {e : Expr} {t t' : TE} (h : PE X e t) (k : ∀ σ H Q, t' σ H Q → t σ H Q) : PE X e t' := ⟨fun pins s σ H Q I q => h.run pins s σ H Q I (k σ H Q q)⟩
theorem _root_.L2.PT.imp {X : Cx} {e : Expr} {t t' : TT} (h : PT X e t) (k : ∀ σ H Q, t' σ H Q → t σ H Q) : PT X e t' := ⟨fun pins s σ H Q I q => h.run pins s σ H Q I (k σ H Q q)⟩
theorem _root_.L2.PA.imp {X : Cx} {e : List Expr} {t t' : TA} (h : PA X e t) (k : ∀ σ H Q, t' σ H Q → t σ H Q) : PA X e t' := ⟨fun pos pins s σ H Q I q => h.run pos pins s σ H Q I (k σ H Q q)⟩
end Lay

set_option Elab.async false
set_option linter.all false
set_option maxRecDepth 100000
set_option maxHeartbeats 4000000
/-! L1: operations by values. -/
namespace Lay
open PySem PySem.Spec PyProof.Rows L2
abbrev cx (X : Cx) (T : List Cls) : Ctx := ⟨X.K, T⟩
abbrev Pr (α : Type) := Option (α × Store)
def Res.ofO {α : Type} : Pr α → Res α
  | some (a, S) => .ok a S
  | none => .bad
@[simp] theorem ofO_some {α : Type} (a : α) (S : Store) : Res.ofO (some (a, S)) = .ok a S := rfl
@[simp] theorem ofO_none {α : Type} : (Res.ofO none : Res α) = .bad := rfl
/-- an operation that raises nothing has its value -/
def EndP {α β : Type} (C : Ctx) (ρ : List Addr) (H : Hp) (RA : α → β → List Addr → Hp → Prop) (r : Pr α) (Q : β → Hp → Prop) : Prop :=
  ∃ z, r = some z ∧ ∀ b ρ' H', Le ρ H ρ' H' → SRep C ρ' H' z.2 → RA z.1 b ρ' H' → Q b H'
theorem EndR.pr {α β : Type} {C : Ctx} {W : WX} {σ : St} {ρ : List Addr} {H : Hp} {RA : α → β → List Addr → Hp → Prop} {r : Pr α} {Q : β → Hp → Prop} (h : EndR C W σ ρ H RA (.ofO r) Q) : EndP C ρ H RA r Q := by
  cases r with
  | none => exact h.elim
  | some z => exact ⟨z, rfl, h⟩
theorem EndP.keep {α β : Type} {C : Ctx} {ρ : List Addr} {H : Hp} {RA : α → β → List Addr → Hp → Prop} {a : α} {S : Store} {b : β} {Q : β → Hp → Prop} (h : EndP C ρ H RA (some (a, S)) Q) (s : SRep C ρ H S) (ra : RA a b ρ H) : Q b H := by
  obtain ⟨z, e, h⟩ := h
  cases e
  exact h b ρ H Le.refl s ra
/-- a new object of the store is the value -/
theorem kPush {C : Ctx} {ρ : List Addr} {H : Hp} {S : Store} {so : SO} {p : Addr} {o : HO} {Q : V → Hp → Prop} (k : ∀ b ρ' H', Le ρ H ρ' H' → SRep C ρ' H' (S ++ [so]) → RD C (.ref S.length) b ρ' H' → Q b H') (s : SRep C ρ H S) (hp : H p = none)
    (new : RepO C (ρ ++ [p]) (upd H p o) p so) : Q (.ref p) (upd H p o) := by
  refine k _ (ρ ++ [p]) _ (Le.newR hp) (s.push hp new) ?_
  show Rep _ _ _ (.ref S.length) _
  simp only [Rep]
  exact ⟨p, by rw [← s.len, List.getElem?_append_right (Nat.le_refl _)]; simp, rfl⟩
/-- a new tuple is the value -/
theorem kTup {C : Ctx} {ρ : List Addr} {H : Hp} {S : Store} {p : Addr} {ds : List D} {xs : List V} {Q : V → Hp → Prop} (k : ∀ b ρ' H', Le ρ H ρ' H' → SRep C ρ' H' S → RD C (.tup ds) b ρ' H' → Q b H') (s : SRep C ρ H S) (hp : H p = none)
    (r : Reps C ρ H ds xs) : Q (.ref p) (upd H p (.tup xs)) := by
  refine k _ ρ _ (Le.new hp) (s.free hp) ?_
  show Rep _ _ _ (.tup ds) _
  simp only [Rep]
  exact ⟨p, xs, rfl, .inl (.inl upd_same), r.le (Le.new hp)⟩
section
variable {C : Ctx} {ρ : List Addr} {H : Hp} {S : Store} {v : V}
theorem rep_int {i : Int} : Rep C ρ H (.int i) v ↔ v = .int i := by simp only [Rep]
theorem rep_str {x : Str} : Rep C ρ H (.str x) v ↔ v = .str x := by simp only [Rep]
theorem rep_bl {b : Bool} : Rep C ρ H (.bl b) v ↔ v = .bl b := by simp only [Rep]
theorem rep_non : Rep C ρ H .non v ↔ v = .non := by simp only [Rep]
theorem rep_tup {ds : List D} : Rep C ρ H (.tup ds) v ↔ ∃ a xs, v = .ref a ∧ SqT C.K H a xs ∧ Reps C ρ H ds xs := by simp only [Rep]
theorem rep_ref {n : Nat} : Rep C ρ H (.ref n) v ↔ ∃ a, ρ[n]? = some a ∧ v = .ref a := by simp only [Rep]
/-- a list of the store -/
theorem SRep.lst {n : Nat} {ds : List D} (s : SRep C ρ H S) (r : Rep C ρ H (.ref n) v) (e : S[n]? = some (.lst ds)) : ∃ a xs, ρ[n]? = some a ∧ v = .ref a ∧ H a = some (.lst xs) ∧ Reps C ρ H ds xs := by
  obtain ⟨a, h1, h2⟩ := rep_ref.mp r
  obtain ⟨xs, h3, h4⟩ := s.at_ n a _ h1 e
  exact ⟨a, xs, h1, h2, h3, h4⟩
/-- .. to be read -/
def rdL (S : Store) (n : Nat) : Option (List D) := match S[n]? with
  | some (.lst ds) => some ds
  | some (.ro ds) => some ds
  | _ => none
theorem SRep.rd {n : Nat} {ds : List D} (s : SRep C ρ H S) (r : Rep C ρ H (.ref n) v) (e : rdL S n = some ds) : ∃ a xs, v = .ref a ∧ SqL C.K H a xs ∧ Reps C ρ H ds xs := by
  unfold rdL at e
  split at e
  · rename_i q h
    cases e
    obtain ⟨a, xs, h1, h2, h3, h4⟩ := s.lst r h
    exact ⟨a, xs, h2, .inl (.inl h3), h4⟩
  · rename_i q h
    cases e
    obtain ⟨a, h1, h2⟩ := rep_ref.mp r
    obtain ⟨xs, h3, h4⟩ := s.at_ n a _ h1 h
    refine ⟨a, xs, h2, ?_, h4⟩
    rcases h3 with ⟨o, h3⟩ | h3
    · exact .inl (.inr ⟨o, h3⟩)
    · exact .inr h3
  · cases e
theorem SRep.lst_upd {n : Nat} {ds es : List D} {a : Addr} {xs ys : List V} (s : SRep C ρ H S) (hρ : ρ[n]? = some a) (e : S[n]? = some (.lst ds)) (ha : H a = some (.lst xs)) (r : Reps C ρ H es ys) :
    Le ρ H ρ (upd H a (.lst ys)) ∧ SRep C ρ (upd H a (.lst ys)) (S.set n (.lst es)) := by
  have l : Le ρ H ρ (upd H a (.lst ys)) := Le.lock fun o' h => by rw [ha] at h; cases h; exact fun z => z
  exact ⟨l, s.write hρ e rfl l ⟨ys, upd_same, r.le l⟩⟩
end

abbrev P2 := D → D → Store → Pr D
/-- a two-place operation by D's -/
def rP (C : Ctx) (g : P2) : R2 := fun x y H Q => ∃ dx dy ρ S, Rep C ρ H dx x ∧ Rep C ρ H dy y ∧ SRep C ρ H S ∧ EndP C ρ H (RD C) (g dx dy S) Q
abbrev OpP (X : Cx) (T : List Cls) (f : Value → Value → Sem Value) (g : P2) : Prop := OpR X f (rP (cx X T) g)
/-- from a rule by values -/
theorem OpP.of {X : Cx} {T : List Cls} {f : Value → Value → Sem Value} {g : P2}
    (h : ∀ dx dy ρ S x y H Q, Rep (cx X T) ρ H dx x → Rep (cx X T) ρ H dy y → SRep (cx X T) ρ H S → EndP (cx X T) ρ H (RD (cx X T)) (g dx dy S) Q → ∃ r : R2, OpR X f r ∧ r x y H Q) : OpP X T f g := by
  intro pins s σ H x y v u Q I rx ry ⟨dx, dy, ρ, S, h1, h2, h3, h4⟩
  obtain ⟨r, hr, q⟩ := h dx dy ρ S x y H Q h1 h2 h3 h4
  exact hr pins s σ H x y v u Q I rx ry q

/-! ### arithmetic -/
def fits (n : Nat) : Bool := decide (n ≤ 16777216)
theorem fits_line {n : Nat} (h : fits n = true) : n ≤ sizeLine := by rw [sizeLine_eq]; exact of_decide_eq_true h
def pAdd : P2 := fun x y S => match x, y with
  | .int i, .int j => some (.int (i + j), S)
  | .str x, .str y => if fits (x.length + y.length) then some (.str (x ++ y), S) else none
  | .ref n, .ref m => match S[n]?, S[m]? with
    | some (.lst xs), some (.lst ys) => if fits (xs.length + ys.length) then some (.ref S.length, S ++ [.lst (xs ++ ys)]) else none
    | _, _ => none
  | .tup xs, .tup ys => if fits (xs.length + ys.length) then some (.tup (xs ++ ys), S) else none
  | _, _ => none
theorem op_pAdd {X : Cx} {T : List Cls} : OpP X T (binaryOp .Add) pAdd := OpP.of fun dx dy ρ S x y H Q h1 h2 h3 h4 => by
  obtain ⟨z, hz, k⟩ := h4
  unfold pAdd at hz
  split at hz
  · rename_i i j
    cases hz
    obtain rfl := rep_int.mp h1
    obtain rfl := rep_int.mp h2
    exact ⟨_, op_add, i, j, rfl, rfl, k _ _ _ Le.refl h3 (rep_int.mpr rfl)⟩
  · rename_i a b
    obtain rfl := rep_str.mp h1
    obtain rfl := rep_str.mp h2
    split at hz
    · rename_i hf
      cases hz
      exact ⟨_, op_add_str, a, b, rfl, rfl, fits_line hf, k _ _ _ Le.refl h3 (rep_str.mpr rfl)⟩
    · cases hz
  · rename_i n m
    split at hz
    · rename_i xs ys e1 e2
      split at hz
      · rename_i hf
        cases hz
        obtain ⟨a, us, _, rfl, ha, ra⟩ := h3.lst h1 e1
        obtain ⟨b, ws, _, rfl, hb, rb⟩ := h3.lst h2 e2
        refine ⟨_, op_cat, a, b, us, ws, rfl, rfl, ha, hb, by rw [← ra.length, ← rb.length]; exact fits_line hf, fun p hp => ?_⟩
        exact kPush k h3 hp ⟨us ++ ws, upd_same, (ra.append rb).le (Le.newR hp)⟩
      · cases hz
    · cases hz
  · rename_i xs ys
    split at hz
    · rename_i hf
      cases hz
      obtain ⟨a, us, rfl, ha, ra⟩ := rep_tup.mp h1
      obtain ⟨b, ws, rfl, hb, rb⟩ := rep_tup.mp h2
      refine ⟨_, op_catA, a, b, us, ws, rfl, rfl, ha, hb, by rw [← ra.length, ← rb.length]; exact fits_line hf, fun e => ?_, fun _ e => ?_, fun _ _ p hp => ?_⟩
      · subst e
        have e0 : xs = [] := List.length_eq_zero_iff.mp (ra.length.trans rfl)
        subst e0
        exact k _ _ _ Le.refl h3 h2
      · subst e
        have e0 : ys = [] := List.length_eq_zero_iff.mp (rb.length.trans rfl)
        subst e0
        refine k _ _ _ Le.refl h3 ?_
        show Rep _ _ _ (.tup (xs ++ [])) _
        rw [List.append_nil]
        exact h1
      · exact kTup k h3 hp (ra.append rb)
    · cases hz
  · cases hz
/-- a rule over ints -/
theorem op_ints {X : Cx} {T : List Cls} {f : Value → Value → Sem Value} {g : P2} {c : Int → Int → Bool} {h : Int → Int → D} {r : Int → Int → V} {P : Int → Int → Prop} (hr : OpR X f (rI P r)) (hc : ∀ i j, c i j = true → P i j) (hh : ∀ i j ρ H, Rep (cx X T) ρ H (h i j) (r i j))
    (e : ∀ dx dy S z, g dx dy S = some z → ∃ i j, dx = .int i ∧ dy = .int j ∧ c i j = true ∧ z = (h i j, S)) : OpP X T f g := OpP.of fun dx dy ρ S x y H Q h1 h2 h3 h4 => by
  obtain ⟨z, hz, k⟩ := h4
  obtain ⟨i, j, rfl, rfl, hcc, rfl⟩ := e dx dy S z hz
  obtain rfl := rep_int.mp h1
  obtain rfl := rep_int.mp h2
  exact ⟨_, hr, i, j, rfl, rfl, hc i j hcc, k _ _ _ Le.refl h3 (hh i j ρ H)⟩
def onInts (c : Int → Int → Bool) (h : Int → Int → D) : P2 := fun x y S => match x, y with
  | .int i, .int j => if c i j then some (h i j, S) else none
  | _, _ => none
theorem onInts_inv {c : Int → Int → Bool} {h : Int → Int → D} (dx dy : D) (S : Store) (z : D × Store) (e : onInts c h dx dy S = some z) : ∃ i j, dx = .int i ∧ dy = .int j ∧ c i j = true ∧ z = (h i j, S) := by
  unfold onInts at e
  split at e
  · rename_i i j
    split at e
    · rename_i hc
      cases e
      exact ⟨i, j, rfl, rfl, hc, rfl⟩
    · cases e
  · cases e
theorem rI_of0 {X : Cx} {f : Value → Value → Sem Value} {g : Int → Int → V} (h : OpR X f (rI0 g)) : OpR X f (rI (fun _ _ => True) g) := by
  intro pins s σ H x y v u Q I rx ry ⟨i, j, e1, e2, _, q⟩
  exact h pins s σ H x y v u Q I rx ry ⟨i, j, e1, e2, q⟩
def yes2 : Int → Int → Bool := fun _ _ => true
def pSub : P2 := onInts yes2 fun i j => .int (i - j)
theorem op_pSub {X : Cx} {T : List Cls} : OpP X T (binaryOp .Sub) pSub := op_ints (rI_of0 op_sub) (fun _ _ _ => trivial) (fun _ _ _ _ => rep_int.mpr rfl) onInts_inv
/-- the factors' bits: together below a million -/
def mulFits (i j : Int) : Bool := decide (i.natAbs.log2 + j.natAbs.log2 < 1000000)
def pMul : P2 := onInts mulFits fun i j => .int (i * j)
theorem op_pMul {X : Cx} {T : List Cls} : OpP X T (binaryOp .Mult) pMul := op_ints op_mulW (fun i j h => show CMulW i j from of_decide_eq_true (p := i.natAbs.log2 + j.natAbs.log2 < 1000000) h) (fun _ _ _ _ => rep_int.mpr rfl) onInts_inv
/-- floor division by a positive divisor below 2 ^ 9000 -/
def divFits (_ j : Int) : Bool := decide (0 < j ∧ j.natAbs.log2 < 9000)
def pDiv : P2 := onInts divFits fun i j => .int (i / j)
theorem op_pDiv {X : Cx} {T : List Cls} : OpP X T (binaryOp .FloorDiv) pDiv := op_ints op_fdivW (fun i j h => show CDivW i j from of_decide_eq_true (p := 0 < j ∧ j.natAbs.log2 < 9000) h) (fun _ _ _ _ => rep_int.mpr rfl) onInts_inv
def modFits (_ j : Int) : Bool := decide (0 < j)
def pMod : P2 := onInts modFits fun i j => .int (i % j)
theorem op_pMod {X : Cx} {T : List Cls} : OpP X T (binaryOp .Mod) pMod := op_ints op_mod (fun _ _ h => of_decide_eq_true h) (fun _ _ _ _ => rep_int.mpr rfl) onInts_inv
def powFits (i j : Int) : Bool := decide (0 ≤ j ∧ j ≤ 1000000 ∧ i.natAbs < 2 ^ 64)
def pPow : P2 := onInts powFits fun i j => .int (i ^ j.toNat)
theorem op_pPow {X : Cx} {T : List Cls} : OpP X T (binaryOp .Pow) pPow := op_ints op_pow (fun i j h => show CPow i j from of_decide_eq_true (p := 0 ≤ j ∧ j ≤ 1000000 ∧ i.natAbs < 2 ^ 64) h) (fun _ _ _ _ => rep_int.mpr rfl) onInts_inv
/-! ### order of ints -/
def pLt : P2 := onInts yes2 fun i j => .bl (decide (i < j))
def pLe : P2 := onInts yes2 fun i j => .bl (decide (i ≤ j))
def pGt : P2 := onInts yes2 fun i j => .bl (decide (j < i))
def pGe : P2 := onInts yes2 fun i j => .bl (decide (j ≤ i))
theorem op_pLt {X : Cx} {T : List Cls} : OpP X T (compareOp .Lt) pLt := op_ints (rI_of0 op_lt) (fun _ _ _ => trivial) (fun _ _ _ _ => rep_bl.mpr rfl) onInts_inv
theorem op_pLe {X : Cx} {T : List Cls} : OpP X T (compareOp .LtE) pLe := op_ints (rI_of0 op_le) (fun _ _ _ => trivial) (fun _ _ _ _ => rep_bl.mpr rfl) onInts_inv
theorem op_pGt {X : Cx} {T : List Cls} : OpP X T (compareOp .Gt) pGt := op_ints (rI_of0 op_gt) (fun _ _ _ => trivial) (fun _ _ _ _ => rep_bl.mpr rfl) onInts_inv
theorem op_pGe {X : Cx} {T : List Cls} : OpP X T (compareOp .GtE) pGe := op_ints (rI_of0 op_ge) (fun _ _ _ => trivial) (fun _ _ _ _ => rep_bl.mpr rfl) onInts_inv
/-! ### equality of data -/
mutual
/-- what == sees: lists by their items; fuel for the depth -/
def toPy (S : Store) : Nat → D → Option PyData
  | _, .non => some .none
  | _, .bl b => some (.bool b)
  | _, .int i => some (.int i)
  | _, .str x => some (.str x)
  | 0, _ => none
  | k + 1, .tup ds => (toPys S k ds).map .tuple
  | k + 1, .ref n => match rdL S n with
    | some ds => (toPys S k ds).map .list
    | none => none
  | _ + 1, .exn _ _ => none
def toPys (S : Store) : Nat → List D → Option (List PyData)
  | _, [] => some []
  | 0, _ :: _ => none
  | k + 1, d :: ds => match toPy S k d, toPys S (k + 1) ds with
    | some x, some xs => some (x :: xs)
    | _, _ => none
end
end Lay

set_option Elab.async false
set_option linter.all false
set_option maxRecDepth 100000
set_option maxHeartbeats 4000000
/-! L1b: equality, truth, kinds; expressions. -/
namespace Lay
open PySem PySem.Spec PyProof.Rows L2
section
variable {C : Ctx} {ρ : List Addr} {H : Hp} {S : Store}
mutual
theorem toPy_dp (s : SRep C ρ H S) : ∀ (k : Nat) (d : D) (v : V) (p : PyData), Rep C ρ H d v → toPy S k d = some p → Dp C.K H v p
  | k, .non, v, p, r, e => by cases k <;> (simp only [toPy] at e; cases e; rw [rep_non.mp r]; exact .non)
  | k, .bl b, v, p, r, e => by cases k <;> (simp only [toPy] at e; cases e; rw [rep_bl.mp r]; exact .bl b)
  | k, .int i, v, p, r, e => by cases k <;> (simp only [toPy] at e; cases e; rw [rep_int.mp r]; exact .int i)
  | k, .str x, v, p, r, e => by cases k <;> (simp only [toPy] at e; cases e; rw [rep_str.mp r]; exact .str x)
  | 0, .tup ds, v, p, r, e => by simp [toPy] at e
  | 0, .ref n, v, p, r, e => by simp [toPy] at e
  | k, .exn c ds, v, p, r, e => by cases k <;> simp [toPy] at e
  | k + 1, .tup ds, v, p, r, e => by
    simp only [toPy] at e
    obtain ⟨ps, e1, e2⟩ := Option.map_eq_some_iff.mp e
    subst e2
    obtain ⟨a, xs, rfl, h1, h2⟩ := rep_tup.mp r
    exact .tup h1 (toPys_dp s k ds xs ps h2 e1)
  | k + 1, .ref n, v, p, r, e => by
    simp only [toPy] at e
    cases h : rdL S n with
    | none => rw [h] at e; cases e
    | some ds =>
      rw [h] at e
      obtain ⟨ps, e1, e2⟩ := Option.map_eq_some_iff.mp e
      subst e2
      obtain ⟨a, xs, rfl, h1, h2⟩ := s.rd r h
      exact .lst h1 (toPys_dp s k ds xs ps h2 e1)
  termination_by k d => (k, 0)
theorem toPys_dp (s : SRep C ρ H S) : ∀ (k : Nat) (ds : List D) (vs : List V) (ps : List PyData), Reps C ρ H ds vs → toPys S k ds = some ps → DpAll C.K H vs ps
  | k, [], vs, ps, r, e => by
    have e' : toPys S k [] = some [] := by cases k <;> simp only [toPys]
    rw [e'] at e
    cases e
    rw [r.nil_inv]
    exact .nil
  | 0, d :: ds, vs, ps, r, e => by simp [toPys] at e
  | k + 1, d :: ds, vs, ps, r, e => by
    simp only [toPys] at e
    obtain ⟨v, ws, rfl, r1, r2⟩ := r.inv
    split at e
    · rename_i x xs e1 e2
      cases e
      exact .cons (toPy_dp s k d v x r1 e1) (toPys_dp s (k + 1) ds ws xs r2 e2)
    · cases e
  termination_by k ds => (k, ds.length + 1)
end
end
def pEqB (x y : D) (S : Store) : Option Bool := match toPy S 140 x, toPy S 140 y with
  | some a, some b => if SeqAt.shaped a && SeqAt.shaped b then some (PyData.eqv a b) else none
  | _, _ => none
def pEq : P2 := fun x y S => (pEqB x y S).map fun b => (.bl b, S)
def pNe : P2 := fun x y S => (pEqB x y S).map fun b => (.bl (!b), S)
theorem pEqB_inv {x y : D} {S : Store} {b : Bool} (h : pEqB x y S = some b) : ∃ p q, toPy S 140 x = some p ∧ toPy S 140 y = some q ∧ SeqAt.shaped p = true ∧ SeqAt.shaped q = true ∧ b = PyData.eqv p q := by
  unfold pEqB at h
  split at h
  · rename_i p q e1 e2
    split at h
    · rename_i z
      cases h
      obtain ⟨z1, z2⟩ := Bool.and_eq_true_iff.mp z
      exact ⟨p, q, e1, e2, z1, z2, rfl⟩
    · cases h
  · cases h
theorem op_pEq {X : Cx} {T : List Cls} (hu : X.A.units + 64 < cLine) : OpP X T (compareOp .Eq) pEq := OpP.of fun dx dy ρ S x y H Q h1 h2 h3 h4 => by
  obtain ⟨z, hz, k⟩ := h4
  obtain ⟨b, e, rfl⟩ := Option.map_eq_some_iff.mp hz
  obtain ⟨p, q, e1, e2, z1, z2, rfl⟩ := pEqB_inv e
  exact ⟨_, op_eqD hu, p, q, toPy_dp h3 _ _ _ _ h1 e1, toPy_dp h3 _ _ _ _ h2 e2, z1, z2, k _ _ _ Le.refl h3 (rep_bl.mpr rfl)⟩
theorem op_pNe {X : Cx} {T : List Cls} (hu : X.A.units + 64 < cLine) : OpP X T (compareOp .NotEq) pNe := OpP.of fun dx dy ρ S x y H Q h1 h2 h3 h4 => by
  obtain ⟨z, hz, k⟩ := h4
  obtain ⟨b, e, rfl⟩ := Option.map_eq_some_iff.mp hz
  obtain ⟨p, q, e1, e2, z1, z2, rfl⟩ := pEqB_inv e
  exact ⟨_, op_neD hu, p, q, toPy_dp h3 _ _ _ _ h1 e1, toPy_dp h3 _ _ _ _ h2 e2, z1, z2, k _ _ _ Le.refl h3 (rep_bl.mpr rfl)⟩
/-! ### is -/
def isNon : D → Bool
  | .non => true
  | _ => false
def pIsB (x y : D) : Option Bool := match y with
  | .non => some (isNon x)
  | .bl b => match x with
    | .bl a => some (a == b)
    | _ => none
  | _ => none
def pIs : P2 := fun x y S => (pIsB x y).map fun b => (.bl b, S)
def pIsNot : P2 := fun x y S => (pIsB x y).map fun b => (.bl (!b), S)
theorem isNon_rep {C : Ctx} {ρ : List Addr} {H : Hp} {d : D} {v : V} (r : Rep C ρ H d v) : decide (v = .non) = isNon d := by
  cases d with
  | non => rw [rep_non.mp r]; rfl
  | bl b => rw [rep_bl.mp r]; rfl
  | int i => rw [rep_int.mp r]; rfl
  | str x => rw [rep_str.mp r]; rfl
  | tup ds => obtain ⟨a, xs, rfl, _⟩ := rep_tup.mp r; rfl
  | ref n => obtain ⟨a, _, rfl⟩ := rep_ref.mp r; rfl
  | exn c ds => simp only [Rep] at r; obtain ⟨a, d, xs, rfl, _⟩ := r; rfl
theorem op_pIs {X : Cx} {T : List Cls} : OpP X T (compareOp .Is) pIs := OpP.of fun dx dy ρ S x y H Q h1 h2 h3 h4 => by
  obtain ⟨z, hz, k⟩ := h4
  obtain ⟨b, e, rfl⟩ := Option.map_eq_some_iff.mp hz
  unfold pIsB at e
  split at e
  · cases e
    obtain rfl := rep_non.mp h2
    exact ⟨_, op_isN, rfl, k _ _ _ Le.refl h3 (rep_bl.mpr (by rw [isNon_rep h1]))⟩
  · split at e
    · rename_i b' _ a
      cases e
      obtain rfl := rep_bl.mp h1
      obtain rfl := rep_bl.mp h2
      exact ⟨_, op_isBl, a, b', rfl, rfl, k _ _ _ Le.refl h3 (rep_bl.mpr (by congr 1))⟩
    · cases e
  · cases e
theorem op_pIsNot {X : Cx} {T : List Cls} : OpP X T (compareOp .IsNot) pIsNot := OpP.of fun dx dy ρ S x y H Q h1 h2 h3 h4 => by
  obtain ⟨z, hz, k⟩ := h4
  obtain ⟨b, e, rfl⟩ := Option.map_eq_some_iff.mp hz
  unfold pIsB at e
  split at e
  · cases e
    obtain rfl := rep_non.mp h2
    exact ⟨_, op_notN, rfl, k _ _ _ Le.refl h3 (rep_bl.mpr (by rw [isNon_rep h1]))⟩
  · split at e
    · rename_i b' _ a
      cases e
      obtain rfl := rep_bl.mp h1
      obtain rfl := rep_bl.mp h2
      exact ⟨_, op_notBl, a, b', rfl, rfl, k _ _ _ Le.refl h3 (rep_bl.mpr (by congr 1))⟩
    · cases e
  · cases e
/-! ### truth -/
def pTru (x : D) (S : Store) : Option Bool := match x with
  | .non => some false
  | .bl b => some b
  | .int i => some (i != 0)
  | .str y => if fits y.length then some ((y.length : Int) != 0) else none
  | .tup ds => some (!ds.isEmpty)
  | .ref n => match S[n]? with
    | some (.lst ds) => some (!ds.isEmpty)
    | some (.ro ds) => some (!ds.isEmpty)
    | some (.dct kvs) => some (!kvs.isEmpty)
    | _ => none
  | .exn _ _ => none
theorem Reps.empty {C : Ctx} {ρ : List Addr} {H : Hp} {ds : List D} {xs : List V} (r : Reps C ρ H ds xs) : xs.isEmpty = ds.isEmpty := by
  cases ds with
  | nil => rw [r.nil_inv] <;> rfl
  | cons d ds => obtain ⟨v, vs, rfl, _⟩ := r.inv; rfl
theorem KReps.empty {C : Ctx} {ρ : List Addr} {H : Hp} {ds : List (Key × D)} {xs : List (Key × V)} (r : KReps C ρ H ds xs) : xs.isEmpty = ds.isEmpty := by
  cases r <;> rfl
theorem pTru_ok {C : Ctx} {ρ : List Addr} {H : Hp} {S : Store} {x : D} {v : V} {b : Bool} (s : SRep C ρ H S) (r : Rep C ρ H x v) (e : pTru x S = some b) : TruV C.K v H b := by
  unfold pTru at e
  split at e
  · cases e; rw [rep_non.mp r]; rfl
  · cases e; rw [rep_bl.mp r]; rfl
  · cases e; rw [rep_int.mp r]; rfl
  · split at e
    · rename_i hf
      cases e; rw [rep_str.mp r]; exact ⟨fits_line hf, rfl⟩
    · cases e
  · cases e
    obtain ⟨a, xs, rfl, h1, h2⟩ := rep_tup.mp r
    exact .inr (.inl ⟨xs, h1, by rw [h2.empty]⟩)
  · rename_i n
    split at e
    · rename_i ds hs
      cases e
      obtain ⟨a, xs, h1, rfl, h3, h4⟩ := s.lst r hs
      exact .inl ⟨xs, .inl (.inl h3), by rw [h4.empty]⟩
    · rename_i ds hs
      cases e
      obtain ⟨a, xs, rfl, h3, h4⟩ := s.rd r (show rdL S n = some ds by unfold rdL; rw [hs])
      exact .inl ⟨xs, h3, by rw [h4.empty]⟩
    · rename_i kvs hs
      cases e
      obtain ⟨a, h1, rfl⟩ := rep_ref.mp r
      obtain ⟨ws, h3, h4⟩ := s.at_ n a _ h1 hs
      exact .inr (.inr ⟨ws, h3, by rw [h4.empty]⟩)
    · cases e
  · cases e

/-! ### expressions -/
section
variable {X : Cx} {T : List Cls} {W : WX} {a b c e : Expr} {fa fb fc m : EE} {pos : Pos}
def eVar (i : Nat) : EE := fun sd S => match sd[i]? with
  | some (some d) => .ok d S
  | _ => .bad
theorem e_var {i : Nat} (h : PE X e (tVar i)) : PE X e (LE (cx X T) W (eVar i)) := h.imp fun σ H Q ⟨sd, ρ, S, h1, h2, h3⟩ => by
  unfold eVar at h3
  split at h3
  · rename_i d e
    obtain ⟨v, e1, r⟩ := h1.at_ i d e
    exact ⟨v, e1, h3 v ρ H Le.refl h2 r⟩
  · exact h3.elim
def eC (d : D) : EE := fun _ S => .ok d S
theorem e_c {d : D} {v : V} (h : PE X e (tC v)) (r : ∀ ρ H, Rep (cx X T) ρ H d v) : PE X e (LE (cx X T) W (eC d)) := h.imp fun σ H Q ⟨sd, ρ, S, h1, h2, h3⟩ => h3 v ρ H Le.refl h2 (r ρ H)
theorem e_int {i : Int} {j : Nat} : PE X (.Constant (.int i) j pos) (LE (cx X T) W (eC (.int i))) := e_c pe_int fun _ _ => rep_int.mpr rfl
theorem e_bl {i : Bool} {j : Nat} : PE X (.Constant (.bool i) j pos) (LE (cx X T) W (eC (.bl i))) := e_c pe_bl fun _ _ => rep_bl.mpr rfl
theorem e_non {j : Nat} : PE X (.Constant .none j pos) (LE (cx X T) W (eC .non)) := e_c pe_non fun _ _ => rep_non.mpr rfl
theorem e_str {i : Str} {j : Nat} : PE X (.Constant (.str i) j pos) (LE (cx X T) W (eC (.str i))) := e_c pe_str fun _ _ => rep_str.mpr rfl
def eBin (g : P2) (fa fb : EE) : EE := eBind fa fun x => eBind fb fun y => fun _ S => .ofO (g x y S)
theorem eBin_run {g : P2} {σ : St} {H : Hp} {Q : VK} (h : LE (cx X T) W (eBin g fa fb) σ H Q) : tOp (rP (cx X T) g) (LE (cx X T) W fa) (LE (cx X T) W fb) σ H Q := by
  obtain ⟨sd, ρ, S, h1, h2, h3⟩ := h
  refine LG.run h1 h2 h3 fun dx x ρ1 S1 H1 l1 s1 r1 k1 => ?_
  refine LG.run (h1.le l1) s1 k1 fun dy y ρ2 S2 H2 l2 s2 r2 k2 => ?_
  exact ⟨dx, dy, ρ2, S2, Rep.le l2 r1, r2, s2, k2.pr⟩
theorem e_bin {op : Operator} {g : P2} (ho : OpP X T (binaryOp op) g) (ha : PE X a (LE (cx X T) W fa)) (hb : PE X b (LE (cx X T) W fb)) : PE X (.BinOp a op b pos) (LE (cx X T) W (eBin g fa fb)) :=
  (pe_op ho ha hb).imp fun _ _ _ h => eBin_run h
theorem e_cmp {op : CmpOp} {g : P2} (ho : OpP X T (compareOp op) g) (ha : PE X a (LE (cx X T) W fa)) (hb : PE X b (LE (cx X T) W fb)) (hm : behindInMarks op b = false) : PE X (.Compare a [op] [b] pos) (LE (cx X T) W (eBin g fa fb)) :=
  (pe_cmpR ho ha hb hm).imp fun _ _ _ h => eBin_run h
/-- a value that must be a bool -/
def asB (m : EE) : EB := eBind m fun x => fun _ S => match x with
  | .bl b => .ok b S
  | _ => .bad
theorem asB_run {σ : St} {H : Hp} {Q : Bool → Hp → Prop} (h : LB (cx X T) W (asB m) σ H Q) : LE (cx X T) W m σ H fun x H' => ∃ k, x = .bl k ∧ Q k H' := by
  obtain ⟨sd, ρ, S, h1, h2, h3⟩ := h
  refine LG.run h1 h2 h3 fun dx x ρ1 S1 H1 l1 s1 r1 k1 => ?_
  split at k1
  · rename_i b
    exact ⟨b, rep_bl.mp r1, k1 b ρ1 H1 Le.refl s1 rfl⟩
  · exact k1.elim
theorem t_cmp {op : CmpOp} {g : P2} (ho : OpP X T (compareOp op) g) (ha : PE X a (LE (cx X T) W fa)) (hb : PE X b (LE (cx X T) W fb)) (hm : behindInMarks op b = false) : PT X (.Compare a [op] [b] pos) (LB (cx X T) W (asB (eBin g fa fb))) :=
  (pt_cmpR ho ha hb hm).imp fun _ _ _ h => by
    unfold tTest
    have z := asB_run h
    obtain ⟨sd, ρ, S, h1, h2, h3⟩ := z
    exact eBin_run ⟨sd, ρ, S, h1, h2, h3⟩
/-- a op b op' c -/
def eChain (g g' : P2) (fa fb fc : EE) : EE := eBind fa fun x => eBind fb fun y => eBind (fun _ S => .ofO (g x y S)) fun z => match z with
  | .bl true => eBind fc fun w => fun _ S => .ofO (g' y w S)
  | .bl false => fun _ S => .ok (.bl false) S
  | _ => fun _ _ => .bad
theorem eChain_run {g g' : P2} {σ : St} {H : Hp} {Q : VK} (h : LE (cx X T) W (eChain g g' fa fb fc) σ H Q) : tChain (rP (cx X T) g) (rP (cx X T) g') (LE (cx X T) W fa) (LE (cx X T) W fb) (LE (cx X T) W fc) σ H Q := by
  obtain ⟨sd, ρ, S, h1, h2, h3⟩ := h
  refine LG.run h1 h2 h3 fun dx x ρ1 S1 H1 l1 s1 r1 k1 => ?_
  refine LG.run (h1.le l1) s1 k1 fun dy y ρ2 S2 H2 l2 s2 r2 k2 => ?_
  have L2 := l1.trans l2
  refine ⟨dx, dy, ρ2, S2, Rep.le l2 r1, r2, s2, ?_⟩
  rw [eBind_of] at k2
  cases e : g dx dy S2 with
  | none => simp only [e, ofO_none, bind_bad] at k2; exact k2.elim
  | some z =>
    obtain ⟨dz, S3⟩ := z
    simp only [e, ofO_some, bind_ok] at k2
    refine ⟨(dz, S3), rfl, fun v ρ3 H3 l3 s3 r3 => ?_⟩
    have k3 := EndR.base l3 k2
    split at k3
    · refine ⟨true, rep_bl.mp r3, ?_⟩
      rw [if_pos rfl]
      refine LG.run (h1.le (L2.trans l3)) s3 k3 fun dw w ρ4 S4 H4 l4 s4 r4 k4 => ?_
      exact ⟨dy, dw, ρ4, S4, Rep.le (l3.trans l4) r2, r4, s4, k4.pr⟩
    · refine ⟨false, rep_bl.mp r3, ?_⟩
      rw [if_neg Bool.false_ne_true]
      exact k3 _ ρ3 H3 Le.refl s3 (rep_bl.mpr rfl)
    · exact k3.elim
theorem e_chain {op op' : CmpOp} {g g' : P2} (ho : OpP X T (compareOp op) g) (ho' : OpP X T (compareOp op') g') (ha : PE X a (LE (cx X T) W fa)) (hb : PE X b (LE (cx X T) W fb)) (hc : PE X c (LE (cx X T) W fc)) (hm : lastMarks [op, op'] [b, c] = false) :
    PE X (.Compare a [op, op'] [b, c] pos) (LE (cx X T) W (eChain g g' fa fb fc)) := (pe_chain ho ho' ha hb hc hm).imp fun _ _ _ h => eChain_run h
theorem t_chain {op op' : CmpOp} {g g' : P2} (ho : OpP X T (compareOp op) g) (ho' : OpP X T (compareOp op') g') (ha : PE X a (LE (cx X T) W fa)) (hb : PE X b (LE (cx X T) W fb)) (hc : PE X c (LE (cx X T) W fc)) (hm : lastMarks [op, op'] [b, c] = false) :
    PT X (.Compare a [op, op'] [b, c] pos) (LB (cx X T) W (asB (eChain g g' fa fb fc))) := (pt_chain ho ho' ha hb hc hm).imp fun _ _ _ h => by
    unfold tTest
    have z := asB_run h
    obtain ⟨sd, ρ, S, h1, h2, h3⟩ := z
    exact eChain_run ⟨sd, ρ, S, h1, h2, h3⟩
/-- a value's truth -/
def eTru (m : EE) : EB := eBind m fun x => fun _ S => .ofO ((pTru x S).map fun b => (b, S))
theorem eTru_run {σ : St} {H : Hp} {Q : Bool → Hp → Prop} (h : LB (cx X T) W (eTru m) σ H Q) : LE (cx X T) W m σ H fun x H' => ∃ k, TruV X.K x H' k ∧ Q k H' := by
  obtain ⟨sd, ρ, S, h1, h2, h3⟩ := h
  refine LG.run h1 h2 h3 fun dx x ρ1 S1 H1 l1 s1 r1 k1 => ?_
  obtain ⟨z, e, k⟩ := k1.pr
  obtain ⟨b, e1, rfl⟩ := Option.map_eq_some_iff.mp e
  exact ⟨b, pTru_ok s1 r1 e1, k b ρ1 H1 Le.refl s1 rfl⟩
theorem t_tru (ha : PE X a (LE (cx X T) W fa)) (he : ∀ whole, isTrue a X.env whole = (do let v ← whole; standAt a.pos; holding [v] (truthy v))) : PT X a (LB (cx X T) W (eTru fa)) :=
  (pt_truth ha he).imp fun _ _ _ h => eTru_run h
variable {ta tb tc : EB} {rest : List Expr}
def bNot (t : EB) : EB := eBind t fun b => fun _ S => .ok (!b) S
theorem t_not (ha : PT X a (LB (cx X T) W ta)) : PT X (.UnaryOp .Not a pos) (LB (cx X T) W (bNot ta)) := (pt_not ha).imp fun σ H Q ⟨sd, ρ, S, h1, h2, h3⟩ => by
  refine LG.run h1 h2 h3 fun dx x ρ1 S1 H1 l1 s1 r1 k1 => ?_
  cases r1
  exact k1 _ ρ1 H1 Le.refl s1 rfl
def bAnd (t u : EB) : EB := eBind t fun b => if b then u else fun _ S => .ok false S
def bOr (t u : EB) : EB := eBind t fun b => if b then fun _ S => .ok true S else u
theorem LG.of {α β : Type} {C : Ctx} {RA : α → β → List Addr → Hp → Prop} {m : SD → Store → Res α} {σ : St} {H : Hp} {Q : β → Hp → Prop} {sd : SD} {ρ : List Addr} {S : Store} (h1 : Slots C ρ H sd σ) (h2 : SRep C ρ H S) (h3 : EndR C W σ ρ H RA (m sd S) Q) : LG C RA W m σ H Q := ⟨sd, ρ, S, h1, h2, h3⟩
theorem t_and (ha : PT X a (LB (cx X T) W ta)) (hb : PW X (.BoolOp .And (b :: rest) pos) (LB (cx X T) W tb)) : PW X (.BoolOp .And (a :: b :: rest) pos) (LB (cx X T) W (bAnd ta tb)) := by
  have z := pw_and ha hb
  refine ⟨fun wh pins s σ H Q I h => z.run wh pins s σ H Q I ?_⟩
  obtain ⟨sd, ρ, S, h1, h2, h3⟩ := h
  refine LG.run h1 h2 h3 fun dx x ρ1 S1 H1 l1 s1 r1 k1 => ?_
  cases r1
  cases dx with
  | true => exact LG.of (h1.le l1) s1 k1
  | false => exact k1 _ ρ1 H1 Le.refl s1 rfl
theorem t_or (ha : PT X a (LB (cx X T) W ta)) (hb : PW X (.BoolOp .Or (b :: rest) pos) (LB (cx X T) W tb)) : PW X (.BoolOp .Or (a :: b :: rest) pos) (LB (cx X T) W (bOr ta tb)) := by
  have z := pw_or ha hb
  refine ⟨fun wh pins s σ H Q I h => z.run wh pins s σ H Q I ?_⟩
  obtain ⟨sd, ρ, S, h1, h2, h3⟩ := h
  refine LG.run h1 h2 h3 fun dx x ρ1 S1 H1 l1 s1 r1 k1 => ?_
  cases r1
  cases dx with
  | false => exact LG.of (h1.le l1) s1 k1
  | true => exact k1 _ ρ1 H1 Le.refl s1 rfl
/-- .. as values, by truth -/
def eOr (fa fb : EE) : EE := eBind fa fun x => eBind (fun _ S => .ofO ((pTru x S).map fun b => (b, S))) fun b => if b then fun _ S => .ok x S else fb
def eAnd (fa fb : EE) : EE := eBind fa fun x => eBind (fun _ S => .ofO ((pTru x S).map fun b => (b, S))) fun b => if b then fb else fun _ S => .ok x S
theorem e_or (ha : PE X a (LE (cx X T) W fa)) (hb : PE X (.BoolOp .Or (b :: rest) pos) (LE (cx X T) W fb)) : PE X (.BoolOp .Or (a :: b :: rest) pos) (LE (cx X T) W (eOr fa fb)) := (pe_orT ha hb).imp fun σ H Q ⟨sd, ρ, S, h1, h2, h3⟩ => by
  refine LG.run h1 h2 h3 fun dx x ρ1 S1 H1 l1 s1 r1 k1 => ?_
  rw [eBind_of] at k1
  cases e : pTru dx S1 with
  | none => simp only [e, Option.map_none, ofO_none, bind_bad] at k1; exact k1.elim
  | some k =>
    simp only [e, Option.map_some, ofO_some, bind_ok] at k1
    refine ⟨k, pTru_ok s1 r1 e, ?_⟩
    cases k with
    | true => rw [if_pos rfl]; exact k1 x ρ1 H1 Le.refl s1 r1
    | false => rw [if_neg Bool.false_ne_true]; exact LG.of (h1.le l1) s1 k1
theorem e_and (ha : PE X a (LE (cx X T) W fa)) (hb : PE X (.BoolOp .And (b :: rest) pos) (LE (cx X T) W fb)) : PE X (.BoolOp .And (a :: b :: rest) pos) (LE (cx X T) W (eAnd fa fb)) := (pe_andT ha hb).imp fun σ H Q ⟨sd, ρ, S, h1, h2, h3⟩ => by
  refine LG.run h1 h2 h3 fun dx x ρ1 S1 H1 l1 s1 r1 k1 => ?_
  rw [eBind_of] at k1
  cases e : pTru dx S1 with
  | none => simp only [e, Option.map_none, ofO_none, bind_bad] at k1; exact k1.elim
  | some k =>
    simp only [e, Option.map_some, ofO_some, bind_ok] at k1
    refine ⟨k, pTru_ok s1 r1 e, ?_⟩
    cases k with
    | false => rw [if_neg Bool.false_ne_true]; exact k1 x ρ1 H1 Le.refl s1 r1
    | true => rw [if_pos rfl]; exact LG.of (h1.le l1) s1 k1
def eNot (fa : EE) : EE := eBind (eTru fa) fun b => fun _ S => .ok (.bl (!b)) S
theorem e_not (ha : PE X a (LE (cx X T) W fa)) : PE X (.UnaryOp .Not a pos) (LE (cx X T) W (eNot fa)) := (pe_notT ha).imp fun σ H Q ⟨sd, ρ, S, h1, h2, h3⟩ => by
  unfold eNot eTru at h3
  have e : eBind (eBind fa fun x => fun _ S => .ofO ((pTru x S).map fun b => (b, S))) (fun b => fun (_ : SD) S => Res.ok (D.bl (!b)) S) sd S = eBind fa (fun x => eBind (fun _ S => .ofO ((pTru x S).map fun b => (b, S))) (fun b => fun _ S => .ok (.bl (!b)) S)) sd S := by
    unfold eBind
    cases fa sd S <;> rfl
  rw [e] at h3
  refine LG.run h1 h2 h3 fun dx x ρ1 S1 H1 l1 s1 r1 k1 => ?_
  rw [eBind_of] at k1
  cases e : pTru dx S1 with
  | none => simp only [e, Option.map_none, ofO_none, bind_bad] at k1; exact k1.elim
  | some k =>
    simp only [e, Option.map_some, ofO_some, bind_ok] at k1
    exact ⟨k, pTru_ok s1 r1 e, k1 _ ρ1 H1 Le.refl s1 (rep_bl.mpr rfl)⟩
/-- a if t else b -/
def eIf (t : EB) (fa fb : EE) : EE := eBind t fun k => if k then fa else fb
theorem e_if (hc : PT X c (LB (cx X T) W tc)) (ha : PE X a (LE (cx X T) W fa)) (hb : PE X b (LE (cx X T) W fb)) : PE X (.IfExp c a b pos) (LE (cx X T) W (eIf tc fa fb)) := (pe_ifExp hc ha hb).imp fun σ H Q ⟨sd, ρ, S, h1, h2, h3⟩ => by
  refine LG.run h1 h2 h3 fun dx x ρ1 S1 H1 l1 s1 r1 k1 => ?_
  cases r1
  cases dx with
  | true => exact LG.of (h1.le l1) s1 k1
  | false => exact LG.of (h1.le l1) s1 k1
end
end Lay

set_option Elab.async false
set_option linter.all false
set_option maxRecDepth 100000
set_option maxHeartbeats 4000000
/-! L2x: arguments, displays, items, slices, built-ins, methods. -/
namespace Lay
open PySem PySem.Spec PyProof.Rows L2
section
variable {X : Cx} {T : List Cls} {W : WX} {a b c e : Expr} {es : List Expr} {fa fb fc m : EE} {aa : EA} {pos p : Pos}
/-! ### arguments -/
def aNil : EA := fun _ S => .ok [] S
def aCons (fa : EE) (aa : EA) : EA := eBind fa fun x => eBind aa fun xs => fun _ S => .ok (x :: xs) S
theorem a_nil : PA X [] (LA (cx X T) W aNil) := pa_nil.imp fun σ H Q ⟨sd, ρ, S, h1, h2, h3⟩ => h3 [] ρ H Le.refl h2 Reps.nil
theorem a_cons (ha : PE X e (LE (cx X T) W fa)) (hr : PA X es (LA (cx X T) W aa)) (hs : starEach (e :: es) X.env = (false, eval e X.env) :: starEach es X.env := by rfl) : PA X (e :: es) (LA (cx X T) W (aCons fa aa)) :=
  (pa_cons ha hr hs).imp fun σ H Q ⟨sd, ρ, S, h1, h2, h3⟩ => by
    refine LG.run h1 h2 h3 fun dx x ρ1 S1 H1 l1 s1 r1 k1 => ?_
    refine LG.run (h1.le l1) s1 k1 fun dy y ρ2 S2 H2 l2 s2 r2 k2 => ?_
    exact k2 _ ρ2 H2 Le.refl s2 (Reps.cons (Rep.le l2 r1) r2)
/-! ### displays -/
def eTup (aa : EA) : EE := eBind aa fun xs => fun _ S => if fits xs.length then .ok (.tup xs) S else .bad
def eLst (aa : EA) : EE := eBind aa fun xs => fun _ S => if fits xs.length then .ok (.ref S.length) (S ++ [.lst xs]) else .bad
theorem e_tup {x1} (h : PA X es (LA (cx X T) W aa)) : PE X (.Tuple es x1 pos) (LE (cx X T) W (eTup aa)) := (pe_tup h).imp fun σ H Q ⟨sd, ρ, S, h1, h2, h3⟩ => by
  refine LG.run h1 h2 h3 fun dx x ρ1 S1 H1 l1 s1 r1 k1 => ?_
  split at k1
  · rename_i hf
    refine ⟨by rw [← Reps.length r1]; exact fits_line hf, fun p hp => ?_⟩
    exact kTup (fun b ρ' H' l s r => k1 b ρ' H' l s r) s1 hp r1
  · exact k1.elim
theorem e_lst (h : PA X es (LA (cx X T) W aa)) : PE X (.List es pos) (LE (cx X T) W (eLst aa)) := (pe_lst h).imp fun σ H Q ⟨sd, ρ, S, h1, h2, h3⟩ => by
  refine LG.run h1 h2 h3 fun dx x ρ1 S1 H1 l1 s1 r1 k1 => ?_
  split at k1
  · rename_i hf
    refine ⟨by rw [← Reps.length r1]; exact fits_line hf, fun p hp => ?_⟩
    exact kPush (fun b ρ' H' l s r => k1 b ρ' H' l s r) s1 hp ⟨x, upd_same, Reps.le (Le.newR hp) r1⟩
  · exact k1.elim
/-! ### items -/
theorem atI_rep {C : Ctx} {ρ : List Addr} {H : Hp} {ds : List D} {xs : List V} {i : Int} {d : D} (r : Reps C ρ H ds xs) (e : atI ds i = some d) : ∃ v, atI xs i = some v ∧ Rep C ρ H d v := by
  unfold atI at e ⊢
  rw [← r.length]
  cases h : ixN ds.length i with
  | none => rw [h] at e; cases e
  | some j =>
    rw [h] at e
    obtain ⟨v, h1, h2⟩ := r.get (i := j) e
    exact ⟨v, h1, h2⟩
def pIx : P2 := fun x y S => match x, y with
  | .tup ds, .int i => (atI ds i).map fun d => (d, S)
  | .ref n, .int i => match rdL S n with
    | some ds => (atI ds i).map fun d => (d, S)
    | none => none
  | .str z, .int i => if fits z.length then (atI z.cps.toList i).map fun c => (.str ⟨#[c]⟩, S) else none
  | _, _ => none
theorem ix_ok : IxR X (rP (cx X T) pIx) := by
  intro value slice pins s σ H x y v u Q I rx ry ⟨dx, dy, ρ, S, h1, h2, h3, z, hz, k⟩ hsub
  have go : rIx X.K x y H Q := by
    unfold pIx at hz
    split at hz
    · rename_i ds i
      obtain ⟨d, e, rfl⟩ := Option.map_eq_some_iff.mp hz
      obtain ⟨a, xs, rfl, q1, q2⟩ := rep_tup.mp h1
      obtain rfl := rep_int.mp h2
      obtain ⟨v, e1, r⟩ := atI_rep q2 e
      exact .inr (.inl ⟨a, xs, i, v, rfl, rfl, q1, e1, k _ _ _ Le.refl h3 r⟩)
    · rename_i n i
      split at hz
      · rename_i ds hd
        obtain ⟨d, e, rfl⟩ := Option.map_eq_some_iff.mp hz
        obtain ⟨a, xs, rfl, q1, q2⟩ := h3.rd h1 hd
        obtain rfl := rep_int.mp h2
        obtain ⟨v, e1, r⟩ := atI_rep q2 e
        exact .inl ⟨a, xs, i, v, rfl, rfl, q1, e1, k _ _ _ Le.refl h3 r⟩
      · cases hz
    · rename_i z i
      split at hz
      · rename_i hf
        obtain ⟨c, e, rfl⟩ := Option.map_eq_some_iff.mp hz
        obtain rfl := rep_str.mp h1
        obtain rfl := rep_int.mp h2
        exact .inr (.inr ⟨z, i, c, rfl, rfl, fits_line hf, e, k _ _ _ Le.refl h3 (rep_str.mpr rfl)⟩)
      · cases hz
    · cases hz
  exact ix_seq value slice pins s σ H x y v u Q I rx ry go hsub
theorem e_ix (ha : PE X a (LE (cx X T) W fa)) (hb : PE X b (LE (cx X T) W fb)) (hs : PlainIx b) : PE X (.Subscript a b pos) (LE (cx X T) W (eBin pIx fa fb)) := (pe_ix ix_ok ha hb hs).imp fun _ _ _ h => eBin_run h
/-! ### slices -/
abbrev EO := SD → Store → Res (Option Int)
def oNone : EO := fun _ S => .ok none S
def oSome (m : EE) : EO := eBind m fun x => fun _ S => match x with
  | .int i => .ok (some i) S
  | _ => .bad
abbrev RO : Option Int → Option Int → List Addr → Hp → Prop := fun a b _ _ => a = b
abbrev LO (C : Ctx) (W : WX) (m : EO) : TO := LG C RO W m
theorem _root_.L2.PO.imp {X : Cx} {e : Option Expr} {t t' : TO} (h : PO X e t) (k : ∀ σ H Q, t' σ H Q → t σ H Q) : PO X e t' := ⟨fun pins s σ H Q I q => h.run pins s σ H Q I (k σ H Q q)⟩
theorem o_none : PO X none (LO (cx X T) W oNone) := po_none.imp fun σ H Q ⟨sd, ρ, S, h1, h2, h3⟩ => h3 none ρ H Le.refl h2 rfl
theorem o_some (ha : PE X a (LE (cx X T) W fa)) : PO X (some a) (LO (cx X T) W (oSome fa)) := (po_some ha).imp fun σ H Q ⟨sd, ρ, S, h1, h2, h3⟩ => by
  refine LG.run h1 h2 h3 fun dx x ρ1 S1 H1 l1 s1 r1 k1 => ?_
  split at k1
  · rename_i i
    exact ⟨i, rep_int.mp r1, k1 _ ρ1 H1 Le.refl s1 rfl⟩
  · exact k1.elim
def cutD (xs : List D) (lo hi : Option Int) : List D := (xs.drop (HT.sIx xs.length 0 lo)).take (HT.sIx xs.length xs.length hi - HT.sIx xs.length 0 lo)
theorem cutD_rep {C : Ctx} {ρ : List Addr} {H : Hp} {ds : List D} {xs : List V} {lo hi : Option Int} (r : Reps C ρ H ds xs) : Reps C ρ H (cutD ds lo hi) (cutV xs lo hi) := by
  unfold cutD cutV
  rw [r.length]
  exact (r.drop _).take _
def pSl (x : D) (lo hi : Option Int) (S : Store) : Pr D := match x with
  | .ref n => match rdL S n with
    | some ds => some (.ref S.length, S ++ [.lst (cutD ds lo hi)])
    | none => none
  | .str z => if fits z.length then some (.str (cutS z lo hi), S) else none
  | .tup ds => some (.tup (cutD ds lo hi), S)
  | _ => none
def rSlD (C : Ctx) : V → Option Int → Option Int → Hp → VK → Prop := fun x lo hi H Q => ∃ dx ρ S, Rep C ρ H dx x ∧ SRep C ρ H S ∧ EndP C ρ H (RD C) (pSl dx lo hi S) Q
theorem cutV_whole {xs : List V} {lo hi : Option Int} (h : HT.sIx xs.length 0 lo = 0 ∧ HT.sIx xs.length xs.length hi = xs.length) : cutV xs lo hi = xs := by
  unfold cutV
  rw [h.1, h.2]
  simp
theorem sl_ok : SlR X (rSlD (cx X T)) := by
  intro pins s σ H x v vl vu lo hi sl Q I rx hs pl pu ⟨dx, ρ, S, h1, h3, z, hz, k⟩
  unfold pSl at hz
  split at hz
  · rename_i n
    split at hz
    · rename_i ds hd
      cases hz
      obtain ⟨a, xs, rfl, q1, q2⟩ := h3.rd h1 hd
      exact sl_list pins s σ H _ v vl vu lo hi sl Q I rx hs pl pu ⟨a, xs, rfl, q1, fun p hp => kPush k h3 hp ⟨_, upd_same, (cutD_rep q2).le (Le.newR hp)⟩⟩
    · cases hz
  · rename_i z
    split at hz
    · rename_i hf
      cases hz
      obtain rfl := rep_str.mp h1
      exact sl_str pins s σ H _ v vl vu lo hi sl Q I rx hs pl pu ⟨z, rfl, fits_line hf, k _ _ _ Le.refl h3 (rep_str.mpr rfl)⟩
    · cases hz
  · rename_i ds
    cases hz
    obtain ⟨a, xs, rfl, q1, q2⟩ := rep_tup.mp h1
    refine sl_tupA pins s σ H _ v vl vu lo hi sl Q I rx hs pl pu ⟨a, xs, rfl, q1, fun hw => ?_, fun _ p hp => kTup k h3 hp (cutD_rep q2)⟩
    refine k _ _ _ Le.refl h3 (rep_tup.mpr ⟨a, _, rfl, q1, ?_⟩)
    have z := cutD_rep (lo := lo) (hi := hi) q2
    rw [cutV_whole hw] at z
    exact z
  · cases hz
def eSl (fa : EE) (lo hi : EO) : EE := eBind fa fun x => eBind lo fun l => eBind hi fun h => fun _ S => .ofO (pSl x l h S)
theorem e_sl {lo hi : Option Expr} {fl fh : EO} {p2 : Pos} (ha : PE X a (LE (cx X T) W fa)) (hl : PO X lo (LO (cx X T) W fl)) (hh : PO X hi (LO (cx X T) W fh)) : PE X (.Subscript a (.Slice lo hi none p2) pos) (LE (cx X T) W (eSl fa fl fh)) :=
  (pe_slice sl_ok ha hl hh).imp fun σ H Q ⟨sd, ρ, S, h1, h2, h3⟩ => by
    refine LG.run h1 h2 h3 fun dx x ρ1 S1 H1 l1 s1 r1 k1 => ?_
    refine LG.run (h1.le l1) s1 k1 fun dl l ρ2 S2 H2 l2 s2 r2 k2 => ?_
    refine LG.run (h1.le (l1.trans l2)) s2 k2 fun dh h ρ3 S3 H3 l3 s3 r3 k3 => ?_
    cases r2
    cases r3
    exact ⟨dx, ρ3, S3, Rep.le (l2.trans l3) r1, s3, k3.pr⟩
/-! ### calls of built-ins -/
abbrev PN := List D → Store → Pr D
def rN (C : Ctx) (g : PN) : List V → Hp → VK → Prop := fun xs H Q => ∃ ds ρ S, Reps C ρ H ds xs ∧ SRep C ρ H S ∧ EndP C ρ H (RD C) (g ds S) Q
abbrev CallP (X : Cx) (T : List Cls) (f : Value) (g : PN) : Prop := CallR X f (rN (cx X T) g)
theorem CallP.of {f : Value} {g : PN} (h : ∀ ds ρ S xs H Q, Reps (cx X T) ρ H ds xs → SRep (cx X T) ρ H S → EndP (cx X T) ρ H (RD (cx X T)) (g ds S) Q → ∃ r : List V → Hp → VK → Prop, CallR X f r ∧ r xs H Q) : CallP X T f g := by
  intro pins s σ H xs us Q I r ⟨ds, ρ, S, h1, h3, h4⟩
  obtain ⟨r', hr, q⟩ := h ds ρ S xs H Q h1 h3 h4
  exact hr pins s σ H xs us Q I r q
def eCallB (g : PN) (aa : EA) : EE := eBind aa fun xs => fun _ S => .ofO (g xs S)
theorem eCallB_run {g : PN} {σ : St} {H : Hp} {Q : VK} (h : LE (cx X T) W (eCallB g aa) σ H Q) : tCB (rN (cx X T) g) (LA (cx X T) W aa) σ H Q := by
  obtain ⟨sd, ρ, S, h1, h2, h3⟩ := h
  refine LG.run h1 h2 h3 fun dx x ρ1 S1 H1 l1 s1 r1 k1 => ?_
  exact ⟨dx, ρ1, S1, r1, s1, k1.pr⟩
variable {x : Str} {id ty : String} {t : TA}
theorem e_callB {g : PN} (hc : CallP X T (.builtin id) g) (hg : Gl X x) (hm : X.mg x = none) (hv : bootBuiltins x = some (.builtin id)) (ha : PA X (e :: es) (LA (cx X T) W aa)) (hn : x ≠ "__name__" := by decide) (hdb : (x == ("__debug__" : Str)) = false := by decide)
    (he : starEach (e :: es) X.env = (false, eval e X.env) :: starEach es X.env := by rfl) (hpl : (backTo pos (starEach es X.env)).any (·.1) = false := by rfl) : PE X (.Call (.Name x p) (e :: es) [] pos) (LE (cx X T) W (eCallB g aa)) :=
  (pe_callB hc hg hm hv ha hn hdb he hpl).imp fun _ _ _ h => eCallB_run h
theorem e_callTy {g : PN} (hc : CallP X T (.type ty) g) (hg : Gl X x) (hm : X.mg x = none) (hv : bootBuiltins x = some (.type ty)) (ha : PA X (e :: es) (LA (cx X T) W aa)) (hn : x ≠ "__name__" := by decide) (hdb : (x == ("__debug__" : Str)) = false := by decide)
    (he : starEach (e :: es) X.env = (false, eval e X.env) :: starEach es X.env := by rfl) (hpl : (backTo pos (starEach es X.env)).any (·.1) = false := by rfl) : PE X (.Call (.Name x p) (e :: es) [] pos) (LE (cx X T) W (eCallB g aa)) :=
  (pe_callTy hc hg hm hv ha hn hdb he hpl).imp fun _ _ _ h => eCallB_run h
end
section
variable {X : Cx} {T : List Cls}
theorem Reps.one {C : Ctx} {ρ : List Addr} {H : Hp} {d : D} {xs : List V} (r : Reps C ρ H [d] xs) : ∃ v, xs = [v] ∧ Rep C ρ H d v := by
  obtain ⟨v, vs, rfl, h1, h2⟩ := r.inv
  rw [h2.nil_inv]
  exact ⟨v, rfl, h1⟩
theorem Reps.two {C : Ctx} {ρ : List Addr} {H : Hp} {d e : D} {xs : List V} (r : Reps C ρ H [d, e] xs) : ∃ v w, xs = [v, w] ∧ Rep C ρ H d v ∧ Rep C ρ H e w := by
  obtain ⟨v, vs, rfl, h1, h2⟩ := r.inv
  obtain ⟨w, rfl, h3⟩ := h2.one
  exact ⟨v, w, rfl, h1, h3⟩
def lenD (x : D) (S : Store) : Option Nat := match x with
  | .str z => if fits z.length then some z.length else none
  | .tup ds => some ds.length
  | .ref n => match S[n]? with
    | some (.lst ds) => some ds.length
    | some (.ro ds) => some ds.length
    | some (.dct kvs) => some kvs.length
    | _ => none
  | _ => none
def pLen : PN := fun xs S => match xs with
  | [x] => (lenD x S).map fun n => (.int n, S)
  | _ => none
theorem call_pLen : CallP X T (.builtin "len") pLen := CallP.of fun ds ρ S xs H Q h1 h3 ⟨z, hz, k⟩ => by
  unfold pLen at hz
  split at hz
  · rename_i x
    obtain ⟨n, e, rfl⟩ := Option.map_eq_some_iff.mp hz
    obtain ⟨v, rfl, r⟩ := h1.one
    have q : Q (.int n) H := k _ _ _ Le.refl h3 (rep_int.mpr rfl)
    unfold lenD at e
    split at e
    · rename_i y
      split at e
      · rename_i hf
        cases e
        obtain rfl := rep_str.mp r
        exact ⟨_, call_len_str, y, rfl, fits_line hf, q⟩
      · cases e
    · rename_i ds
      cases e
      obtain ⟨a, ys, rfl, q1, q2⟩ := rep_tup.mp r
      exact ⟨_, call_len_seq, a, ys, rfl, .inr q1, by rw [← q2.length]; exact q⟩
    · rename_i m
      split at e
      · rename_i ds hs
        cases e
        obtain ⟨a, ys, rfl, q1, q2⟩ := h3.rd r (show rdL S m = some ds by unfold rdL; rw [hs])
        exact ⟨_, call_len_seq, a, ys, rfl, .inl q1, by rw [← q2.length]; exact q⟩
      · rename_i ds hs
        cases e
        obtain ⟨a, ys, rfl, q1, q2⟩ := h3.rd r (show rdL S m = some ds by unfold rdL; rw [hs])
        exact ⟨_, call_len_seq, a, ys, rfl, .inl q1, by rw [← q2.length]; exact q⟩
      · rename_i kvs hs
        cases e
        obtain ⟨a, q0, rfl⟩ := rep_ref.mp r
        obtain ⟨ws, q1, q2⟩ := h3.at_ m a _ q0 hs
        exact ⟨_, call_lenD, a, ws, rfl, q1, by rw [← Paired.length q2]; exact q⟩
      · cases e
    · cases e
  · cases hz
def pAbs : PN := fun xs S => match xs with
  | [.int i] => some (.int (if i < 0 then -i else i), S)
  | _ => none
theorem call_pAbs : CallP X T (.builtin "abs") pAbs := CallP.of fun ds ρ S xs H Q h1 h3 ⟨z, hz, k⟩ => by
  unfold pAbs at hz
  split at hz
  · rename_i i _
    cases hz
    obtain ⟨v, rfl, r⟩ := h1.one
    obtain rfl := rep_int.mp r
    exact ⟨_, call_abs, i, rfl, k _ _ _ Le.refl h3 (rep_int.mpr rfl)⟩
  · cases hz
def pInt : PN := fun xs S => match xs with
  | [.int i] => some (.int i, S)
  | [.bl b] => some (.int (if b then 1 else 0), S)
  | _ => none
theorem call_pInt : CallP X T (.type "int") pInt := CallP.of fun ds ρ S xs H Q h1 h3 ⟨z, hz, k⟩ => by
  unfold pInt at hz
  split at hz
  · rename_i i _
    cases hz
    obtain ⟨v, rfl, r⟩ := h1.one
    obtain rfl := rep_int.mp r
    exact ⟨_, call_int1, .inl ⟨i, rfl, k _ _ _ Le.refl h3 (rep_int.mpr rfl)⟩⟩
  · rename_i b _
    cases hz
    obtain ⟨v, rfl, r⟩ := h1.one
    obtain rfl := rep_bl.mp r
    exact ⟨_, call_int1, .inr ⟨b, rfl, k _ _ _ Le.refl h3 (rep_int.mpr rfl)⟩⟩
  · cases hz
def pMax2 : PN := fun xs S => match xs with
  | [.int i, .int j] => some (.int (if j > i then j else i), S)
  | _ => none
def pMin2 : PN := fun xs S => match xs with
  | [.int i, .int j] => some (.int (if j < i then j else i), S)
  | _ => none
theorem call_pMax2 (hc : X.calm = true) : CallP X T (.builtin "max") pMax2 := CallP.of fun ds ρ S xs H Q h1 h3 ⟨z, hz, k⟩ => by
  unfold pMax2 at hz
  split at hz
  · rename_i i j _
    cases hz
    obtain ⟨v, w, rfl, r, r'⟩ := h1.two
    obtain rfl := rep_int.mp r
    obtain rfl := rep_int.mp r'
    exact ⟨_, call_max2 hc, i, j, rfl, k _ _ _ Le.refl h3 (rep_int.mpr rfl)⟩
  · cases hz
theorem call_pMin2 (hc : X.calm = true) : CallP X T (.builtin "min") pMin2 := CallP.of fun ds ρ S xs H Q h1 h3 ⟨z, hz, k⟩ => by
  unfold pMin2 at hz
  split at hz
  · rename_i i j _
    cases hz
    obtain ⟨v, w, rfl, r, r'⟩ := h1.two
    obtain rfl := rep_int.mp r
    obtain rfl := rep_int.mp r'
    exact ⟨_, call_min2 hc, i, j, rfl, k _ _ _ Le.refl h3 (rep_int.mpr rfl)⟩
  · cases hz
/-- list(..) of a list, a tuple -/
def pList : PN := fun xs S => match xs with
  | [.tup ds] => some (.ref S.length, S ++ [.lst ds])
  | [.ref n] => (rdL S n).map fun ds => (.ref S.length, S ++ [.lst ds])
  | _ => none
theorem call_pList : CallP X T (.type "list") pList := CallP.of fun ds ρ S xs H Q h1 h3 ⟨z, hz, k⟩ => by
  unfold pList at hz
  split at hz
  · rename_i ds
    cases hz
    obtain ⟨v, rfl, r⟩ := h1.one
    obtain ⟨a, ys, rfl, q1, q2⟩ := rep_tup.mp r
    exact ⟨_, call_list_of, a, ys, rfl, .inr q1, fun p hp => kPush k h3 hp ⟨_, upd_same, q2.le (Le.newR hp)⟩⟩
  · rename_i n
    obtain ⟨ds, e, rfl⟩ := Option.map_eq_some_iff.mp hz
    obtain ⟨v, rfl, r⟩ := h1.one
    obtain ⟨a, ys, rfl, q1, q2⟩ := h3.rd r e
    exact ⟨_, call_list_of, a, ys, rfl, .inl q1, fun p hp => kPush k h3 hp ⟨_, upd_same, q2.le (Le.newR hp)⟩⟩
  · cases hz
def pTuple : PN := fun xs S => match xs with
  | [.tup ds] => some (.tup ds, S)
  | [.ref n] => (rdL S n).map fun ds => (.tup ds, S)
  | _ => none
theorem call_pTuple : CallP X T (.type "tuple") pTuple := CallP.of fun ds ρ S xs H Q h1 h3 ⟨z, hz, k⟩ => by
  unfold pTuple at hz
  split at hz
  · rename_i ds
    cases hz
    obtain ⟨v, rfl, r⟩ := h1.one
    obtain ⟨a, ys, rfl, q1, q2⟩ := rep_tup.mp r
    exact ⟨_, call_tuple_of, a, ys, rfl, .inr ⟨q1, k _ _ _ Le.refl h3 r⟩⟩
  · rename_i n
    obtain ⟨ds, e, rfl⟩ := Option.map_eq_some_iff.mp hz
    obtain ⟨v, rfl, r⟩ := h1.one
    obtain ⟨a, ys, rfl, q1, q2⟩ := h3.rd r e
    exact ⟨_, call_tuple_of, a, ys, rfl, .inl ⟨q1, fun p hp => kTup k h3 hp q2⟩⟩
  · cases hz
/-- sum(..) of a list of ints -/
def intsOf : List D → Option (List Int)
  | [] => some []
  | .int i :: ds => (intsOf ds).map (i :: ·)
  | _ :: _ => none
theorem intsOf_rep {C : Ctx} {ρ : List Addr} {H : Hp} : ∀ {ds : List D} {ns : List Int} {xs : List V}, intsOf ds = some ns → Reps C ρ H ds xs → xs = ns.map V.int
  | [], ns, xs, e, r => by cases e; rw [r.nil_inv]; rfl
  | d :: ds, ns, xs, e, r => by
    cases d with
    | int i =>
      obtain ⟨ms, e1, rfl⟩ := Option.map_eq_some_iff.mp e
      obtain ⟨v, vs, rfl, r1, r2⟩ := r.inv
      obtain rfl := rep_int.mp r1
      rw [intsOf_rep e1 r2]
      rfl
    | _ => cases e
def pSum : PN := fun xs S => match xs with
  | [.ref n] => ((rdL S n).bind intsOf).map fun ns => (.int ns.sum, S)
  | _ => none
theorem call_pSum (hc : X.calm = true) : CallP X T (.builtin "sum") pSum := CallP.of fun ds ρ S xs H Q h1 h3 ⟨z, hz, k⟩ => by
  unfold pSum at hz
  split at hz
  · rename_i n
    obtain ⟨ns, e, rfl⟩ := Option.map_eq_some_iff.mp hz
    obtain ⟨ds, e1, e2⟩ := Option.bind_eq_some_iff.mp e
    obtain ⟨v, rfl, r⟩ := h1.one
    obtain ⟨a, ys, rfl, q1, q2⟩ := h3.rd r e1
    rw [intsOf_rep e2 q2] at q1
    exact ⟨_, cr_sum hc, a, ns, rfl, q1, k _ _ _ Le.refl h3 (rep_int.mpr rfl)⟩
  · cases hz
end
end Lay

set_option Elab.async false
set_option linter.all false
set_option maxRecDepth 100000
set_option maxHeartbeats 4000000
/-! L3: statements, loops, comprehensions, calls. -/
namespace Lay
open PySem PySem.Spec PyProof.Rows L2
inductive SRes where
  | nx (sd : SD) (S : Store)
  | rt (d : D) (S : Store)
  | bk (sd : SD) (S : Store)
  | ct (sd : SD) (S : Store)
  | exc (e : Ex) (sd : SD) (S : Store)
  | bad
abbrev FF := SD → Store → SRes
def EndS (C : Ctx) (W : WX) (Dn : Ends) (ρ : List Addr) (H : Hp) (r : SRes) : Prop :=
  match r with
  | .nx sd' S' => ∀ σ' ρ' H', Le ρ H ρ' H' → Slots C ρ' H' sd' σ' → SRep C ρ' H' S' → Dn.nx σ' H'
  | .rt d S' => ∀ v ρ' H', Le ρ H ρ' H' → SRep C ρ' H' S' → Rep C ρ' H' d v → Dn.rt v H'
  | .bk sd' S' => ∀ σ' ρ' H', Le ρ H ρ' H' → Slots C ρ' H' sd' σ' → SRep C ρ' H' S' → Dn.bk σ' H'
  | .ct sd' S' => ∀ σ' ρ' H', Le ρ H ρ' H' → Slots C ρ' H' sd' σ' → SRep C ρ' H' S' → Dn.ct σ' H'
  | .exc e sd' S' => ∀ cls d σ' ρ' H', Le ρ H ρ' H' → Slots C ρ' H' sd' σ' → SRep C ρ' H' S' → ExRep C ρ' H' e cls d → W cls d σ' H'
  | .bad => False
def LS (C : Ctx) (W : WX) (F : FF) : TS := fun Dn σ H => ∃ sd ρ S, Slots C ρ H sd σ ∧ SRep C ρ H S ∧ EndS C W Dn ρ H (F sd S)
theorem EndS.base {C : Ctx} {W : WX} {Dn : Ends} {ρ ρ' : List Addr} {H H' : Hp} {r : SRes} (l : Le ρ H ρ' H') (h : EndS C W Dn ρ H r) : EndS C W Dn ρ' H' r := by
  cases r with
  | nx sd S => exact fun σ2 ρ2 H2 l2 => h σ2 ρ2 H2 (l.trans l2)
  | rt d S => exact fun σ2 ρ2 H2 l2 => h σ2 ρ2 H2 (l.trans l2)
  | bk sd S => exact fun σ2 ρ2 H2 l2 => h σ2 ρ2 H2 (l.trans l2)
  | ct sd S => exact fun σ2 ρ2 H2 l2 => h σ2 ρ2 H2 (l.trans l2)
  | exc e sd S => exact fun c d σ2 ρ2 H2 l2 => h c d σ2 ρ2 H2 (l.trans l2)
  | bad => exact h
/-- an expression, then a statement with its value -/
def sBind {α : Type} (m : SD → Store → Res α) (k : α → FF) : FF := fun sd S => match m sd S with
  | .ok a S' => k a sd S'
  | .exc e S' => .exc e sd S'
  | .bad => .bad
theorem LS.run {α β : Type} {C : Ctx} {RA : α → β → List Addr → Hp → Prop} {W : WX} {m : SD → Store → Res α} {f : α → FF} {σ : St} {H : Hp} {Dn : Ends} {Q' : β → Hp → Prop} {sd : SD} {ρ : List Addr} {S : Store}
    (h1 : Slots C ρ H sd σ) (h2 : SRep C ρ H S) (h3 : EndS C W Dn ρ H (sBind m f sd S))
    (k : ∀ a b ρ' S' H', Le ρ H ρ' H' → SRep C ρ' H' S' → RA a b ρ' H' → EndS C W Dn ρ' H' (f a sd S') → Q' b H') : LG C RA W m σ H Q' := by
  refine ⟨sd, ρ, S, h1, h2, ?_⟩
  unfold sBind at h3
  cases e : m sd S with
  | ok a S' =>
    rw [e] at h3
    intro b ρ' H' l s ra
    exact k a b ρ' S' H' l s ra (EndS.base l h3)
  | exc x S' =>
    rw [e] at h3
    exact fun c d ρ' H' l s r => h3 c d σ ρ' H' l (h1.le l) s r
  | bad =>
    rw [e] at h3
    exact h3
theorem _root_.L2.PS.imp {X : Cx} {st : Stmt} {t t' : TS} (h : PS X st t) (k : ∀ Dn σ H, t' Dn σ H → t Dn σ H) : PS X st t' := ⟨fun pins s σ H Dn I q => h.run pins s σ H Dn I (k Dn σ H q)⟩
theorem _root_.L2.PSs.imp {X : Cx} {st : List Stmt} {t t' : TS} (h : PSs X st t) (k : ∀ Dn σ H, t' Dn σ H → t Dn σ H) : PSs X st t' := ⟨fun pins s σ H Dn I q => h.run pins s σ H Dn I (k Dn σ H q)⟩
section
variable {X : Cx} {T : List Cls} {W : WX} {a b c e : Expr} {es : List Expr} {fa fb fc m : EE} {aa : EA} {tc : EB} {pos p : Pos} {st : Stmt} {sts rest : List Stmt} {F G : FF}
/-! ### small statements -/
def sNext : FF := fun sd S => .nx sd S
def sSeq (F G : FF) : FF := fun sd S => match F sd S with
  | .nx sd' S' => G sd' S'
  | r => r
theorem ss_nil : PSs X [] (LS (cx X T) W sNext) := pss_nil.imp fun Dn σ H ⟨sd, ρ, S, h1, h2, h3⟩ => h3 σ ρ H Le.refl h1 h2
theorem LS.seq {C : Ctx} {σ : St} {H : Hp} {Dn : Ends} (h : LS C W (sSeq F G) Dn σ H) : LS C W F { Dn with nx := LS C W G Dn } σ H := by
  obtain ⟨sd, ρ, S, h1, h2, h3⟩ := h
  refine ⟨sd, ρ, S, h1, h2, ?_⟩
  unfold sSeq at h3
  cases q : F sd S with
  | nx sd' S' =>
    rw [q] at h3
    exact fun σ' ρ' H' l s1 s2 => ⟨sd', ρ', S', s1, s2, EndS.base l h3⟩
  | rt d S' => rw [q] at h3; exact h3
  | bk sd' S' => rw [q] at h3; exact h3
  | ct sd' S' => rw [q] at h3; exact h3
  | exc e sd' S' => rw [q] at h3; exact h3
  | bad => rw [q] at h3; exact h3
theorem ss_cons (h1 : PS X st (LS (cx X T) W F)) (h2 : PSs X rest (LS (cx X T) W G)) : PSs X (st :: rest) (LS (cx X T) W (sSeq F G)) := (pss_cons h1 h2).imp fun _ _ _ h => LS.seq h
theorem ss_one (h1 : PS X st (LS (cx X T) W F)) : PSs X [st] (LS (cx X T) W F) := pss_one h1
theorem s_pass : PS X (.Pass pos) (LS (cx X T) W sNext) := ps_pass.imp fun Dn σ H ⟨sd, ρ, S, h1, h2, h3⟩ => h3 σ ρ H Le.refl h1 h2
def sBrk : FF := fun sd S => .bk sd S
def sCnt : FF := fun sd S => .ct sd S
theorem s_break : PS X (.Break pos) (LS (cx X T) W sBrk) := ps_break.imp fun Dn σ H ⟨sd, ρ, S, h1, h2, h3⟩ => h3 σ ρ H Le.refl h1 h2
theorem s_continue : PS X (.Continue pos) (LS (cx X T) W sCnt) := ps_continue.imp fun Dn σ H ⟨sd, ρ, S, h1, h2, h3⟩ => h3 σ ρ H Le.refl h1 h2
def sExpr (m : EE) : FF := sBind m fun _ => sNext
theorem s_expr (he : PE X e (LE (cx X T) W fa)) (hs : swapsWith e none pos.line X.env = pure false := by rfl) : PS X (.Expr e pos) (LS (cx X T) W (sExpr fa)) := (ps_expr he hs).imp fun Dn σ H ⟨sd, ρ, S, h1, h2, h3⟩ => by
  refine LS.run h1 h2 h3 fun dx x ρ1 S1 H1 l1 s1 r1 k1 => ?_
  exact k1 σ ρ1 H1 Le.refl (h1.le l1) s1
def sRet (m : EE) : FF := sBind m fun d => fun _ S => .rt d S
theorem s_ret (he : PE X e (LE (cx X T) W fa)) : PS X (.Return (some e) pos) (LS (cx X T) W (sRet fa)) := (ps_ret he).imp fun Dn σ H ⟨sd, ρ, S, h1, h2, h3⟩ => by
  refine LS.run h1 h2 h3 fun dx x ρ1 S1 H1 l1 s1 r1 k1 => ?_
  exact k1 x ρ1 H1 Le.refl s1 r1
def sRetN : FF := fun _ S => .rt .non S
theorem s_retN : PS X (.Return none pos) (LS (cx X T) W sRetN) := ps_retN.imp fun Dn σ H ⟨sd, ρ, S, h1, h2, h3⟩ => h3 .non ρ H Le.refl h2 (rep_non.mpr rfl)
def sIf (t : EB) (F G : FF) : FF := sBind t fun b => if b then F else G
theorem s_if {p q : List Stmt} (hc : PT X c (LB (cx X T) W tc)) (ha : PSs X p (LS (cx X T) W F)) (hb : PSs X q (LS (cx X T) W G)) : PS X (.If c p q pos) (LS (cx X T) W (sIf tc F G)) := (ps_if hc ha hb).imp fun Dn σ H ⟨sd, ρ, S, h1, h2, h3⟩ => by
  refine LS.run h1 h2 h3 fun dx x ρ1 S1 H1 l1 s1 r1 k1 => ?_
  cases r1
  cases dx with
  | true => exact ⟨sd, ρ1, S1, h1.le l1, s1, k1⟩
  | false => exact ⟨sd, ρ1, S1, h1.le l1, s1, k1⟩
def sSet (i : Nat) (m : EE) : FF := sBind m fun d => fun sd S => .nx (sd.set i (some d)) S
theorem s_set {i : Nat} {x : Str} {pos' : Pos} (hN : X.N.Nodup) (hi : X.N[i]? = some x) (hx : Loc X.env.scope x) (he : PE X e (LE (cx X T) W fa)) (hs : swapsWith e (some (.Name x pos')) pos.line X.env = pure false := by rfl) (hf : X.fn x = true ∨ X.env.scope.names.lookup x = some .local := by first | exact .inl rfl | exact .inr rfl | assumption) :
    PS X (.Assign [.Name x pos'] e pos) (LS (cx X T) W (sSet i fa)) := (ps_set hN hi hx he hs hf).imp fun Dn σ H ⟨sd, ρ, S, h1, h2, h3⟩ => by
  refine LS.run h1 h2 h3 fun dx x ρ1 S1 H1 l1 s1 r1 k1 => ?_
  exact k1 _ ρ1 H1 Le.refl ((h1.le l1).set r1) s1
/-- a, b = x, y with plain local names -/
def sPar (i j : Nat) (aa : EA) : FF := sBind aa fun xs => match xs with
  | [x, y] => fun sd S => .nx ((sd.set i (some x)).set j (some y)) S
  | _ => fun _ _ => .bad
theorem s_par {i j : Nat} {x y : Str} {px py pt : Pos} {kt k2 pt2} (hc : X.calm = true) (hN : X.N.Nodup) (hi : X.N[i]? = some x) (hj : X.N[j]? = some y) (hij : i ≠ j)
    (hx : X.env.scope.names.lookup x = some .local) (hy : X.env.scope.names.lookup y = some .local) (ha : PA X [a, b] (LA (cx X T) W aa))
    (hw : swappedStores [.Tuple [.Name x px, .Name y py] kt pt] (.Tuple [a, b] k2 pt2) X.env = pure (some [x, y]))
    (hs : swapsWithSole [.Tuple [.Name x px, .Name y py] kt pt] (.Tuple [a, b] k2 pt2) pos.line X.env = pure false := by rfl) :
    PS X (.Assign [.Tuple [.Name x px, .Name y py] kt pt] (.Tuple [a, b] k2 pt2) pos) (LS (cx X T) W (sPar i j aa)) := (ps_par hc hN hi hj hij hx hy ha hw hs).imp fun Dn σ H ⟨sd, ρ, S, h1, h2, h3⟩ => by
  refine LS.run h1 h2 h3 fun dx x ρ1 S1 H1 l1 s1 r1 k1 => ?_
  split at k1
  · obtain ⟨v, w, rfl, r, r'⟩ := Reps.two r1
    exact ⟨v, w, rfl, k1 _ ρ1 H1 Le.refl (((h1.le l1).set r).set r') s1⟩
  · exact k1.elim
def sPar3 (i j l : Nat) (aa : EA) : FF := sBind aa fun xs => match xs with
  | [x, y, z] => fun sd S => .nx (((sd.set i (some x)).set j (some y)).set l (some z)) S
  | _ => fun _ _ => .bad
/-- name op= e -/
def sAug (i : Nat) (g : P2) (m : EE) : FF := fun sd S => match sd[i]? with
  | some (some x) => sBind m (fun y => fun sd S => match g x y S with
    | some (z, S') => .nx (sd.set i (some z)) S'
    | none => .bad) sd S
  | _ => .bad
theorem s_aug {i : Nat} {x : Str} {op : Operator} {g : P2} {pos' : Pos} (hN : X.N.Nodup) (hi : X.N[i]? = some x) (hx : Loc X.env.scope x) (ho : OpP X T (inplaceOp op) g) (he : PE X e (LE (cx X T) W fa)) (hf : X.fn x = true ∨ X.env.scope.names.lookup x = some .local := by first | exact .inl rfl | exact .inr rfl | assumption) :
    PS X (.AugAssign (.Name x pos') op e pos) (LS (cx X T) W (sAug i g fa)) := (ps_aug (ti := rP (cx X T) g) hN hi hx he ho hf).imp fun Dn σ H ⟨sd, ρ, S, h1, h2, h3⟩ => by
  unfold sAug at h3
  split at h3
  · rename_i d q
    obtain ⟨v, e1, r⟩ := h1.at_ i d q
    refine ⟨v, e1, ?_⟩
    refine LS.run h1 h2 h3 fun dy y ρ1 S1 H1 l1 s1 r1 k1 => ?_
    split at k1
    · rename_i z S' e2
      exact ⟨d, dy, ρ1, S1, r.le l1, r1, s1, (z, S'), e2, fun w ρ' H' l s r' => k1 _ ρ' H' l (((h1.le l1).le l).set r') s⟩
    · exact k1.elim
  · exact h3.elim
/-! ### targets -/
abbrev GD := D → SD → Store → Option (SD × Store)
abbrev GDs := List D → SD → Store → Option (SD × Store)
/-- the slots but those at vs stand -/
def Off (vs : List Nat) (σ σ' : St) : Prop := σ'.length = σ.length ∧ ∀ j, j ∉ vs → σ'[j]? = σ[j]?
theorem Off.trans {vs : List Nat} {σ σ1 σ2 : St} (a : Off vs σ σ1) (b : Off vs σ1 σ2) : Off vs σ σ2 := ⟨b.1.trans a.1, fun j h => (b.2 j h).trans (a.2 j h)⟩
theorem Off.mono {vs ws : List Nat} {σ σ1 : St} (a : Off vs σ σ1) (h : ∀ j ∈ vs, j ∈ ws) : Off ws σ σ1 := ⟨a.1, fun j hj => a.2 j fun z => hj (h j z)⟩
def LT (C : Ctx) (vs : List Nat) (g : GD) : TG := fun v σ H Q => ∃ d sd ρ S z, Rep C ρ H d v ∧ Slots C ρ H sd σ ∧ SRep C ρ H S ∧ g d sd S = some z ∧ ∀ σ' ρ' H', Le ρ H ρ' H' → Off vs σ σ' → Slots C ρ' H' z.1 σ' → SRep C ρ' H' z.2 → Q σ' H'
def LTs (C : Ctx) (vs : List Nat) (g : GDs) : TGs := fun v σ H Q => ∃ d sd ρ S z, Reps C ρ H d v ∧ Slots C ρ H sd σ ∧ SRep C ρ H S ∧ g d sd S = some z ∧ ∀ σ' ρ' H', Le ρ H ρ' H' → Off vs σ σ' → Slots C ρ' H' z.1 σ' → SRep C ρ' H' z.2 → Q σ' H'
theorem _root_.L2.PG.imp {X : Cx} {e : Expr} {t t' : TG} (h : PG X e t) (k : ∀ v σ H Q, t' v σ H Q → t v σ H Q) : PG X e t' := ⟨fun pins s σ H v u Q I r q => h.run pins s σ H v u Q I r (k v σ H Q q)⟩
theorem _root_.L2.PGs.imp {X : Cx} {e : List Expr} {t t' : TGs} (h : PGs X e t) (k : ∀ v σ H Q, t' v σ H Q → t v σ H Q) : PGs X e t' := ⟨fun pins s σ H v u Q I r q => h.run pins s σ H v u Q I r (k v σ H Q q)⟩
theorem _root_.L2.PG.or {X : Cx} {e : Expr} {t t' : TG} (h : PG X e t) (h' : PG X e t') : PG X e (fun v σ H Q => t v σ H Q ∨ t' v σ H Q) := ⟨fun pins s σ H v u Q I r q => q.elim (fun z => h.run pins s σ H v u Q I r z) fun z => h'.run pins s σ H v u Q I r z⟩
def gNm (i : Nat) : GD := fun d sd S => some (sd.set i (some d), S)
theorem g_name {i : Nat} {x : Str} (hN : X.N.Nodup) (hi : X.N[i]? = some x) (hx : Loc X.env.scope x) (hf : X.fn x = true ∨ X.env.scope.names.lookup x = some .local := by first | exact .inl rfl | exact .inr rfl | assumption) : PG X (.Name x pos) (LT (cx X T) [i] (gNm i)) :=
  (pg_name hN hi hx hf).imp fun v σ H Q ⟨d, sd, ρ, S, z, h1, h2, h3, e, k⟩ => by
    cases e
    exact k _ ρ H Le.refl ⟨by simp, fun j hj => List.getElem?_set_ne (fun q => hj (by simp [q]))⟩ (h2.set h1) h3
def gsNil : GDs := fun ds sd S => match ds with
  | [] => some (sd, S)
  | _ => none
def gsCons (g : GD) (gs : GDs) : GDs := fun ds sd S => match ds with
  | d :: r => match g d sd S with
    | some (sd', S') => gs r sd' S'
    | none => none
  | [] => none
variable {g : GD} {gs : GDs} {vs ws : List Nat}
theorem gs_nil : PGs X [] (LTs (cx X T) [] gsNil) := pgs_nil.imp fun v σ H Q ⟨d, sd, ρ, S, z, h1, h2, h3, e, k⟩ => by
  unfold gsNil at e
  split at e
  · cases e
    exact ⟨h1.nil_inv, k σ ρ H Le.refl ⟨rfl, fun _ _ => rfl⟩ h2 h3⟩
  · cases e
theorem gs_cons (hg : PG X e (LT (cx X T) vs g)) (hr : PGs X es (LTs (cx X T) ws gs)) (hs : (assignEach (e :: es) X.env).map (·.2) = assign e X.env :: (assignEach es X.env).map (·.2) := by rfl) : PGs X (e :: es) (LTs (cx X T) (vs ++ ws) (gsCons g gs)) :=
  (pgs_cons hg hr hs).imp fun v σ H Q ⟨d, sd, ρ, S, z, h1, h2, h3, e, k⟩ => by
    unfold gsCons at e
    split at e
    · rename_i x r
      obtain ⟨v, vr, rfl, r1, r2⟩ := h1.inv
      split at e
      · rename_i sd' S' e1
        refine ⟨v, vr, rfl, x, sd, ρ, S, (sd', S'), r1, h2, h3, e1, fun σ' ρ' H' l o s1 s2 => ?_⟩
        exact ⟨r, sd', ρ', S', z, r2.le l, s1, s2, e, fun σ2 ρ2 H2 l2 o2 s3 s4 => k σ2 ρ2 H2 (l.trans l2) ((o.mono fun j hj => List.mem_append_left _ hj).trans (o2.mono fun j hj => List.mem_append_right _ hj)) s3 s4⟩
      · cases e
    · cases e
def gTupD (n : Nat) (gs : GDs) : GD := fun d sd S => match d with
  | .tup ds => if ds.length = n then gs ds sd S else none
  | .ref k => match rdL S k with
    | some ds => if ds.length = n then gs ds sd S else none
    | none => none
  | _ => none
theorem g_tup {k : Nat} {n : Nat} (hc : X.calm = true) (h : PGs X es (LTs (cx X T) vs gs)) (hn : (assignEach es X.env).length = n := by rfl) (hst : (assignEach es X.env).findIdx? (·.1) = none := by rfl) (hu : PG X (.Tuple es k pos) (gUnl X.K n (LTs (cx X T) vs gs))) :
    PG X (.Tuple es k pos) (LT (cx X T) vs (gTupD n gs)) := ((pg_tup hc h hn hst).or hu).imp fun v σ H Q ⟨d, sd, ρ, S, z, h1, h2, h3, e, k⟩ => by
  unfold gTupD at e
  split at e
  · rename_i ds
    split at e
    · rename_i hl
      obtain ⟨a, xs, rfl, q1, q2⟩ := rep_tup.mp h1
      exact .inl ⟨a, xs, rfl, q1, by rw [← q2.length]; exact hl, ds, sd, ρ, S, z, q2, h2, h3, e, k⟩
    · cases e
  · rename_i m
    split at e
    · rename_i ds hd
      split at e
      · rename_i hl
        obtain ⟨a, xs, rfl, q1, q2⟩ := h3.rd h1 hd
        exact .inr ⟨a, xs, rfl, q1, by rw [← q2.length]; exact hl, ds, sd, ρ, S, z, q2, h2, h3, e, k⟩
      · cases e
    · cases e
  · cases e
/-- target = e -/
def sAsg (m : EE) (g : GD) : FF := sBind m fun d => fun sd S => match g d sd S with
  | some (sd', S') => .nx sd' S'
  | none => .bad
theorem s_asg {tg : Expr} (he : PE X e (LE (cx X T) W fa)) (hg : PG X tg (LT (cx X T) vs g)) (hs : swapsWithSole [tg] e pos.line X.env = pure false := by rfl) (hw : swappedStores [tg] e X.env = pure none := by rfl)
    (h1 : (assignEach [tg] X.env).map (·.2) = [assign tg X.env] := by rfl) : PS X (.Assign [tg] e pos) (LS (cx X T) W (sAsg fa g)) := (ps_asg he hg hs hw h1).imp fun Dn σ H ⟨sd, ρ, S, h1, h2, h3⟩ => by
  refine LS.run h1 h2 h3 fun dx x ρ1 S1 H1 l1 s1 r1 k1 => ?_
  split at k1
  · rename_i sd' S' e1
    exact ⟨dx, sd, ρ1, S1, (sd', S'), r1, h1.le l1, s1, e1, fun σ' ρ' H' l o q1 q2 => k1 σ' ρ' H' l q1 q2⟩
  · exact k1.elim
/-- o[i] = .. -/
def rSt (C : Ctx) (g : D → D → D → Store → Option Store) : TSet := fun o i v H Q => ∃ o' i' v' ρ S S', Rep C ρ H o' o ∧ Rep C ρ H i' i ∧ Rep C ρ H v' v ∧ SRep C ρ H S ∧ g o' i' v' S = some S' ∧ ∀ ρ' H', Le ρ H ρ' H' → SRep C ρ' H' S' → Q H'
def pSet (o i v : D) (S : Store) : Option Store := match o, i with
  | .ref n, .int k => match S[n]? with
    | some (.lst ds) => (ixN ds.length k).map fun j => S.set n (.lst (ds.set j v))
    | _ => none
  | _, _ => none
theorem pset_ok : PSet X (rSt (cx X T) pSet) := by
  intro pins s σ H o i v ov iv u Q I ro ri rv ⟨o', i', v', ρ, S, S', h1, h2, h3, h4, e, k⟩
  unfold pSet at e
  split at e
  · rename_i n j
    split at e
    · rename_i ds hs
      obtain ⟨m, e1, rfl⟩ := Option.map_eq_some_iff.mp e
      obtain ⟨a, xs, q0, rfl, q1, q2⟩ := h4.lst h1 hs
      obtain rfl := rep_int.mp h2
      refine set_list pins s σ H _ _ v ov iv u Q I ro ri rv ⟨a, xs, j, m, rfl, rfl, q1, by rw [← q2.length]; exact e1, ?_⟩
      obtain ⟨l, s1⟩ := h4.lst_upd q0 hs q1 (q2.set m h3)
      exact k ρ _ l s1
    · cases e
  · cases e
def gSubD (fo fi : EE) : GD := fun d sd S => match fo sd S with
  | .ok o S1 => match fi sd S1 with
    | .ok i S2 => (pSet o i d S2).map fun S3 => (sd, S3)
    | _ => none
  | _ => none
theorem g_sub {o i : Expr} {fo fi : EE} (ho : PE X o (LE (cx X T) W fo)) (hi : PE X i (LE (cx X T) W fi))
    (ha : ∀ v, assign (.Subscript o i pos) X.env v = (do
      let ov ← holding [v] (eval o X.env)
      let iv ← holding [v, ov] (eval i X.env)
      standAt pos
      holding [v, ov, iv] (setItem ov iv v)
      release [v, ov, iv] []) := by intro _; rfl) : PG X (.Subscript o i pos) (LT (cx X T) [] (gSubD fo fi)) := (pg_sub ho hi pset_ok ha).imp fun v σ H Q ⟨d, sd, ρ, S, z, h1, h2, h3, e, k⟩ => by
  unfold gSubD at e
  split at e
  · rename_i o' S1 e1
    split at e
    · rename_i i' S2 e2
      obtain ⟨S3, e3, rfl⟩ := Option.map_eq_some_iff.mp e
      refine ⟨sd, ρ, S, h2, h3, ?_⟩
      rw [e1]
      intro ov ρ1 H1 l1 s1 r1
      refine ⟨sd, ρ1, S1, h2.le l1, s1, ?_⟩
      rw [e2]
      intro iv ρ2 H2 l2 s2 r2
      exact ⟨o', i', d, ρ2, S2, S3, Rep.le l2 r1, r2, h1.le (l1.trans l2), s2, e3, fun ρ' H' l s3 => k σ ρ' H' ((l1.trans l2).trans l) ⟨rfl, fun _ _ => rfl⟩ (h2.le ((l1.trans l2).trans l)) s3⟩
    · cases e
  · cases e
end
/-! ### loops without a bound -/
section
variable {σ β : Type}
def runN (step : σ → Sum σ β) : Nat → σ → Option β
  | 0, _ => none
  | n + 1, s => match step s with
    | .inl s' => runN step n s'
    | .inr b => some b
theorem runN_mono (step : σ → Sum σ β) : ∀ (n : Nat) (s : σ) (b : β), runN step n s = some b → runN step (n + 1) s = some b
  | 0, s, b, h => by cases h
  | n + 1, s, b, h => by
    unfold runN at h ⊢
    cases e : step s with
    | inl s' => rw [e] at h; exact runN_mono step n s' b h
    | inr b' => rw [e] at h; exact h
theorem runN_le (step : σ → Sum σ β) {n m : Nat} (hm : n ≤ m) {s : σ} {b : β} (h : runN step n s = some b) : runN step m s = some b := by
  induction hm with
  | refl => exact h
  | step _ ih => exact runN_mono step _ s b ih
open Classical in
noncomputable def loopFix (step : σ → Sum σ β) (dflt : β) (s : σ) : β := if h : ∃ b, ∃ n, runN step n s = some b then h.choose else dflt
theorem loopFix_of {step : σ → Sum σ β} {dflt : β} {s : σ} {n : Nat} {b : β} (h : runN step n s = some b) : loopFix step dflt s = b := by
  have hh : ∃ b, ∃ n, runN step n s = some b := ⟨b, n, h⟩
  unfold loopFix
  rw [dif_pos hh]
  obtain ⟨m, hm⟩ := hh.choose_spec
  have h1 := runN_le step (Nat.le_max_left n m) h
  have h2 := runN_le step (Nat.le_max_right n m) hm
  rw [h1] at h2
  exact (Option.some.inj h2).symm
theorem loopFix_run {step : σ → Sum σ β} {dflt : β} {s : σ} (h : loopFix step dflt s ≠ dflt) : ∃ n, runN step n s = some (loopFix step dflt s) := by
  by_cases hh : ∃ b, ∃ n, runN step n s = some b
  · obtain ⟨b, n, e⟩ := hh
    exact ⟨n, by rw [loopFix_of e]; exact e⟩
  · exact absurd (by unfold loopFix; rw [dif_neg hh]) h
theorem loopFix_eq (step : σ → Sum σ β) (dflt : β) (s : σ) : loopFix step dflt s = match step s with
    | .inl s' => loopFix step dflt s'
    | .inr b => b := by
  cases e : step s with
  | inr b => exact loopFix_of (n := 1) (by unfold runN; rw [e])
  | inl s' =>
    by_cases hh : ∃ b, ∃ n, runN step n s' = some b
    · obtain ⟨b, n, q⟩ := hh
      show _ = loopFix step dflt s'
      rw [loopFix_of q]
      exact loopFix_of (n := n + 1) (by unfold runN; rw [e]; exact q)
    · have h2 : ¬ ∃ b, ∃ n, runN step n s = some b := fun ⟨b, n, q⟩ => by
        cases n with
        | zero => cases q
        | succ n =>
          unfold runN at q
          rw [e] at q
          exact hh ⟨b, n, q⟩
      show _ = loopFix step dflt s'
      unfold loopFix
      rw [dif_neg hh, dif_neg h2]
end
def whStep (t : EB) (F : FF) (q : SD × Store) : Sum (SD × Store) SRes := match t q.1 q.2 with
  | .ok true S1 => match F q.1 S1 with
    | .nx sd' S' => .inl (sd', S')
    | .ct sd' S' => .inl (sd', S')
    | .bk sd' S' => .inr (.nx sd' S')
    | r => .inr r
  | .ok false S1 => .inr (.nx q.1 S1)
  | .exc e S1 => .inr (.exc e q.1 S1)
  | .bad => .inr .bad
noncomputable def sWhile (t : EB) (F : FF) : FF := fun sd S => loopFix (whStep t F) .bad (sd, S)
section
variable {X : Cx} {T : List Cls} {W : WX} {c : Expr} {tc : EB} {pos : Pos} {body : List Stmt} {F : FF}
theorem s_while (hp : PassesOwn (model X.prog X.w) X.A X.env X.xe) (hc : PT X c (LB (cx X T) W tc)) (hb : PSs X body (LS (cx X T) W F)) : PS X (.While c body [] pos) (LS (cx X T) W (sWhile tc F)) :=
  (ps_while hp hc hb).imp fun Dn σ H ⟨sd, ρ, S, h1, h2, h3⟩ => by
    have nb : sWhile tc F sd S ≠ .bad := fun e => by rw [e] at h3; exact h3
    obtain ⟨n, hn⟩ := loopFix_run nb
    refine ⟨fun m σ H => ∃ sd ρ S r, Slots (cx X T) ρ H sd σ ∧ SRep (cx X T) ρ H S ∧ runN (whStep tc F) m (sd, S) = some r ∧ EndS (cx X T) W Dn ρ H r, ⟨n, sd, ρ, S, _, h1, h2, hn, h3⟩, ?_⟩
    rintro m σ H ⟨sd, ρ, S, r, h1, h2, hr, h3⟩
    cases m with
    | zero => cases hr
    | succ m =>
      refine ⟨sd, ρ, S, h1, h2, ?_⟩
      unfold runN whStep at hr
      dsimp only at hr
      cases e : tc sd S with
      | bad => rw [e] at hr; cases hr; exact h3.elim
      | exc x S1 =>
        rw [e] at hr
        cases hr
        exact fun cl d ρ' H' l s q => h3 cl d σ ρ' H' l (h1.le l) s q
      | ok k S1 =>
        intro k' ρ1 H1 l1 s1 rk
        cases rk
        cases k with
        | false =>
          rw [e] at hr
          cases hr
          rw [if_neg Bool.false_ne_true]
          exact h3 σ ρ1 H1 l1 (h1.le l1) s1
        | true =>
          rw [if_pos rfl]
          rw [e] at hr
          dsimp only at hr
          refine ⟨fun σ' H' => ∃ sd ρ S r, Slots (cx X T) ρ H' sd σ' ∧ SRep (cx X T) ρ H' S ∧ runN (whStep tc F) m (sd, S) = some r ∧ EndS (cx X T) W Dn ρ H' r, fun σ' H' z => ⟨m, Nat.lt_succ_self _, z⟩, sd, ρ1, S1, h1.le l1, s1, ?_⟩
          have h4 := EndS.base l1 h3
          cases ef : F sd S1 with
          | nx sd' S' =>
            rw [ef] at hr
            exact fun σ' ρ' H' l z1 z2 => ⟨sd', ρ', S', r, z1, z2, hr, EndS.base l h4⟩
          | ct sd' S' =>
            rw [ef] at hr
            exact fun σ' ρ' H' l z1 z2 => ⟨sd', ρ', S', r, z1, z2, hr, EndS.base l h4⟩
          | bk sd' S' => rw [ef] at hr; cases hr; exact h4
          | rt d S' => rw [ef] at hr; cases hr; exact h4
          | exc x sd' S' => rw [ef] at hr; cases hr; exact h4
          | bad => rw [ef] at hr; cases hr; exact h4
end
end Lay

set_option Elab.async false
set_option linter.all false
set_option maxRecDepth 100000
set_option maxHeartbeats 4000000
/-! L4: for, list comprehensions, methods of lists, defs and their calls. -/
namespace Lay
open PySem PySem.Spec PyProof.Rows L2
open Classical
/-! ### what is walked -/
structure ITd where
  ds : List D
  chk : Store → Prop
abbrev EI := SD → Store → Res ITd
def ItOk (C : Ctx) (t : ITd) (J : It) (ρ0 : List Addr) (H0 : Hp) : Prop := ∀ ρ H S, Le ρ0 H0 ρ H → SRep C ρ H S → t.chk S →
  (∀ i, i < t.ds.length → J.go i H) ∧ J.stop t.ds.length H ∧ ∀ i x H', J.yld i H x H' → ∀ d, t.ds[i]? = some d → Le ρ H ρ H' ∧ SRep C ρ H' S ∧ Rep C ρ H' d x
abbrev LI (C : Ctx) (W : WX) (m : EI) : TI := LG C (fun t J ρ H => ItOk C t J ρ H) W m
theorem _root_.L2.PI.imp {X : Cx} {tg e : Expr} {t t' : TI} (h : PI X tg e t) (k : ∀ σ H Q, t' σ H Q → t σ H Q) : PI X tg e t' := ⟨fun pins s σ H Q I q => h.run pins s σ H Q I (k σ H Q q)⟩
theorem _root_.L2.PI.or {X : Cx} {tg e : Expr} {t t' : TI} (h : PI X tg e t) (h' : PI X tg e t') : PI X tg e (fun σ H Q => t σ H Q ∨ t' σ H Q) := ⟨fun pins s σ H Q I q => q.elim (fun z => h.run pins s σ H Q I z) fun z => h'.run pins s σ H Q I z⟩
section
variable {C : Ctx} {ρ0 : List Addr} {H0 : Hp}
theorem itOk_list {n : Nat} {ds : List D} {a : Addr} (hρ : ρ0[n]? = some a) : ItOk C ⟨ds, fun S => rdL S n = some ds⟩ (Itl C.K a) ρ0 H0 := by
  intro ρ H S l s e
  obtain ⟨b, xs, e1, q1, q2⟩ := s.rd (rep_ref.mpr ⟨a, l.at hρ, rfl⟩) e
  cases e1
  refine ⟨fun i hi => ?_, ⟨xs, q1, by rw [← q2.length]; exact Nat.le_refl _⟩, fun i x H' ⟨e2, y⟩ d hd => ?_⟩
  · have hi' : i < xs.length := by rw [← q2.length]; exact hi
    exact ⟨xs, xs[i], q1, by simp [hi']⟩
  · subst e2
    obtain ⟨v, h1, h2⟩ := q2.get hd
    rw [y xs q1] at h1
    cases h1
    exact ⟨Le.refl, s, h2⟩
theorem itOk_tup {ds : List D} {a : Addr} {xs : List V} (q1 : SqT C.K H0 a xs) (q2 : Reps C ρ0 H0 ds xs) : ItOk C ⟨ds, fun _ => True⟩ (Itt C.K a) ρ0 H0 := by
  intro ρ H S l s _
  have p1 := SqT.le l q1
  have p2 := q2.le l
  refine ⟨fun i hi => ?_, ⟨xs, p1, by rw [← q2.length]; exact Nat.le_refl _⟩, fun i x H' ⟨e2, y⟩ d hd => ?_⟩
  · have hi' : i < xs.length := by rw [← q2.length]; exact hi
    exact ⟨xs, xs[i], p1, by simp [hi']⟩
  · subst e2
    obtain ⟨v, h1, h2⟩ := p2.get hd
    rw [y xs p1] at h1
    cases h1
    exact ⟨Le.refl, s, h2⟩
/-- lo, lo + 1, .. -/
def rngD (lo : Int) (n : Nat) : List D := (List.range n).map fun (i : Nat) => D.int (lo + (i : Int))
theorem itOk_range {lo : Int} {n : Nat} : ItOk C ⟨rngD lo n, fun _ => True⟩ (Itr lo n) ρ0 H0 := by
  intro ρ H S l s _
  have hl : (rngD lo n).length = n := by simp [rngD]
  refine ⟨fun i hi => by rw [hl] at hi; exact hi, by rw [hl]; exact Nat.le_refl n, fun i x H' ⟨e2, y⟩ d hd => ?_⟩
  subst e2
  subst y
  simp [rngD, List.getElem?_map] at hd
  obtain ⟨k, hk, rfl⟩ := hd
  have : k = i := by
    obtain ⟨h, e⟩ := List.getElem?_eq_some_iff.mp hk
    simpa using e.symm
  subst this
  exact ⟨Le.refl, s, rep_int.mpr rfl⟩
end
@[irreducible] def inR (i : Int) : Bool := decide (-(2 ^ 62) ≤ i ∧ i < 2 ^ 62)
theorem inR_of {i : Int} (h1 : -(2 ^ 62) ≤ i) (h2 : i < 2 ^ 62) : inR i = true := by unfold inR; exact decide_eq_true ⟨h1, h2⟩
theorem of_inR {i : Int} (h : inR i = true) : -(2 ^ 62) ≤ i ∧ i < 2 ^ 62 := by unfold inR at h; exact of_decide_eq_true h
def itRange (aa : EA) : EI := eBind aa fun xs => fun _ S => match xs with
  | [.int j] => if inR j then .ok ⟨rngD 0 j.toNat, fun _ => True⟩ S else .bad
  | _ => .bad
def itRange2 (aa : EA) : EI := eBind aa fun xs => fun _ S => match xs with
  | [.int i, .int j] => if inR i && inR j then .ok ⟨rngD i (j - i).toNat, fun _ => True⟩ S else .bad
  | _ => .bad
/-- the signs of a text, one by one -/
def signs (z : Str) : List D := z.cps.toList.map fun c => D.str ⟨#[c]⟩
section
variable {C : Ctx} {ρ0 : List Addr} {H0 : Hp}
theorem itOk_str {z : Str} : ItOk C ⟨signs z, fun _ => True⟩ (Its z) ρ0 H0 := by
  intro ρ H S l s _
  have hl : (signs z).length = z.cps.size := by simp [signs]
  refine ⟨fun i hi => by rw [hl] at hi; exact hi, by rw [hl]; exact Nat.le_refl _, fun i x H' ⟨e2, c, h1, h2⟩ d hd => ?_⟩
  subst e2
  subst h2
  have : (signs z)[i]? = some (.str ⟨#[c]⟩) := by
    have q : z.cps.toList[i]? = some c := by simpa using h1
    rw [signs, List.getElem?_map, q]
    rfl
  rw [this] at hd
  cases hd
  exact ⟨Le.refl, s, rep_str.mpr rfl⟩
end
/-- a list, a tuple, a text, as it comes -/
def iAny (K : PySem.W.Frag) (tl : TE) : TI := fun σ H R => tl σ H fun x H1 =>
  (∃ a xs, x = .ref a ∧ SqL K H1 a xs ∧ R (Itl K a) H1) ∨ (∃ a xs, x = .ref a ∧ SqT K H1 a xs ∧ R (Itt K a) H1) ∨ (∃ z, x = .str z ∧ R (Its z) H1)
section
variable {X : Cx} {T : List Cls} {W : WX} {a b c e l tg iter : Expr} {es : List Expr} {fa fb fc m : EE} {aa : EA} {tc : EB} {pos p : Pos} {st : Stmt} {body : List Stmt} {F G : FF} {it : EI} {g : GD} {vs : List Nat}
theorem pi_any {tl : TE} (hl : PE X l tl) : PI X tg l (iAny X.K tl) := by
  refine ⟨fun pins s σ H R I h => thn (hl.run pins s σ H _ I h) fun v s1 ⟨x, H1, I1, r1, q1⟩ => ?_⟩
  rcases q1 with ⟨a, xs, e1, h1, q⟩ | ⟨a, xs, e1, h1, q⟩ | ⟨z, e1, q⟩
  · subst e1
    cases r1
    obtain ⟨us, _, pl, _⟩ := I1.list h1
    have go := pi_one (tg := tg) (tk := s1.toks) I1 { cls := .type "list_iterator", data := .fields #[.ref a, rawInt 0] } (turn_list a _) ⟨_, Heap.get?_push_size _ rfl, rfl, rfl⟩ q
    exact wpAny_pyIter_list pl.isList go
  · subst e1
    cases r1
    obtain ⟨us, _, pt, _⟩ := I1.tuple h1
    have go := pi_one (tg := tg) (tk := s1.toks) I1 { cls := .type "tuple_iterator", data := .fields #[.ref a, rawInt 0] } (turn_tuple a _) ⟨_, Heap.get?_push_size _ rfl, rfl, rfl⟩ q
    exact wpAny_pyIter_tuple pt go
  · subst e1
    obtain ⟨t, rfl⟩ := r1
    by_cases ha : z.cps.all (· < 128) = true
    · have go := pi_one (tg := tg) (tk := s1.toks) I1 { cls := .type "str_ascii_iterator", data := .fields #[.str z t, rawInt 0] } (turn_str _ z t "str_ascii_iterator" (.inl rfl)) ⟨_, Heap.get?_push_size _ rfl, rfl, rfl⟩ q
      exact wpAny_pyIter_ascii ha go
    · have go := pi_one (tg := tg) (tk := s1.toks) I1 { cls := .type "str_iterator", data := .fields #[.str z t, rawInt 0] } (turn_str _ z t "str_iterator" (.inr rfl)) ⟨_, Heap.get?_push_size _ rfl, rfl, rfl⟩ q
      exact wpAny_pyIter_wide (Bool.eq_false_iff.mpr ha) go
def itSeq (m : EE) : EI := eBind m fun d => fun _ S => match d with
  | .tup ds => .ok ⟨ds, fun _ => True⟩ S
  | .ref n => match rdL S n with
    | some ds => .ok ⟨ds, fun S' => rdL S' n = some ds⟩ S
    | none => .bad
  | .str z => .ok ⟨signs z, fun _ => True⟩ S
  | _ => .bad
theorem i_seq (ha : PE X l (LE (cx X T) W fa)) : PI X tg l (LI (cx X T) W (itSeq fa)) := (pi_any ha).imp fun σ H R ⟨sd, ρ, S, h1, h2, h3⟩ => by
  refine LG.run h1 h2 h3 fun dx x ρ1 S1 H1 l1 s1 r1 k1 => ?_
  split at k1
  · obtain ⟨a, xs, rfl, q1, q2⟩ := rep_tup.mp r1
    exact .inr (.inl ⟨a, xs, rfl, q1, k1 _ ρ1 H1 Le.refl s1 (itOk_tup q1 q2)⟩)
  · split at k1
    · rename_i ds hd
      obtain ⟨a, e1, rfl⟩ := rep_ref.mp r1
      obtain ⟨b, xs, e2, q1, q2⟩ := s1.rd r1 hd
      cases e2
      exact .inl ⟨a, xs, rfl, q1, k1 _ ρ1 H1 Le.refl s1 (itOk_list e1)⟩
    · exact k1.elim
  · rename_i z
    obtain rfl := rep_str.mp r1
    exact .inr (.inr ⟨_, rfl, k1 _ ρ1 H1 Le.refl s1 itOk_str⟩)
  · exact k1.elim

theorem i_range1 (hg : Gl X "range") (hm : X.mg "range" = none) (ha : PA X [a] (LA (cx X T) W aa)) (hs : starEach [a] X.env = [(false, eval a X.env)] := by rfl) : PI X tg (.Call (.Name "range" p) [a] [] pos) (LI (cx X T) W (itRange aa)) :=
  (pi_range1 hg hm ha hs).imp fun σ H R ⟨sd, ρ, S, h1, h2, h3⟩ => by
    refine LG.run h1 h2 h3 fun dx x ρ1 S1 H1 l1 s1 r1 k1 => ?_
    split at k1
    · rename_i j
      split at k1
      · rename_i hf
        obtain ⟨v, rfl, r⟩ := Reps.one r1
        obtain rfl := rep_int.mp r
        obtain ⟨q1, q2⟩ := of_inR hf
        exact ⟨j, rfl, q1, q2, k1 _ ρ1 H1 Le.refl s1 itOk_range⟩
      · exact k1.elim
    · exact k1.elim
theorem i_range2 (hg : Gl X "range") (hm : X.mg "range" = none) (ha : PA X [a, b] (LA (cx X T) W aa)) (hs : starEach [a, b] X.env = [(false, eval a X.env), (false, eval b X.env)] := by rfl) (hs2 : starEach [b] X.env = [(false, eval b X.env)] := by rfl) :
    PI X tg (.Call (.Name "range" p) [a, b] [] pos) (LI (cx X T) W (itRange2 aa)) :=
  (pi_range2 hg hm ha hs hs2).imp fun σ H R ⟨sd, ρ, S, h1, h2, h3⟩ => by
    refine LG.run h1 h2 h3 fun dx x ρ1 S1 H1 l1 s1 r1 k1 => ?_
    split at k1
    · rename_i i j
      split at k1
      · rename_i hf
        obtain ⟨f1, f2⟩ := Bool.and_eq_true_iff.mp hf
        obtain ⟨v, w, rfl, r, r'⟩ := Reps.two r1
        obtain rfl := rep_int.mp r
        obtain rfl := rep_int.mp r'
        obtain ⟨q1, q2⟩ := of_inR f1
        obtain ⟨q3, q4⟩ := of_inR f2
        exact ⟨i, j, rfl, ⟨q1, q2, q3, q4⟩, k1 _ ρ1 H1 Le.refl s1 itOk_range⟩
      · exact k1.elim
    · exact k1.elim
/-! ### for -/
noncomputable def forD (g : GD) (F : FF) (chk : Store → Prop) : List D → FF
  | [] => fun sd S => if chk S then .nx sd S else .bad
  | d :: ds => fun sd S => if chk S then match g d sd S with
    | some (sd1, S1) => match F sd1 S1 with
      | .nx sd' S' => forD g F chk ds sd' S'
      | .ct sd' S' => forD g F chk ds sd' S'
      | .bk sd' S' => .nx sd' S'
      | r => r
    | none => .bad else .bad
noncomputable def sFor (it : EI) (g : GD) (F : FF) : FF := sBind it fun t => forD g F t.chk t.ds
theorem s_for (hp : PassesOwn (model X.prog X.w) X.A X.env X.xe) (hc : X.calm = true) (hi : PI X tg iter (LI (cx X T) W it)) (hg : PG X tg (LT (cx X T) vs g)) (hb : PSs X body (LS (cx X T) W F))
    (hs : ∀ x, foldedSetIterable iter X.env x = pure x := by intro _; rfl) : PS X (.For tg iter body [] pos) (LS (cx X T) W (sFor it g F)) := (ps_for hp hc hi hg hb hs).imp fun Dn σ H ⟨sd, ρ, S, h1, h2, h3⟩ => by
  refine LS.run h1 h2 h3 fun t J ρ1 S1 H1 l1 s1 ok k1 => ?_
  refine ⟨fun i m σ H => m = t.ds.length - i ∧ i ≤ t.ds.length ∧ ∃ sd ρ S, Le ρ1 H1 ρ H ∧ Slots (cx X T) ρ H sd σ ∧ SRep (cx X T) ρ H S ∧ EndS (cx X T) W Dn ρ H (forD g F t.chk (t.ds.drop i) sd S),
    ⟨_, rfl, Nat.zero_le _, sd, ρ1, S1, Le.refl, h1.le l1, s1, k1⟩, ?_⟩
  rintro i m σ H ⟨rfl, hi, sd, ρ, S, l, z1, z2, z3⟩
  by_cases hlt : i < t.ds.length
  · right
    rw [List.drop_eq_getElem_cons hlt] at z3
    unfold forD at z3
    by_cases hck : t.chk S
    · rw [if_pos hck] at z3
      obtain ⟨c1, c2, c3⟩ := ok ρ H S l z2 hck
      refine ⟨c1 i hlt, fun σ' H' => ∃ sd ρ S, Le ρ1 H1 ρ H' ∧ Slots (cx X T) ρ H' sd σ' ∧ SRep (cx X T) ρ H' S ∧ EndS (cx X T) W Dn ρ H' (forD g F t.chk (t.ds.drop (i + 1)) sd S), fun σ' H' z => ⟨t.ds.length - (i + 1), by omega, rfl, hlt, z⟩, fun x H' y => ?_⟩
      obtain ⟨q1, q2, q3⟩ := c3 i x H' y t.ds[i] (by simp [hlt])
      cases eg : g t.ds[i] sd S with
      | none => rw [eg] at z3; exact z3.elim
      | some z =>
        rw [eg] at z3
        refine ⟨t.ds[i], sd, ρ, S, z, q3, z1.le q1, q2, eg, fun σ2 ρ2 H2 l2 _ w1 w2 => ?_⟩
        have L1 := q1.trans l2
        refine ⟨z.1, ρ2, z.2, w1, w2, ?_⟩
        have z4 := EndS.base L1 z3
        dsimp only at z4
        cases ef : F z.1 z.2 with
        | nx sd' S' =>
          rw [ef] at z4
          exact fun σ' ρ' H' l' y1 y2 => ⟨sd', ρ', S', l.trans (L1.trans l'), y1, y2, EndS.base l' z4⟩
        | ct sd' S' =>
          rw [ef] at z4
          exact fun σ' ρ' H' l' y1 y2 => ⟨sd', ρ', S', l.trans (L1.trans l'), y1, y2, EndS.base l' z4⟩
        | bk sd' S' => rw [ef] at z4; exact z4
        | rt d S' => rw [ef] at z4; exact z4
        | exc e sd' S' => rw [ef] at z4; exact z4
        | bad => rw [ef] at z4; exact z4
    · rw [if_neg hck] at z3
      exact z3.elim
  · left
    have e : i = t.ds.length := by omega
    subst e
    rw [List.drop_length] at z3
    unfold forD at z3
    by_cases hck : t.chk S
    · rw [if_pos hck] at z3
      obtain ⟨c1, c2, c3⟩ := ok ρ H S l z2 hck
      exact ⟨c2, z3 σ ρ H Le.refl z1 z2⟩
    · rw [if_neg hck] at z3
      exact z3.elim
/-! ### list comprehensions -/
def WN : WX := fun _ _ _ _ => False
def wipeD (sd : SD) : List Nat → SD
  | [] => sd
  | v :: vs => (wipeD sd vs).set v none
theorem wipeD_slots {C : Ctx} {ρ : List Addr} {H : Hp} {sd : SD} {σ : St} (h : Slots C ρ H sd σ) : ∀ vs : List Nat, Slots C ρ H (wipeD sd vs) (wipe σ vs)
  | [] => h
  | v :: vs => by
    have ih := wipeD_slots h vs
    refine ⟨by unfold wipeD wipe; simp [ih.len], fun i d e => ?_⟩
    unfold wipeD at e
    unfold wipe
    by_cases hv : v = i
    · subst hv
      by_cases hl : v < (wipeD sd vs).length
      · rw [List.getElem?_set_self hl] at e; cases e
      · rw [List.getElem?_eq_none (by simpa using hl)] at e; cases e
    · rw [List.getElem?_set_ne hv] at e
      obtain ⟨w, e1, r⟩ := ih.at_ i d e
      exact ⟨w, by rw [List.getElem?_set_ne hv]; exact e1, r⟩
theorem wipe_at (σ : St) : ∀ (vs : List Nat) (j : Nat), (wipe σ vs)[j]? = if j ∈ vs then (if j < σ.length then some none else none) else σ[j]?
  | [], j => by simp [wipe]
  | v :: vs, j => by
    have ih := wipe_at σ vs j
    unfold wipe
    by_cases h : v = j
    · subst h
      by_cases hl : v < (wipe σ vs).length
      · have hl2 : v < σ.length := by rw [wipe_length] at hl; exact hl
        rw [List.getElem?_set_self hl]
        simp [hl2]
      · have hl2 : ¬ v < σ.length := by rw [wipe_length] at hl; exact hl
        rw [List.getElem?_eq_none (by simpa using hl)]
        simp [hl2]
    · have h' : j ≠ v := fun e => h e.symm
      rw [List.getElem?_set_ne h, ih]
      simp [h']
theorem wipe_off {vs : List Nat} {σ σ' : St} (h : Off vs (wipe σ vs) σ') : wipe σ' vs = wipe σ vs := by
  refine List.ext_getElem? fun j => ?_
  have hl : σ'.length = σ.length := by rw [h.1, wipe_length]
  rw [wipe_at, wipe_at, hl]
  by_cases hj : j ∈ vs
  · simp [hj]
  · simp only [hj, if_false]
    rw [h.2 j hj, wipe_at]
    simp [hj]
noncomputable def lcD (n : Nat) (g : GD) (tt : EB) (te : EE) (vs : List Nat) (chk : Store → Prop) (sd : SD) : List D → Store → Option Store
  | [], S => if chk S then some S else none
  | d :: ds, S => if chk S then match g d (wipeD sd vs) S with
    | some (sd1, S1) => match tt sd1 S1 with
      | .ok true S2 => match te sd1 S2 with
        | .ok y S3 => match S3[n]? with
          | some (.lst acc) => if fits (acc.length + 1) then lcD n g tt te vs chk sd ds (S3.set n (.lst (acc ++ [y]))) else none
          | _ => none
        | _ => none
      | .ok false S2 => lcD n g tt te vs chk sd ds S2
      | _ => none
    | none => none else none
noncomputable def eLc (it : EI) (g : GD) (tt : EB) (te : EE) (vs : List Nat) : EE := eBind it fun t => fun sd S => match lcD S.length g tt te vs t.chk sd t.ds (S ++ [.lst []]) with
  | some S' => .ok (.ref S.length) S'
  | none => .bad
def bTrue : EB := fun _ S => .ok true S
variable {tt : EB} {te : EE}
theorem ts_nil : PTs X [] (LB (cx X T) W bTrue) := ⟨fun pins s σ H Q I ⟨sd, ρ, S, h1, h2, h3⟩ => pts_nil.run pins s σ H Q I (h3 true ρ H Le.refl h2 rfl)⟩
theorem ts_one (h : PT X c (LB (cx X T) W tc)) : PTs X [c] (LB (cx X T) W tc) := pts_one h
theorem eLc_run {σ : St} {H : Hp} {Q : VK} (h : LE (cx X T) W (eLc it g tt te vs) σ H Q) : tLc (LI (cx X T) W it) (LT (cx X T) vs g) (LB (cx X T) WN tt) (LE (cx X T) WN te) vs σ H Q := by
  obtain ⟨sd, ρ, S, h1, h2, h3⟩ := h
  refine LG.run h1 h2 h3 fun t J ρ1 S1 H1 l1 s1 ok k1 => ?_
  intro p hp
  cases er : lcD S1.length g tt te vs t.chk sd t.ds (S1 ++ [.lst []]) with
  | none => rw [er] at k1; exact k1.elim
  | some Sr =>
    rw [er] at k1
    have s2 : SRep (cx X T) (ρ1 ++ [p]) (upd H1 p (.lst [])) (S1 ++ [.lst []]) := s1.push hp ⟨[], upd_same, Reps.nil⟩
    have hat : (ρ1 ++ [p])[S1.length]? = some p := by rw [← s1.len, List.getElem?_append_right (Nat.le_refl _)]; simp
    have b1 := h1.le l1
    refine ⟨fun i m H => m = t.ds.length - i ∧ i ≤ t.ds.length ∧ ∃ ρ S, Le (ρ1 ++ [p]) (upd H1 p (.lst [])) ρ H ∧ SRep (cx X T) ρ H S ∧ lcD S1.length g tt te vs t.chk sd (t.ds.drop i) S = some Sr,
      ⟨_, rfl, Nat.zero_le _, ρ1 ++ [p], _, Le.refl, s2, er⟩, ?_⟩
    rintro i m H ⟨rfl, hi, ρ, S, l, z2, z3⟩
    have lb := (Le.newR (o := .lst []) hp).trans l
    by_cases hlt : i < t.ds.length
    · right
      rw [List.drop_eq_getElem_cons hlt] at z3
      unfold lcD at z3
      split at z3
      · rename_i hck
        obtain ⟨c1, c2, c3⟩ := ok ρ H S lb z2 hck
        refine ⟨c1 i hlt, fun H' => ∃ ρ S, Le (ρ1 ++ [p]) (upd H1 p (.lst [])) ρ H' ∧ SRep (cx X T) ρ H' S ∧ lcD S1.length g tt te vs t.chk sd (t.ds.drop (i + 1)) S = some Sr, fun H' z => ⟨t.ds.length - (i + 1), by omega, rfl, hlt, z⟩, fun x H' y => ?_⟩
        obtain ⟨q1, q2, q3⟩ := c3 i x H' y t.ds[i] (by simp [hlt])
        have bw := wipeD_slots (b1.le (lb.trans q1)) vs
        cases eg : g t.ds[i] (wipeD sd vs) S with
        | none => rw [eg] at z3; cases z3
        | some z =>
          rw [eg] at z3
          refine ⟨t.ds[i], wipeD sd vs, ρ, S, z, q3, bw, q2, eg, fun σ2 ρ2 H2 l2 of w1 w2 => ⟨wipe_off of, ?_⟩⟩
          refine ⟨z.1, ρ2, z.2, w1, w2, ?_⟩
          dsimp only at z3
          cases et : tt z.1 z.2 with
          | bad => rw [et] at z3; cases z3
          | exc e S' => rw [et] at z3; cases z3
          | ok k S2 =>
            rw [et] at z3
            intro k' ρ3 H3 l3 w3 ek
            cases ek
            have L3 := (q1.trans l2).trans l3
            cases k with
            | false => exact ⟨ρ3, S2, l.trans L3, w3, z3⟩
            | true =>
              rw [if_pos rfl]
              refine ⟨z.1, ρ3, S2, w1.le l3, w3, ?_⟩
              dsimp only at z3
              cases ee : te z.1 S2 with
              | bad => rw [ee] at z3; cases z3
              | exc e S' => rw [ee] at z3; cases z3
              | ok y S3 =>
                rw [ee] at z3
                intro v ρ4 H4 l4 w4 r4
                dsimp only at z3
                split at z3
                · rename_i acc hacc
                  split at z3
                  · rename_i hf
                    have L4 := l.trans (L3.trans l4)
                    obtain ⟨xs, q5, q6⟩ := w4.at_ S1.length p _ (L4.at hat) hacc
                    refine ⟨xs, q5, by have := fits_line hf; rw [← q6.length]; omega, ?_⟩
                    obtain ⟨l5, s5⟩ := w4.lst_upd (L4.at hat) hacc q5 (q6.append (Reps.cons r4 Reps.nil))
                    exact ⟨ρ4, _, L4.trans l5, s5, z3⟩
                  · cases z3
                · cases z3
      · cases z3
    · left
      have e : i = t.ds.length := by omega
      subst e
      rw [List.drop_length] at z3
      unfold lcD at z3
      split at z3
      · rename_i hck
        obtain ⟨c1, c2, c3⟩ := ok ρ H S lb z2 hck
        cases z3
        exact ⟨c2, k1 _ ρ H lb z2 (rep_ref.mpr ⟨p, l.at hat, rfl⟩)⟩
      · cases z3
theorem e_lc {elt : Expr} {ifs : List Expr} {scope : Scope} {own : List (Str × Nat)} (hc : X.calm = true) (hN : X.N.Nodup) (hi : PI X tg iter (LI (cx X T) W it)) (ok : BlkOk X.N X.env.scope scope own)
    (hg : ∀ (s : Shared) (H : Hp) (C : Addr) (cl : List (Str × Addr)) (fp : List Addr), PG (X.blk s H scope (compEnvC scope cl C X.env) fp) tg (LT (cx X T) (own.map (·.2)) g))
    (ht : ∀ (s : Shared) (H : Hp) (C : Addr) (cl : List (Str × Addr)) (fp : List Addr), PTs (X.blk s H scope (compEnvC scope cl C X.env) fp) ifs (LB (cx X T) WN tt))
    (he : ∀ (s : Shared) (H : Hp) (C : Addr) (cl : List (Str × Addr)) (fp : List Addr), PE (X.blk s H scope (compEnvC scope cl C X.env) fp) elt (LE (cx X T) WN te)) (hs : ∀ x, foldedSetIterable iter X.env x = pure x := by intro _; rfl) :
    PE X (.ListComp elt [⟨tg, iter, ifs, 0⟩] scope pos) (LE (cx X T) W (eLc it g tt te (own.map (·.2)))) := (pe_lc hc hN hi ok hg ht he hs).imp fun _ _ _ h => eLc_run h
theorem s_setLc {i : Nat} {y : Str} {py spos : Pos} {elt : Expr} {ifs : List Expr} {scope : Scope} {own : List (Str × Nat)} (hc : X.calm = true) (hN : X.N.Nodup) (hy : X.N[i]? = some y) (hyl : X.env.scope.names.lookup y = some .local)
    (hsw : swapsWith (.ListComp elt [⟨tg, iter, ifs, 0⟩] scope pos) (some (.Name y py)) spos.line X.env = pure true) (hi : PI X tg iter (LI (cx X T) W it)) (ok : BlkOk X.N X.env.scope scope own)
    (hg : ∀ (s : Shared) (H : Hp) (C : Addr) (cl : List (Str × Addr)) (fp : List Addr), PG (X.blk s H scope (compEnvC scope cl C X.env) fp) tg (LT (cx X T) (own.map (·.2)) g))
    (ht : ∀ (s : Shared) (H : Hp) (C : Addr) (cl : List (Str × Addr)) (fp : List Addr), PTs (X.blk s H scope (compEnvC scope cl C X.env) fp) ifs (LB (cx X T) WN tt))
    (he : ∀ (s : Shared) (H : Hp) (C : Addr) (cl : List (Str × Addr)) (fp : List Addr), PE (X.blk s H scope (compEnvC scope cl C X.env) fp) elt (LE (cx X T) WN te)) (hs : ∀ x, foldedSetIterable iter X.env x = pure x := by intro _; rfl) :
    PS X (.Assign [.Name y py] (.ListComp elt [⟨tg, iter, ifs, 0⟩] scope pos) spos) (LS (cx X T) W (sSet i (eLc it g tt te (own.map (·.2))))) := (ps_setLc hc hN hy hyl hsw hi ok hg ht he hs).imp fun Dn σ H ⟨sd, ρ, S, h1, h2, h3⟩ => by
  have z : LE (cx X T) W (eLc it g tt te (own.map (·.2))) σ H fun x H1 => Dn.nx (σ.set i (some x)) H1 := LS.run h1 h2 h3 fun dx x ρ1 S1 H1 l1 s1 r1 k1 => k1 _ ρ1 H1 Le.refl ((h1.le l1).set r1) s1
  exact eLc_run z
end
end Lay

set_option Elab.async false
set_option linter.all false
set_option maxRecDepth 100000
set_option maxHeartbeats 4000000
/-! L5: methods of lists, defs and their calls, kinds of values. -/
namespace Lay
open PySem PySem.Spec PyProof.Rows L2
/-! ### methods of lists -/
abbrev PM := D → List D → Store → Pr D
def isL (x : D) (S : Store) : Bool := match x with
  | .ref n => (rdL S n).isSome
  | _ => false
def eMthL (g : PM) (fo : EE) (aa : EA) : EE := eBind fo fun x => eBind (fun _ S => if isL x S then .ok () S else .bad) fun _ => eBind aa fun xs => fun _ S => .ofO (g x xs S)
def rM (C : Ctx) (g : PM) : V → List V → Hp → VK → Prop := fun x xs H Q => ∃ dx ds ρ S, Rep C ρ H dx x ∧ Reps C ρ H ds xs ∧ SRep C ρ H S ∧ EndP C ρ H (RD C) (g dx ds S) Q
section
variable {X : Cx} {T : List Cls} {W : WX} {o e : Expr} {es : List Expr} {fo : EE} {aa : EA} {name : Str} {apos cpos : Pos} {id : String} {g : PM}
theorem eMthL_run {σ : St} {H : Hp} {Q : VK} (h : LE (cx X T) W (eMthL g fo aa) σ H Q) : tBM X.K "list" (rM (cx X T) g) (LE (cx X T) W fo) (LA (cx X T) W aa) σ H Q := by
  obtain ⟨sd, ρ, S, h1, h2, h3⟩ := h
  refine LG.run h1 h2 h3 fun dx x ρ1 S1 H1 l1 s1 r1 k1 => ?_
  rw [eBind_of] at k1
  cases q : isL dx S1 with
  | false => simp only [q] at k1; exact k1.elim
  | true =>
    simp only [q, if_true, bind_ok] at k1
    unfold isL at q
    split at q
    · rename_i n
      obtain ⟨ds, hd⟩ := Option.isSome_iff_exists.mp q
      obtain ⟨a, xs, rfl, q1, q2⟩ := s1.rd r1 hd
      refine ⟨.inl ⟨rfl, xs, q1⟩, ?_⟩
      refine LG.run (h1.le l1) s1 k1 fun dy y ρ2 S2 H2 l2 s2 r2 k2 => ?_
      exact ⟨.ref n, dy, ρ2, S2, Rep.le l2 r1, r2, s2, k2.pr⟩
    · cases q
theorem e_mthL (slot : Slot "list" name id) (hty : typeOf (.builtin id) = pure (.type "method_descriptor")) (hm : MtR X id (rM (cx X T) g)) (ho : PE X o (LE (cx X T) W fo)) (ha : PA X (e :: es) (LA (cx X T) W aa))
    (hbase : attributeBase o name X.env (eval o X.env) = eval o X.env := by rfl)
    (hfew : ((backTo cpos (starEach (e :: es) X.env)).all (fun x => !x.1) && (backToKw cpos (keywordEach [] X.env)).all (fun x => x.1.isSome)
      && decide ((e :: es).length + ([] : List Keyword).length + (if ([] : List Keyword).isEmpty then 0 else 1) < 30)) = true := by rfl)
    (hline : (apos.endLine == cpos.line) = true := by rfl) (hs : starEach (e :: es) X.env = (false, eval e X.env) :: starEach es X.env := by rfl) (hplain : (backTo cpos (starEach es X.env)).any (·.1) = false := by rfl) :
    PE X (.Call (.Attribute o name apos) (e :: es) [] cpos) (LE (cx X T) W (eMthL g fo aa)) := (pe_bm PySem.F.plainAttrs_list slot hty hm ho ha hbase hfew hline hs hplain).imp fun _ _ _ h => eMthL_run h
def pAppend : PM := fun x xs S => match x, xs with
  | .ref n, [y] => match S[n]? with
    | some (.lst ds) => if fits (ds.length + 1) then some (.non, S.set n (.lst (ds ++ [y]))) else none
    | _ => none
  | _, _ => none
theorem mt_pAppend : MtR X "list.append" (rM (cx X T) pAppend) := by
  intro pins s σ H x xs v us Q I rx rs ⟨dx, ds, ρ, S, h1, h2, h3, z, hz, k⟩
  unfold pAppend at hz
  split at hz
  · rename_i n y
    split at hz
    · rename_i ds hs
      split at hz
      · rename_i hf
        cases hz
        obtain ⟨a, ws, q0, rfl, q1, q2⟩ := h3.lst h1 hs
        obtain ⟨w, rfl, r⟩ := h2.one
        obtain ⟨l, s1⟩ := h3.lst_upd q0 hs q1 (q2.append (Reps.cons r Reps.nil))
        exact mt_append pins s σ H _ _ v us Q I rx rs ⟨a, ws, w, rfl, rfl, q1, by have := fits_line hf; rw [← q2.length]; omega, k _ _ _ l s1 (rep_non.mpr rfl)⟩
      · cases hz
    · cases hz
  · cases hz
def pPopAt : PM := fun x xs S => match x, xs with
  | .ref n, [.int i] => match S[n]? with
    | some (.lst ds) => if fits ds.length then (match ixN ds.length i with
      | some j => (ds[j]?).map fun d => (d, S.set n (.lst (ds.eraseIdx j)))
      | none => none) else none
    | _ => none
  | _, _ => none
theorem mt_pPopAt : MtR X "list.pop" (rM (cx X T) pPopAt) := by
  intro pins s σ H x xs v us Q I rx rs ⟨dx, ds, ρ, S, h1, h2, h3, z, hz, k⟩
  unfold pPopAt at hz
  split at hz
  · rename_i n i
    split at hz
    · rename_i ds hs
      split at hz
      · rename_i hf
        split at hz
        · rename_i j hj
          obtain ⟨d, hd, rfl⟩ := Option.map_eq_some_iff.mp hz
          obtain ⟨a, ws, q0, rfl, q1, q2⟩ := h3.lst h1 hs
          obtain ⟨w, rfl, r⟩ := h2.one
          obtain rfl := rep_int.mp r
          obtain ⟨y, e1, r1⟩ := q2.get hd
          obtain ⟨l, s1⟩ := h3.lst_upd q0 hs q1 (q2.eraseIdx j)
          obtain ⟨i1, i2, i3, i4⟩ := ixN_seq hj
          have hb := of_decide_eq_true (p := ds.length ≤ 16777216) hf
          exact mt_popAt pins s σ H _ _ v us Q I rx rs ⟨a, ws, i, j, y, rfl, rfl, q1, by omega, by omega, by rw [← q2.length]; exact i1, e1, k _ _ _ l s1 (r1.le l)⟩
        · cases hz
      · cases hz
    · cases hz
  · cases hz
end
/-! ### defs -/
def startD (n : Nat) (ds : List D) : SD := ds.map some ++ List.replicate (n - ds.length) none
def fnD (n np : Nat) (F : FF) : List D → M D := fun ds S => if ds.length = np then match F (startD n ds) S with
  | .nx _ S' => .ok .non S'
  | .rt d S' => .ok d S'
  | .exc e _ S' => .exc e S'
  | _ => .bad else .bad
def EndF (C : Ctx) (ρ : List Addr) (H : Hp) (r : Res D) (Q : VK) (E : XK) : Prop :=
  match r with
  | .ok d S' => ∀ v ρ' H', Le ρ H ρ' H' → SRep C ρ' H' S' → Rep C ρ' H' d v → Q v H'
  | .exc e S' => ∀ cls d ρ' H', Le ρ H ρ' H' → SRep C ρ' H' S' → ExRep C ρ' H' e cls d → E cls d H'
  | .bad => False
def spD (C : Ctx) (g : List D → M D) : Sp := fun vs H Q E => ∃ ds ρ S, Reps C ρ H ds vs ∧ SRep C ρ H S ∧ EndF C ρ H (g ds S) Q E
abbrev WF (E : XK) : WX := fun cls d _ H => E cls d H
theorem slots_start {C : Ctx} {ρ : List Addr} {H : Hp} {ds : List D} {vs : List V} (N : List Str) (r : Reps C ρ H ds vs) : Slots C ρ H (startD N.length ds) (L2.start N vs) := by
  refine ⟨by unfold startD L2.start; simp [r.length], fun i d e => ?_⟩
  unfold startD at e
  unfold L2.start
  by_cases hi : i < ds.length
  · rw [List.getElem?_append_left (by simpa using hi), List.getElem?_map] at e
    have hv : i < vs.length := by rw [← r.length]; exact hi
    rw [List.getElem?_append_left (by simpa using hv), List.getElem?_map]
    cases q : ds[i]? with
    | none => rw [q] at e; cases e
    | some d' =>
      rw [q] at e
      cases e
      obtain ⟨v, h1, h2⟩ := r.get q
      exact ⟨v, by rw [h1]; rfl, h2⟩
  · rw [List.getElem?_append_right (by simpa using hi), List.getElem?_replicate] at e
    split at e <;> cases e
theorem LS.start {C : Ctx} {N : List Str} {np : Nat} {F : FF} {vs : List V} {H : Hp} {Q : VK} {E : XK} (h : spD C (fnD N.length np F) vs H Q E) : LS C (WF E) F { nx := fun _ H' => Q .non H', rt := Q } (L2.start N vs) H := by
  obtain ⟨ds, ρ, S, r, s, h⟩ := h
  refine ⟨startD N.length ds, ρ, S, slots_start N r, s, ?_⟩
  unfold fnD at h
  by_cases hl : ds.length = np
  case neg => rw [if_neg hl] at h; exact h.elim
  rw [if_pos hl] at h
  cases e : F (startD N.length ds) S with
  | nx sd S' => rw [e] at h; exact fun σ' ρ' H' l _ s' => h .non ρ' H' l s' (rep_non.mpr rfl)
  | rt d S' => rw [e] at h; exact h
  | exc x sd S' => rw [e] at h; exact fun c d σ' ρ' H' l _ s' r' => h c d ρ' H' l s' r'
  | bk sd S' => rw [e] at h; exact h.elim
  | ct sd S' => rw [e] at h; exact h.elim
  | bad => rw [e] at h; exact h.elim
section
variable {P : Program} {w : World} {K : PySem.W.Frag} {mg : Str → Option Value} {base : Heap}
/-- the context of a def's body -/
abbrev bx (P : Program) (w : World) (K : PySem.W.Frag) (mg : Str → Option Value) (base : Heap) (N : List Str) (qual : Str) (scope : Scope) (f : Addr) (cdv : Value) (A : Around) (outer : List Env) (s : Shared) (H : Hp) (E : XK) : Cx := cxOf (L2.CX P w) P w K mg base N qual scope f cdv A outer s H E
theorem takesB {N : List Str} {qual : Str} {scope : Scope} {f : Addr} {cdv : Value} {A : Around} {outer : List Env} {s : Shared} {H : Hp} {E : XK} : Takes (bx P w K mg base N qual scope f cdv A outer s H E) (WF E) := takes_of rfl rfl rfl rfl
theorem passB {N : List Str} {qual : Str} {scope : Scope} {f : Addr} {cdv : Value} {A : Around} {outer : List Env} {s : Shared} {H : Hp} {E : XK} : PassesOwn (model P w) (bx P w K mg base N qual scope f cdv A outer s H E).A (bx P w K mg base N qual scope f cdv A outer s H E).env (bx P w K mg base N qual scope f cdv A outer s H E).xe := passes_of rfl
/-- a def does what our function says -/
abbrev DefOk (P : Program) (w : World) (K : PySem.W.Frag) (mg : Str → Option Value) (base : Heap) (T : List Cls) (k : Nat) (f : Addr) (fd : FuncData) (ps : List Str) (g : List D → M D) : Prop := FnOk P w K mg base (L2.CX P w) k f fd ps (spD ⟨K, T⟩ g)
theorem defOk {x qual : Str} {st : Stmt} {f : Addr} {fd : FuncData} {N ps : List Str} {k : Nat} {T : List Cls} {F : FF} (Fn : Fun K x qual st f fd) (S : FnScope N ps (defScope st))
    (body : ∀ (cdv : Value) (A : Around) (outer : List Env) (s : Shared) (H : Hp) (E : XK), Room k (bx P w K mg base N qual (defScope st) f cdv A outer s H E).A →
      PSs (bx P w K mg base N qual (defScope st) f cdv A outer s H E) (defBody st) (LS ⟨K, T⟩ (WF E) F)) : DefOk P w K mg base T (k + 1) f fd ps (fnD N.length ps.length F) := by
  refine Fn.okX S (fun vs H Q E h => ?_) (fun cdv A outer s H vs Q E hr h => ⟨_, body cdv A outer s H E hr, LS.start h⟩)
  obtain ⟨ds, ρ, S, r, _, h⟩ := h
  rw [← r.length]
  unfold fnD at h
  by_cases hl : ds.length = ps.length
  · exact hl
  · rw [if_neg hl] at h
    exact h.elim
end
/-! ### calls -/
def eCall (g : List D → M D) (aa : EA) : EE := eBind aa fun xs => fun _ S => g xs S
theorem EndR.fn {C : Ctx} {W : WX} {σ : St} {ρ : List Addr} {H : Hp} {r : Res D} {Q : VK} (h : EndR C W σ ρ H (RD C) r Q) : EndF C ρ H r Q (WE W σ) := by
  cases r with
  | ok d S => exact h
  | exc e S => exact h
  | bad => exact h
section
variable {X : Cx} {T : List Cls} {W : WX} {e : Expr} {es : List Expr} {aa : EA} {pos p : Pos} {x : Str} {k : Nat} {f : Addr} {fd : FuncData} {ps : List Str} {g : List D → M D}
/-- f(e, ..) -/
theorem e_call (F : DefOk X.prog X.w X.K X.mg X.base T k f fd ps g) (tk : Takes X W) (hr : Room k X.A) (hg : Gl X x) (hm : X.mg x = some (.ref f)) (hk : PySem.W.keepIn X.K (.ref f) = true) (hb : Binds X.K fd ps [])
    (ha : PA X (e :: es) (LA (cx X T) W aa)) (hdb : (x == ("__debug__" : Str)) = false := by decide) (he : starEach (e :: es) X.env = (false, eval e X.env) :: starEach es X.env := by rfl) (hpl : (backTo pos (starEach es X.env)).any (·.1) = false := by rfl) :
    PE X (.Call (.Name x p) (e :: es) [] pos) (LE (cx X T) W (eCall g aa)) := (pe_callSD (E := WE W) F hr hg hm hk hb .nil (fun σ => passAt tk σ) ha hdb he hpl).imp fun σ H Q ⟨sd, ρ, S, h1, h2, h3⟩ => by
  refine LG.run h1 h2 h3 fun ds us ρ1 S1 H1 l1 s1 r1 k1 => ?_
  rw [List.append_nil]
  exact ⟨ds, ρ1, S1, r1, s1, k1.fn⟩
end
end Lay

set_option Elab.async false
set_option linter.all false
set_option maxRecDepth 100000
set_option maxHeartbeats 4000000
/-! L6: calls by keywords; kinds of values, isinstance; fields of exceptions. -/
namespace Lay
open PySem PySem.Spec PyProof.Rows L2
/-! ### keywords -/
def permA {α : Type} (perm : List Nat) (l : List α) : List α := perm.filterMap fun i => l[i]?
theorem Reps.perm {C : Ctx} {ρ : List Addr} {H : Hp} {ds : List D} {vs : List V} (r : Reps C ρ H ds vs) : ∀ perm : List Nat, Reps C ρ H (permA perm ds) (permA perm vs)
  | [] => Reps.nil
  | i :: is => by
    have ih := Reps.perm r is
    unfold permA at ih ⊢
    rw [List.filterMap_cons, List.filterMap_cons]
    cases e : ds[i]? with
    | none =>
      have e2 : vs[i]? = none := by
        rw [List.getElem?_eq_none_iff] at e ⊢
        rw [← r.length]; exact e
      rw [e2]
      exact ih
    | some d =>
      obtain ⟨v, h1, h2⟩ := r.get e
      rw [h1]
      exact Reps.cons h2 ih
theorem vals_perm {vs : List V} {us : List Value} (r : Vals vs us) : ∀ perm : List Nat, Vals (permA perm vs) (permA perm us)
  | [] => .nil
  | i :: is => by
    have ih := vals_perm r is
    unfold permA at ih ⊢
    rw [List.filterMap_cons, List.filterMap_cons]
    cases e : vs[i]? with
    | none => rw [r.none_of e]; exact ih
    | some d =>
      obtain ⟨v, h1, h2⟩ := r.get e
      rw [h1]
      exact .cons h2 ih
section
variable {X : Cx} {T : List Cls} {W : WX} {e a : Expr} {kws : List Keyword} {aa : EA} {fa : EE} {pos p kpos : Pos} {x f' : Str} {nm : Option Str} {k : Nat} {f : Addr} {fd : FuncData} {ps ks : List Str} {g : List D → M D}
abbrev LK (X : Cx) (T : List Cls) (W : WX) (kws : List Keyword) (aa : EA) : Prop := PK X kws (LA (cx X T) W aa)
theorem k_nil : LK X T W [] aNil := ⟨fun pos pins s σ H Q I ⟨sd, ρ, S, h1, h2, h3⟩ => pk_nil.run pos pins s σ H Q I (h3 [] ρ H Le.refl h2 Reps.nil)⟩
theorem k_cons (ha : PE X e (LE (cx X T) W fa)) (hr : LK X T W kws aa) : LK X T W (⟨nm, e, kpos⟩ :: kws) (aCons fa aa) := ⟨fun pos pins s σ H Q I ⟨sd, ρ, S, h1, h2, h3⟩ => (pk_cons ha hr).run pos pins s σ H Q I (by
    refine LG.run h1 h2 h3 fun dx x ρ1 S1 H1 l1 s1 r1 k1 => ?_
    refine LG.run (h1.le l1) s1 k1 fun dy y ρ2 S2 H2 l2 s2 r2 k2 => ?_
    exact k2 _ ρ2 H2 Le.refl s2 (Reps.cons (Rep.le l2 r1) r2))⟩
def eCallKw (g : List D → M D) (perm : List Nat) (aa : EA) : EE := eBind aa fun xs => fun _ S => g (permA perm xs) S
theorem e_callKw {perm : List Nat} (F : DefOk X.prog X.w X.K X.mg X.base T k f fd ps g) (tk : Takes X W) (hr : Room k X.A) (hg : Gl X x) (hm : X.mg x = some (.ref f)) (hk : PySem.W.keepIn X.K (.ref f) = true)
    (hb : ∀ (s : Shared) (ws : List Value), X.K.In s.heap → (permA perm ws).length = ps.length → BindsTo s fd ⟨[], ks.zip ws⟩ (ps.zip (permA perm ws)))
    (hkw : LK X T W kws aa) (hall : (backToKw pos (keywordEach kws X.env)).all (·.1.isSome) = true := by rfl) (hks : (backToKw pos (keywordEach kws X.env)).filterMap (·.1) = ks := by rfl)
    (hdb : (x == ("__debug__" : Str)) = false := by decide)
    (hpl : ((backTo pos (starEach [] X.env)).any (·.1) || (backToKw pos (keywordEach kws X.env)).any (·.1.isNone)) = false := by rfl) :
    PE X (.Call (.Name x p) [] kws pos) (LE (cx X T) W (eCallKw g perm aa)) := by
  refine ⟨fun pins s σ H Q I ⟨sd, ρ, S, h1, h2, h3⟩ => ?_⟩
  have go : LA (cx X T) W aa σ H fun vs H1 => spD (cx X T) g (permA perm vs) H1 Q (WE W σ) := by
    refine LG.run h1 h2 h3 fun ds us ρ1 S1 H1 l1 s1 r1 k1 => ?_
    exact ⟨permA perm ds, ρ1, S1, Reps.perm r1 perm, s1, k1.fn⟩
  refine wpAny_Call_Name_kw (ld_glob I hg hm ?_ hdb)
  refine PySem.W.callWith_KW0 (h₀ := X.base) I.ok.mod.kin hk hall (thn (hkw.run pos pins s σ H _ I go) fun ws s1 ⟨zs, H1, I1, rz, q⟩ => ⟨I1.kIn, ?_⟩) hpl
  rw [hks]
  have r2 := vals_perm rz perm
  have hl : (permA perm ws).length = ps.length := by
    rw [← r2.length]
    exact F.len _ _ _ _ q
  refine wpAny_call (codeAny_mono (F.run X.A X.stack s1 H1 ⟨[], ks.zip ws⟩ (permA perm ws) (permA perm zs) Q (WE W σ) hr I1.env0 (hb s1 ws I1.kIn hl) r2 q) fun res s' hq => ?_)
  rcases res with er | fl
  · exact passAt tk σ pins H1 s1 er s' I1 hq
  · cases fl with
    | ret u => exact I1.after hq
    | _ => exact hq.elim
/-! ### kinds -/
inductive Kd where
  | ty (n : String)
  | own (c : Nat)
  deriving DecidableEq
def kd (x : D) (S : Store) : Option Kd := match x with
  | .non => some (.ty "NoneType")
  | .bl _ => some (.ty "bool")
  | .int _ => some (.ty "int")
  | .str _ => some (.ty "str")
  | .tup _ => some (.ty "tuple")
  | .exn c _ => some (.own c)
  | .ref n => match S[n]? with
    | some (.lst _) => some (.ty "list")
    | some (.ro _) => some (.ty "list")
    | some (.dct _) => some (.ty "dict")
    | some (.dlk _) => some (.ty "dict")
    | none => none
def kdV (C : Ctx) : Kd → Value
  | .ty n => .type n
  | .own c => .ref (C.addr c)
def kdR (C : Ctx) : Kd → V
  | .ty n => .ty n
  | .own c => .ref (C.addr c)
/-- what an exception class of ours must say -/
structure XcOk (K : PySem.W.Frag) (D : Addr) : Prop where
  cl : (PySem.W.clsIn K D).isSome = true
  ga : PySem.W.findIn K (.ref D) "__getattribute__" = some (some (.builtin "BaseException.__getattribute__"))
  gg : PySem.W.findIn K (.ref D) "__getattr__" = some none
  sb : PySem.W.subIn K (.ref D) (.type "BaseException") = some true
  ha : PySem.W.findIn K (.ref D) "__class__" = some (some (.builtin "object.__class__"))
  hn : PySem.W.specialIn K (.builtin "object.__class__") "__get__" = some (some (.builtin "getset_descriptor.__get__"))
  ht : PySem.W.takesIn K (.builtin "object.__class__") = some true
  hm : PySem.W.mroIn K D (.type "object") = some true
  hd : PySem.W.hasDictIn K D = true
  ty : PySem.W.typeIn K (.ref D) = some (.type "type")
  kp : PySem.W.keepIn K (.ref D) = true
def xcB (K : PySem.W.Frag) (D : Addr) : Bool := [(PySem.W.clsIn K D).isSome, decide (PySem.W.findIn K (.ref D) "__getattribute__" = some (some (.builtin "BaseException.__getattribute__"))), decide (PySem.W.findIn K (.ref D) "__getattr__" = some none),
  decide (PySem.W.subIn K (.ref D) (.type "BaseException") = some true), decide (PySem.W.findIn K (.ref D) "__class__" = some (some (.builtin "object.__class__"))), decide (PySem.W.specialIn K (.builtin "object.__class__") "__get__" = some (some (.builtin "getset_descriptor.__get__"))),
  decide (PySem.W.takesIn K (.builtin "object.__class__") = some true), decide (PySem.W.mroIn K D (.type "object") = some true), PySem.W.hasDictIn K D, decide (PySem.W.typeIn K (.ref D) = some (.type "type")), PySem.W.keepIn K (.ref D)].all id
theorem xcB_ok {K : PySem.W.Frag} {D : Addr} (h : xcB K D = true) : XcOk K D := by
  unfold xcB at h
  simp only [List.all_cons, List.all_nil, id, Bool.and_eq_true, decide_eq_true_eq, and_true] at h
  obtain ⟨h1, h2, h3, h4, h5, h6, h7, h8, h9, h10, h11⟩ := h
  exact ⟨h1, h2, h3, h4, h5, h6, h7, h8, h9, h10, h11⟩
/-- all classes of the table do -/
def XcAll (C : Ctx) : Prop := ∀ c, c < C.T.length → XcOk C.K (C.addr c)
/-- the object of an exception, with its dict -/
theorem exn_inst {σ : St} {H : Hp} {s : Shared} {pins : List (Addr × Obj)} {ρ : List Addr} {c : Nat} {ds : List D} {v : V} (I : Inv X pins σ H s) (r : Rep (cx X T) ρ H (.exn c ds) v) :
    c < T.length ∧ ∃ a oe od xs, v = .ref a ∧ PySem.W.InstAt s.heap a oe ((cx X T).addr c) od ∧ Reps (cx X T) ρ H ds xs ∧ xs.length = ((cx X T).flds c).length ∧
      (∀ (i : Nat) f, ((cx X T).flds c)[i]? = some f → ∃ o y u, od = some o ∧ xs[i]? = some y ∧ PySem.W.lookIn f o = some (some u) ∧ RelV y u) := by
  simp only [Rep] at r
  obtain ⟨a, d, xs, rfl, hc, ha, hd, hr⟩ := r
  obtain ⟨⟨oe, vs, h1, h2, h3⟩, _, _⟩ := I.hok a _ ha
  refine ⟨hc, ?_⟩
  obtain ⟨hl, hd⟩ := hd
  have hno : PySem.W.notCls oe = true := by unfold PySem.W.notCls; rw [h3] <;> rfl
  rcases hd with ⟨e0, rfl⟩ | ⟨dd, fs, rfl, hdd, lk⟩
  · have e2 : oe.dict = none := h2.2
    exact ⟨a, oe, none, xs, rfl, ⟨h1, h2.1, hno, by rw [e2]; trivial⟩, hr, hl, fun i f e => by rw [e0] at e; simp at e⟩
  · obtain ⟨mA, hns, hrel⟩ := (show ObjOk X.prog X.w H s.heap dd (.xd fs) from I.hok dd _ hdd)
    obtain ⟨od, ho, hlk⟩ := lookIn_ns hns
    have e2 : oe.dict = some dd := h2.2
    refine ⟨a, oe, some od, xs, rfl, ⟨h1, h2.1, hno, by rw [e2]; exact ho⟩, hr, hl, fun i f e => ?_⟩
    have hi : i < xs.length := by rw [hl]; exact (List.getElem?_eq_some_iff.mp e).1
    have e3 : xs[i]? = some xs[i] := by simp [hi]
    have e4 := lk i f e
    rw [e3] at e4
    obtain ⟨u, hu, ru⟩ := RelO.some_of (v := xs[i]) (o := mA f) (by rw [← e4]; exact hrel f)
    exact ⟨od, xs[i], u, rfl, e3, by rw [hlk f, hu], ru⟩
theorem kit_D {σ : St} {H : Hp} {s : Shared} {pins : List (Addr × Obj)} {ρ : List Addr} {S : Store} {d : D} {v : V} {u : Value} {k : Kd} (hX : XcAll (cx X T)) (I : Inv X pins σ H s) (sr : SRep (cx X T) ρ H S) (r : Rep (cx X T) ρ H d v) (rv : RelV v u) (e : kd d S = some k) :
    ∃ P : Heap → Prop, PySem.W.KitX X.K u (kdV (cx X T) k) P ∧ P s.heap ∧ u ≠ .builtin "__main__.__loader__#opaque" := by
  have tupK : ∀ {a : Addr} {xs : List V}, SqT X.K H a xs → TyX X.K H (.ref a) (.type "tuple") := fun {a xs} h => by
    rcases h with (h | ⟨o, h⟩) | ⟨o, its, n, h1, h2, _⟩
    · exact .base (.tup h)
    · exact .fTuple h
    · exact .kTuple h1 h2
  cases d with
  | non => cases e; rw [rep_non.mp r] at rv; exact kit_of I rv (.base .non)
  | bl b => cases e; rw [rep_bl.mp r] at rv; exact kit_of I rv (.base (.bl b))
  | int i => cases e; rw [rep_int.mp r] at rv; exact kit_of I rv (.base (.int i))
  | str x => cases e; rw [rep_str.mp r] at rv; exact kit_of I rv (.base (.str x))
  | tup ds =>
    cases e
    obtain ⟨a, xs, rfl, q1, _⟩ := rep_tup.mp r
    exact kit_of I rv (tupK q1)
  | ref n =>
    obtain ⟨a, q0, rfl⟩ := rep_ref.mp r
    simp only [kd] at e
    split at e
    · rename_i ds hs
      cases e
      obtain ⟨xs, q1, _⟩ := sr.at_ n a _ q0 hs
      exact kit_of I rv (.base (.lst q1))
    · rename_i ds hs
      cases e
      obtain ⟨xs, q1, _⟩ := sr.at_ n a _ q0 hs
      rcases q1 with ⟨o, q1⟩ | ⟨o, its, m, h1, h2, _⟩
      · exact kit_of I rv (.base (.frz q1))
      · exact kit_of I rv (.kList h1 h2)
    · rename_i ds hs
      cases e
      obtain ⟨xs, q1, _⟩ := sr.at_ n a _ q0 hs
      exact kit_of I rv (.base (.dK q1))
    · rename_i ds hs
      cases e
      obtain ⟨xs, o, q1, _⟩ := sr.at_ n a _ q0 hs
      exact kit_of I rv (.fDict q1)
    · cases e
  | exn c ds =>
    cases e
    obtain ⟨hc, a, oe, od, xs, rfl, J, _⟩ := exn_inst I r
    have x := hX c hc
    cases rv
    exact ⟨_, PySem.W.kitx_exc x.cl x.ga x.gg x.sb x.ha x.hn x.ht x.hm, J, fun z => nomatch z⟩
/-! ### isinstance -/
/-- is a value of the kind k one of the class t? -/
def subD (T : List Cls) : Kd → Kd → Bool
  | .ty a, .ty b => a == b || (a == "bool" && b == "int") || b == "object"
  | .own c, .own d => match T[c]? with
    | some q => q.sups.contains d
    | none => false
  | .own _, .ty b => b == "ValueError" || b == "Exception" || b == "BaseException" || b == "object"
  | .ty _, .own _ => false
def allKd (T : List Cls) : List Kd := [.ty "NoneType", .ty "bool", .ty "int", .ty "str", .ty "tuple", .ty "list", .ty "dict"] ++ (List.range T.length).map .own
theorem kd_all {C : Ctx} {ρ : List Addr} {H : Hp} {x : D} {v : V} {S : Store} {k : Kd} (r : Rep C ρ H x v) (e : kd x S = some k) : k ∈ allKd C.T := by
  cases x with
  | non => cases e; simp [allKd]
  | bl b => cases e; simp [allKd]
  | int i => cases e; simp [allKd]
  | str x => cases e; simp [allKd]
  | tup ds => cases e; simp [allKd]
  | ref n =>
    simp only [kd] at e
    split at e <;> first
      | (cases e; simp [allKd])
      | cases e
  | exn c ds =>
    cases e
    simp only [Rep] at r
    obtain ⟨a, d, xs, _, hc, _⟩ := r
    simp [allKd, hc]
/-- what the written part answers -/
def isiB (C : Ctx) (ts : List Kd) : Bool := (allKd C.T).all fun k => decide (PySem.W.kitAny C.K (kdV C k) (ts.map (kdV C)) = some (ts.any (subD C.T k)))
def isi1B (C : Ctx) (t : Kd) : Bool := (allKd C.T).all fun k => decide (PySem.W.kitOne C.K (kdV C k) (kdV C t) = some (subD C.T k t))
theorem isiB_ok {C : Ctx} {ts : List Kd} (h : isiB C ts = true) {k : Kd} (hk : k ∈ allKd C.T) : PySem.W.kitAny C.K (kdV C k) (ts.map (kdV C)) = some (ts.any (subD C.T k)) := of_decide_eq_true (List.all_eq_true.mp h k hk)
theorem isi1B_ok {C : Ctx} {t : Kd} (h : isi1B C t = true) {k : Kd} (hk : k ∈ allKd C.T) : PySem.W.kitOne C.K (kdV C k) (kdV C t) = some (subD C.T k t) := of_decide_eq_true (List.all_eq_true.mp h k hk)
theorem clsV_kd (C : Ctx) (k : Kd) : ClsV (kdR C k) (kdV C k) := by
  cases k with
  | ty n => exact .ty n
  | own c => exact .own _
def eIsi (T : List Cls) (ts : List Kd) (fa : EE) : EE := eBind fa fun x => fun _ S => match kd x S with
  | some k => .ok (.bl (ts.any (subD T k))) S
  | none => .bad
def rIs1 (C : Ctx) (t : Kd) : List V → Hp → VK → Prop := fun xs H Q => ∃ d x ρ S k, xs = [x, kdR C t] ∧ Rep C ρ H d x ∧ SRep C ρ H S ∧ kd d S = some k ∧ Q (.bl (subD C.T k t)) H
theorem call_is1 {t : Kd} (hX : XcAll (cx X T)) (h : isi1B (cx X T) t = true) : CallR X (.builtin "isinstance") (rIs1 (cx X T) t) := by
  intro pins s σ H xs us Q I r ⟨d, x, ρ, S, k, e1, r1, s1, e2, q⟩
  subst e1
  obtain ⟨u1, u2, rfl, p1, p2⟩ := vals2 r
  cases (clsV_kd (cx X T) t).eq p2
  obtain ⟨P, Z, pz, hx⟩ := kit_D hX I s1 r1 p1 e2
  exact PySem.W.kia_one Z I.kIn pz (isi1B_ok h (kd_all r1 e2)) hx fun tk => ⟨.bl _, H, I.tok tk, rfl, q⟩
variable {ec : Expr}
theorem e_isi1 {t : Kd} (hX : XcAll (cx X T)) (h : isi1B (cx X T) t = true) (hg : Gl X "isinstance") (hm : X.mg "isinstance" = none) (ha : PE X a (LE (cx X T) W fa)) (hc : PE X ec (tC (kdR (cx X T) t)))
    (he : starEach [a, ec] X.env = (false, eval a X.env) :: starEach [ec] X.env := by rfl) (he2 : starEach [ec] X.env = (false, eval ec X.env) :: starEach [] X.env := by rfl) (hpl : (backTo pos (starEach [ec] X.env)).any (·.1) = false := by rfl) :
    PE X (.Call (.Name "isinstance" p) [a, ec] [] pos) (LE (cx X T) W (eIsi T [t] fa)) :=
  (pe_callB (call_is1 hX h) hg hm (by decide +kernel) (pa_cons ha (pa_cons hc pa_nil he2) he) (by decide) (by decide) he hpl).imp fun σ H Q ⟨sd, ρ, S, h1, h2, h3⟩ => by
    refine LG.run h1 h2 h3 fun dx x ρ1 S1 H1 l1 s1 r1 k1 => ?_
    split at k1
    · rename_i k e
      refine ⟨dx, x, ρ1, S1, k, rfl, r1, s1, e, k1 _ ρ1 H1 Le.refl s1 (rep_bl.mpr ?_)⟩
      simp
    · exact k1.elim
def rIsN (C : Ctx) (ts : List Kd) : List V → Hp → VK → Prop := fun xs H Q => ∃ d x ρ S k tp, xs = [x, .ref tp] ∧ H tp = some (.tup (ts.map (kdR C))) ∧ Rep C ρ H d x ∧ SRep C ρ H S ∧ kd d S = some k ∧ Q (.bl (ts.any (subD C.T k))) H
theorem paired_kd (C : Ctx) : ∀ ts : List Kd, Paired ClsV (ts.map (kdR C)) (ts.map (kdV C))
  | [] => .nil
  | t :: ts => .cons (clsV_kd C t) (paired_kd C ts)
theorem call_isN {ts : List Kd} (hX : XcAll (cx X T)) (h : isiB (cx X T) ts = true) : CallR X (.builtin "isinstance") (rIsN (cx X T) ts) := by
  intro pins s σ H xs us Q I r ⟨d, x, ρ, S, k, tp, e1, hT, r1, s1, e2, q⟩
  subst e1
  obtain ⟨u1, u2, rfl, p1, p2⟩ := vals2 r
  cases (show u2 = Value.ref tp from p2)
  obtain ⟨P, Z, pz, hx⟩ := kit_D hX I s1 r1 p1 e2
  obtain ⟨_, its, rv, ⟨oc, od, dt, sl⟩, o1, o2, n, o3⟩ := (show ObjOk X.prog X.w H s.heap tp (.tup _) from I.hok tp _ hT)
  cases ClsV.all (paired_kd (cx X T) ts) rv
  simp only at o2 o3
  subst o2 o3
  exact PySem.W.kia_tup Z I.kIn pz o1 (isiB_ok h (kd_all r1 e2)) hx fun tk => ⟨.bl _, H, I.tok tk, rfl, q⟩
/-- the classes, written as a tuple of names -/
structure ClsNames (X : Cx) (C : Ctx) (es : List Expr) (ts : List Kd) : Prop where
  pa : PA X es (fun _ H Q => Q (ts.map (kdR C)) H)
theorem cn_nil {C : Ctx} : ClsNames X C [] [] := ⟨⟨fun pos pins s σ H Q I h => pa_nil.run pos pins s σ H Q I h⟩⟩
theorem cn_cons {C : Ctx} {es : List Expr} {t : Kd} {ts : List Kd} (hc : PE X ec (tC (kdR C t))) (hr : ClsNames X C es ts) (hs : starEach (ec :: es) X.env = (false, eval ec X.env) :: starEach es X.env := by rfl) : ClsNames X C (ec :: es) (t :: ts) :=
  ⟨⟨fun pos pins s σ H Q I h => (pa_cons hc hr.pa hs).run pos pins s σ H Q I h⟩⟩
theorem e_isiN {es : List Expr} {ts : List Kd} {tpos : Pos} {tk : Nat} (hX : XcAll (cx X T)) (h : isiB (cx X T) ts = true) (hn : ts.length ≤ 100) (hg : Gl X "isinstance") (hm : X.mg "isinstance" = none) (ha : PE X a (LE (cx X T) W fa)) (hc : ClsNames X (cx X T) es ts)
    (he : starEach [a, .Tuple es tk tpos] X.env = (false, eval a X.env) :: starEach [.Tuple es tk tpos] X.env := by rfl) (he2 : starEach [.Tuple es tk tpos] X.env = (false, eval (.Tuple es tk tpos) X.env) :: starEach [] X.env := by rfl) (hpl : (backTo pos (starEach [.Tuple es tk tpos] X.env)).any (·.1) = false := by rfl) :
    PE X (.Call (.Name "isinstance" p) [a, .Tuple es tk tpos] [] pos) (LE (cx X T) W (eIsi T ts fa)) :=
  (pe_callB (call_isN hX h) hg hm (by decide +kernel) (pa_cons ha (pa_cons (pe_tup hc.pa) pa_nil he2) he) (by decide) (by decide) he hpl).imp fun σ H Q ⟨sd, ρ, S, h1, h2, h3⟩ => by
    refine LG.run h1 h2 h3 fun dx x ρ1 S1 H1 l1 s1 r1 k1 => ?_
    split at k1
    · rename_i k e
      refine ⟨by rw [List.length_map, sizeLine_eq]; omega, fun q hq => ?_⟩
      have l2 : Le ρ1 H1 ρ1 (upd H1 q (.tup (ts.map (kdR (cx X T))))) := Le.new hq
      exact ⟨dx, x, ρ1, S1, k, q, rfl, upd_same, Rep.le l2 r1, s1.free hq, e, k1 _ ρ1 _ l2 (s1.free hq) (rep_bl.mpr rfl)⟩
    · exact k1.elim
/-- a built-in class's name, an own class's name -/
theorem n_ty {n : String} (hg : Gl X x) (hm : X.mg x = none) (hv : bootBuiltins x = some (.type n)) (hn : x ≠ "__name__" := by decide) (hd : (x == ("__debug__" : Str)) = false := by decide) : PE X (.Name x pos) (tC (kdR (cx X T) (.ty n))) := pe_bltn hg hm hv rfl hn hd
theorem n_own {c : Nat} (hg : Gl X x) (hm : X.mg x = some (.ref ((cx X T).addr c))) (hd : (x == ("__debug__" : Str)) = false := by decide) : PE X (.Name x pos) (tC (kdR (cx X T) (.own c))) := pe_glob hg hm rfl hd
/-! ### fields of exceptions -/
def fldIx (T : List Cls) (c : Nat) (f : Str) : Option Nat := match T[c]? with
  | some q => q.flds.findIdx? (· == f)
  | none => none
def eAtt (T : List Cls) (f : Str) (fa : EE) : EE := eBind fa fun x => fun _ S => match x with
  | .exn c ds => match fldIx T c f with
    | some i => match ds[i]? with
      | some d => .ok d S
      | none => .bad
    | none => .bad
  | _ => .bad
/-- the classes do not hide their instances' fields -/
def FldAll (C : Ctx) : Prop := ∀ c f, c < C.T.length → f ∈ C.flds c → PySem.W.findIn C.K (.ref (C.addr c)) f = some none
theorem e_att {f : Str} (hX : XcAll (cx X T)) (hF : FldAll (cx X T)) (ha : PE X a (LE (cx X T) W fa)) (hb : attributeBase a f X.env (eval a X.env) = eval a X.env := by rfl) : PE X (.Attribute a f pos) (LE (cx X T) W (eAtt T f fa)) := by
  refine ⟨fun pins s σ H Q I ⟨sd, ρ, S, h1, h2, h3⟩ => ?_⟩
  have go : LE (cx X T) W fa σ H fun x H1 => ∃ c ds ρ1 S1 i d, Rep (cx X T) ρ1 H1 (.exn c ds) x ∧ SRep (cx X T) ρ1 H1 S1 ∧ fldIx T c f = some i ∧ ds[i]? = some d ∧ ∀ v, Rep (cx X T) ρ1 H1 d v → Q v H1 := by
    refine LG.run h1 h2 h3 fun dx x ρ1 S1 H1 l1 s1 r1 k1 => ?_
    split at k1
    · rename_i c ds
      split at k1
      · rename_i i hi
        split at k1
        · rename_i d hd
          exact ⟨c, ds, ρ1, S1, i, d, r1, s1, hi, hd, fun v r => k1 v ρ1 H1 Le.refl s1 r⟩
        · exact k1.elim
      · exact k1.elim
    · exact k1.elim
  refine attr_of hb (thn (ha.run pins s σ H _ I go) fun u s1 ⟨x, H1, I1, rx, c, ds, ρ1, S1, i, d, r1, sr, hi, hd, k⟩ => ?_)
  obtain ⟨hc, a', oe, od, xs, rfl, J, rxs, hl, lk⟩ := exn_inst I1 r1
  have hfl : ((cx X T).flds c)[i]? = some f := by
    unfold fldIx at hi
    unfold Ctx.flds
    cases q : T[c]? with
    | none => rw [q] at hi; cases hi
    | some z =>
      rw [q] at hi
      obtain ⟨h4, h5, _⟩ := List.findIdx?_eq_some_iff_getElem.mp hi
      show z.flds[i]? = some f
      rw [List.getElem?_eq_getElem h4]
      congr 1
      exact eq_of_beq h5
  obtain ⟨o, y, w, eo, ey, ew, ry⟩ := lk i f hfl
  subst eo
  obtain ⟨y', e1, r2⟩ := rxs.get hd
  rw [ey] at e1
  cases e1
  cases rx
  have xo := hX c hc
  have no := hF c f hc (List.mem_of_getElem? hfl)
  exact HandSPX.exc_get I1.kIn J xo.ga xo.gg xo.sb (PySem.W.findObj_own xo.hd no rfl ew) (handed_of ry) ⟨y, H1, I1.tok _, ry, k y r2⟩
end
end Lay

set_option Elab.async false
set_option linter.all false
set_option maxRecDepth 100000
set_option maxHeartbeats 4000000
/-! L7: exceptions: their classes' __init__, raise, exceptions as values, try. -/
namespace Lay
open PySem PySem.Spec PyProof.Rows L2
/-! ### the base class's __init__, called by the class's name -/
structure IniOk (K : PySem.W.Frag) (B : Addr) : Prop where
  g : PySem.W.specialIn K (.ref B) "__getattribute__" = some (some (.builtin "type.__getattribute__"))
  r : PySem.W.readsIn K B (.type "type") = true
  v : PySem.W.findCls K (.ref B) (.type "type") "__init__" = some (.val (.builtin "ValueError.__init__"))
def iniB (K : PySem.W.Frag) (B : Addr) : Bool := decide (PySem.W.specialIn K (.ref B) "__getattribute__" = some (some (.builtin "type.__getattribute__"))) && (PySem.W.readsIn K B (.type "type") &&
  (match PySem.W.findCls K (.ref B) (.type "type") "__init__" with
  | some (.val v) => decide (v = .builtin "ValueError.__init__")
  | _ => false))
theorem iniB_ok {K : PySem.W.Frag} {B : Addr} (h : iniB K B = true) : IniOk K B := by
  obtain ⟨h1, h2⟩ := He.ba h
  obtain ⟨h2, h3⟩ := He.ba h2
  refine ⟨of_decide_eq_true h1, h2, ?_⟩
  split at h3
  · rename_i v e
    rw [e, of_decide_eq_true h3]
  · cases h3
def IniEq (env : Env) (x : Str) (p1 p2 : Pos) (es : List Expr) (pos : Pos) : Prop := ∃ pl : Sem Bool, eval (.Call (.Attribute (.Name x p1) "__init__" p2) es [] pos) env = (do
      let ov ← eval (.Name x p1) env
      standAt p2.atName
      let (f, first) ← holding [ov] (getMethod ov "__init__" pl)
      callWith pos f first (backTo pos (starEach es env)) (backToKw pos (keywordEach [] env)))
theorem iniEq_of {env : Env} {bn : Str} {p1 p2 p5 : Pos} {es : List Expr} (hfew : methodCallForm (es.length + 0) (backTo p5 (starEach es env)) [] = true) (hline : (p2.endLine == p5.line) = true) : IniEq env bn p1 p2 es p5 := by
  refine ⟨(do return (← importBound (.Name bn p1) env).getD true), ?_⟩
  rw [arm_eval_Call]
  have hbase : attributeBase (.Name bn p1) "__init__" env (eval (.Name bn p1) env) = eval (.Name bn p1) env := rfl
  rw [hbase]
  have hpos : methodCallPos true (.Name bn p1) env p2 p5 = pure p5 := by unfold methodCallPos; simp [hline]
  have hkw : backToKw p5 (keywordEach [] env) = [] := rfl
  unfold methodCall
  rw [hkw]
  have hf : methodCallForm (es.length + ([] : List Keyword).length) (backTo p5 (starEach es env)) [] = true := hfew
  rw [hf, hpos]
  unfold calleeOf
  simp only [if_true, pure_bind]
theorem few2 {qual : Str} {sc : Scope} {n : Addr} {f : Addr} {cdv : Value} {m : Str} {j : Nat} {p3 p4 p5 : Pos} : methodCallForm ([Expr.Name "self" p3, .Constant (.str m) j p4].length + 0) (backTo p5 (starEach [Expr.Name "self" p3, .Constant (.str m) j p4] (envOfC qual sc n f cdv))) [] = true := rfl
section
variable {X : Cx} {e : Expr} {es : List Expr} {ta : TA} {x : Str} {B : Addr} {p1 p2 pos : Pos}
theorem pe_ownInit (O : IniOk X.K B) (hg : Gl X x) (hm : X.mg x = some (.ref B)) (ha : PA X (e :: es) ta) (hc : IniEq X.env x p1 p2 (e :: es) pos) (hdb : (x == ("__debug__" : Str)) = false := by decide)
    (he : starEach (e :: es) X.env = (false, eval e X.env) :: starEach es X.env := by rfl) (hpl : (backTo pos (starEach es X.env)).any (·.1) = false := by rfl) :
    PE X (.Call (.Attribute (.Name x p1) "__init__" p2) (e :: es) [] pos) (tVeI X.K ta) := by
  refine ⟨fun pins s σ H Q I h => ?_⟩
  obtain ⟨pl, hc⟩ := hc
  refine PySem.W.methodCall_KW (ld_glob I hg hm ?_ hdb) hc
  refine PySem.W.method_cls I.kIn O.g (PySem.W.cls_value I.kIn O.r O.v (by decide +kernel) ?_)
  refine callWith_method1 (thn (ha.run pos pins _ σ H _ (I.tok _) h) fun us s1 ⟨vs, H1, I1, r1, a, C, ws, ev, hl, T, ea, q⟩ => ?_) he hpl
  subst ev
  cases r1 with
  | @cons _ u0 _ ur ra rw' =>
    have e0 : u0 = Value.ref a := ra
    subst e0
    exact oinit_ok T I1 ea (by rw [← Paired.length rw', sizeLine_eq]; omega) fun s' J => ⟨.non, H1, J, rfl, q⟩
end

/-! ### the __init__ of an exception class, as a def -/
/-- the heap behind it -/
def ExFin (a C : Addr) (H : Hp) (ps : List Str) (ys : List V) (H' : Hp) : Prop :=
  (ps = [] ∧ H' = H) ∨ ps ≠ [] ∧ ∃ (dx : Addr) (fs : List (Str × V)), H dx = none ∧ dx ≠ a ∧ H' a = some (exo a C (some dx)) ∧ H' dx = some (exd dx fs) ∧ (∀ b, b ≠ a → b ≠ dx → H' b = H b) ∧ ∀ (i : Nat) f, ps[i]? = some f → fs.lookup f = ys[i]?
def exi (K : PySem.W.Frag) (ps : List Str) : Sp := fun vs H Q _ => ∃ a C ys, vs = .ref a :: ys ∧ ys.length = ps.length ∧ OexC K C ∧ (∀ f ∈ ps, PySem.W.findIn K (.ref C) f = some none) ∧ H a = some (exo a C none) ∧ ∀ H', ExFin a C H ps ys H' → Q .non H'
section
variable {P : Program} {w : World} {K : PySem.W.Frag} {mg : Str → Option Value} {base : Heap} {x qual bn m : Str} {st : Stmt} {f B : Addr} {fd : FuncData} {k : Nat} {g g2 : Str} {p1 p2 p3 p4 p5 p6 p7 p8 p9 p10 q7 q8 q9 q10 : Pos} {j : Nat}
theorem exi_len {ps : List Str} : ∀ vs H Q E, exi K ps vs H Q E → vs.length = (("self" : Str) :: ps).length := fun vs H Q E ⟨a, C, ys, e, hl, _⟩ => by
  rw [e, List.length_cons, List.length_cons, hl]
theorem exi0_ok (O : IniOk K B) (hm : mg bn = some (.ref B)) (Fn : Fun K x qual st f fd) (S : FnScope ["self"] ["self"] (defScope st)) (hself : (defScope st).names.lookup ("self" : Str) = some .local)
    (hg : (defScope st).names.lookup bn = some .globalImplicit) (hdb : (bn == ("__debug__" : Str)) = false)
    (hc : ∀ (f : Addr) (cdv : Value) (s : Shared), IniEq (envOfC qual (defScope st) s.heap.objs.size f cdv) bn p1 p2 [.Name "self" p3, .Constant (.str m) j p4] p5)
    (hb : defBody st = [.Expr (.Call (.Attribute (.Name bn p1) "__init__" p2) [.Name "self" p3, .Constant (.str m) j p4] [] p5) p6]) : FnOk P w K mg base (L2.CX P w) (k + 1) f fd ["self"] (exi K []) := by
  refine Fn.okX S exi_len fun cdv A outer s H vs Q E hr h => ?_
  obtain ⟨a, C, ys, rfl, hl, T, hno, ea, q⟩ := h
  rw [hb]
  have e0 : ys = [] := List.length_eq_zero_iff.mp hl
  subst e0
  refine ⟨_, pss_one (ps_expr (pe_ownInit (X := bx P w K mg base ["self"] qual (defScope st) f cdv A outer s H E) O (hg) hm (pa_cons (pv 0 (by rfl) (.inl hself)) (pa_cons pe_str pa_nil)) (hc _ _ _) hdb)), ?_⟩
  exact ⟨_, rfl, a, C, [.str m], rfl, Nat.le_of_ble_eq_true rfl, T, ea, q H (.inl ⟨rfl, rfl⟩)⟩
theorem exi1_ok (O : IniOk K B) (hm : mg bn = some (.ref B)) (Fn : Fun K x qual st f fd) (S : FnScope ["self", g] ["self", g] (defScope st)) (hself : (defScope st).names.lookup ("self" : Str) = some .local) (hgl : (defScope st).names.lookup g = some .local)
    (hg : (defScope st).names.lookup bn = some .globalImplicit) (hdb : (bn == ("__debug__" : Str)) = false) (hd1 : (g == ("__debug__" : Str)) = false) (hd2 : (g == ("__classdict__" : Str)) = false)
    (hc : ∀ (f : Addr) (cdv : Value) (s : Shared), IniEq (envOfC qual (defScope st) s.heap.objs.size f cdv) bn p1 p2 [.Name "self" p3, .Constant (.str m) j p4] p5)
    (hb : defBody st = [.Expr (.Call (.Attribute (.Name bn p1) "__init__" p2) [.Name "self" p3, .Constant (.str m) j p4] [] p5) p6, .Assign [.Attribute (.Name "self" p7) g p8] (.Name g p9) p10]) : FnOk P w K mg base (L2.CX P w) (k + 1) f fd ["self", g] (exi K [g]) := by
  refine Fn.okX S exi_len fun cdv A outer s H vs Q E hr h => ?_
  obtain ⟨a, C, ys, rfl, hl, T, hno, ea, q⟩ := h
  rw [hb]
  obtain ⟨y, rfl⟩ := List.length_eq_one_iff.mp hl
  refine ⟨_, pss_cons (ps_expr (pe_ownInit (X := bx P w K mg base ["self", g] qual (defScope st) f cdv A outer s H E) O (hg) hm (pa_cons (pv 0 (by rfl) (.inl hself)) (pa_cons pe_str pa_nil)) (hc _ _ _) hdb)) (pss_one (ps_ost (pv 0 (by rfl) (.inl hself)) (pv 1 (by rfl) (.inl hgl) hd1 hd2))), ?_⟩
  refine ⟨_, rfl, a, C, [.str m], rfl, Nat.le_of_ble_eq_true rfl, T, ea, ?_⟩
  refine ⟨_, rfl, _, rfl, a, C, rfl, T, hno g (by simp), .inl ⟨ea, fun dx hn hne => q _ (.inr ⟨List.cons_ne_nil _ _, dx, [(g, y)], hn, hne, upd_same, ?_, fun b h1 h2 => ?_, fun i f e => ?_⟩)⟩⟩
  · rw [upd_ne hne, upd_same]
  · rw [upd_ne h1, upd_ne h2]
  · cases i with
    | zero => cases e; simp [List.lookup]
    | succ i => simp at e
theorem exi2_ok (O : IniOk K B) (hm : mg bn = some (.ref B)) (Fn : Fun K x qual st f fd) (S : FnScope ["self", g, g2] ["self", g, g2] (defScope st)) (hself : (defScope st).names.lookup ("self" : Str) = some .local) (hgl : (defScope st).names.lookup g = some .local)
    (hgl2 : (defScope st).names.lookup g2 = some .local) (hne2 : (g == g2) = false)
    (hg : (defScope st).names.lookup bn = some .globalImplicit) (hdb : (bn == ("__debug__" : Str)) = false) (hd1 : (g == ("__debug__" : Str)) = false) (hd2 : (g == ("__classdict__" : Str)) = false) (hd3 : (g2 == ("__debug__" : Str)) = false) (hd4 : (g2 == ("__classdict__" : Str)) = false)
    (hc : ∀ (f : Addr) (cdv : Value) (s : Shared), IniEq (envOfC qual (defScope st) s.heap.objs.size f cdv) bn p1 p2 [.Name "self" p3, .Constant (.str m) j p4] p5)
    (hb : defBody st = [.Expr (.Call (.Attribute (.Name bn p1) "__init__" p2) [.Name "self" p3, .Constant (.str m) j p4] [] p5) p6, .Assign [.Attribute (.Name "self" p7) g p8] (.Name g p9) p10, .Assign [.Attribute (.Name "self" q7) g2 q8] (.Name g2 q9) q10]) : FnOk P w K mg base (L2.CX P w) (k + 1) f fd ["self", g, g2] (exi K [g, g2]) := by
  refine Fn.okX S exi_len fun cdv A outer s H vs Q E hr h => ?_
  obtain ⟨a, C, ys, rfl, hl, T, hno, ea, q⟩ := h
  rw [hb]
  obtain ⟨y, z, rfl⟩ : ∃ y z, ys = [y, z] := by
    rcases ys with _ | ⟨y, _ | ⟨z, _ | ⟨u, r⟩⟩⟩ <;> first | exact ⟨_, _, rfl⟩ | simp at hl
  refine ⟨_, pss_cons (ps_expr (pe_ownInit (X := bx P w K mg base ["self", g, g2] qual (defScope st) f cdv A outer s H E) O (hg) hm (pa_cons (pv 0 (by rfl) (.inl hself)) (pa_cons pe_str pa_nil)) (hc _ _ _) hdb)) (pss_cons (ps_ost (pv 0 (by rfl) (.inl hself)) (pv 1 (by rfl) (.inl hgl) hd1 hd2)) (pss_one (ps_ost (pv 0 (by rfl) (.inl hself)) (pv 2 (by rfl) (.inl hgl2) hd3 hd4)))), ?_⟩
  refine ⟨_, rfl, a, C, [.str m], rfl, Nat.le_of_ble_eq_true rfl, T, ea, ?_⟩
  refine ⟨_, rfl, _, rfl, a, C, rfl, T, hno g (by simp), .inl ⟨ea, fun dx hn hne => ?_⟩⟩
  refine ⟨_, rfl, _, rfl, a, C, rfl, T, hno g2 (by simp), .inr ⟨dx, [(g, y)], upd_same, by rw [upd_ne hne, upd_same], Nat.le_of_ble_eq_true rfl, q _ (.inr ⟨List.cons_ne_nil _ _, dx, [(g2, z), (g, y)], hn, hne, ?_, upd_same, fun b h1 h2 => ?_, fun i f e => ?_⟩)⟩⟩
  · rw [upd_ne (Ne.symm hne), upd_same]
  · rw [upd_ne h2, upd_ne h1, upd_ne h2]
  · rcases i with _ | _ | i
    · cases e; simp [List.lookup, hne2]
    · cases e; simp [List.lookup]
    · simp at e
end
/-! ### an own exception is made -/
structure MkOk (P : Program) (w : World) (K : PySem.W.Frag) (mg : Str → Option Value) (base : Heap) (T : List Cls) (k : Nat) (c : Nat) : Prop where
  lt : c < T.length
  ox : OexC K ((⟨K, T⟩ : Ctx).addr c)
  no : ∀ f ∈ (⟨K, T⟩ : Ctx).flds c, PySem.W.findIn K (.ref ((⟨K, T⟩ : Ctx).addr c)) f = some none
  ini : ∃ fI fd, PySem.W.findIn K (.ref ((⟨K, T⟩ : Ctx).addr c)) "__init__" = some (some (.ref fI)) ∧ PySem.W.typeIn K (.ref fI) = some (.type "function") ∧
    FnOk P w K mg base (L2.CX P w) k fI fd ("self" :: (⟨K, T⟩ : Ctx).flds c) (exi K ((⟨K, T⟩ : Ctx).flds c)) ∧ Binds K fd ("self" :: (⟨K, T⟩ : Ctx).flds c) []
section
variable {X : Cx} {T : List Cls} {W : WX} {k c : Nat}
theorem oex_core {pins : List (Addr × Obj)} {σ : St} {H1 : Hp} {s1 : Shared} {us : List Value} {vs : List V} {Q : Value → Shared → Prop} (M : MkOk X.prog X.w X.K X.mg X.base T k c) (hr : Room (k + 1) X.A) (I1 : Inv X pins σ H1 s1) (r1 : Vals vs us)
    (hl : vs.length = ((cx X T).flds c).length) (hsm : vs.length ≤ 1000)
    (q : ∀ (a : Addr) (hp2 : Heap) (s' : Shared) (H2 : Hp), s1.heap.objs.size ≤ a → (∀ b o, s1.heap.get? b = some o → hp2.get? b = some o) → Inv X pins σ H2 s' → Un (frs X.stack) [] (upd H1 a (exo a ((cx X T).addr c) none)) H2 hp2 s'.heap →
      HOk X.prog X.w H2 s'.heap → s'.os = s1.os → AllBare s'.gens → ExFin a ((cx X T).addr c) (upd H1 a (exo a ((cx X T).addr c) none)) ((cx X T).flds c) vs H2 → Q (.ref a) s') :
    wpAny (model X.prog X.w) X.A (call (.ref ((cx X T).addr c)) us) Q X.xe s1 := by
  have O : OexC X.K ((cx X T).addr c) := M.ox
  obtain ⟨_, _, _, _, bm, _, _, _, _, _, _, _, _, _, _, hC, hbm⟩ := id O.cls
  obtain ⟨fI, fd, iC, tI, F1, hb⟩ := M.ini
  obtain ⟨hp, g, dr, tk, os⟩ := s1
  generalize hCe : (cx X T).addr c = C at *
  generalize hps : (cx X T).flds c = ps at *
  have hCe' : (⟨X.K, T⟩ : Ctx).addr c = C := hCe
  have hps' : (⟨X.K, T⟩ : Ctx).flds c = ps := hps
  have hsz : hp.objs.size ≤ hp.objs.size + 1 := Nat.le_succ _
  have up2 : ∀ b o, hp.get? b = some o → ((hp.push (PySem.W.kdv_tup us)).push (PySem.HandSPX.excO C hp.objs.size)).get? b = some o := fun b o e =>
    Heap.get?_push_of_some _ (Heap.get?_push_of_some _ e)
  have there : ((hp.push (PySem.W.kdv_tup us)).push (PySem.HandSPX.excO C hp.objs.size)).get? (hp.objs.size + 1) = some (PySem.HandSPX.excO C hp.objs.size) := by heap_get
  have I2 := I1.laid (t' := tk) up2 hsz (exo_ok (P := X.prog) (w := X.w) (H := upd H1 (hp.objs.size + 1) (exo (hp.objs.size + 1) C none)) there)
  have hq : exi X.K ps (.ref (hp.objs.size + 1) :: vs) (upd H1 (hp.objs.size + 1) (exo (hp.objs.size + 1) C none)) (fun v H2 => ExFin (hp.objs.size + 1) C (upd H1 (hp.objs.size + 1) (exo (hp.objs.size + 1) C none)) ps vs H2 ∧ v = .non) (fun _ _ _ => False) :=
    ⟨_, C, vs, rfl, hl, O, by have := M.no; rw [hCe', hps'] at this; exact this, upd_same, fun H' z => ⟨z, rfl⟩⟩
  have len2 : (Value.ref (hp.objs.size + 1) :: us).length = (("self" : Str) :: ps).length := by
    rw [List.length_cons, List.length_cons, ← r1.length, hl]
  have b2 := hb ⟨_, g, dr, tk, os⟩ (Value.ref (hp.objs.size + 1) :: us) I2.kIn (by rw [List.append_nil]; exact len2)
  rw [List.append_nil] at b2
  have r2 : Vals (V.ref (hp.objs.size + 1) :: vs) (Value.ref (hp.objs.size + 1) :: us) := .cons rfl r1
  have run := F1.run _ X.stack _ _ ⟨Value.ref (hp.objs.size + 1) :: us, []⟩ _ _ _ (fun _ _ _ => False) (hr.make C us []) (I2.env0.make C us []) b2 r2 hq
  refine wpAny_call (PySem.HandSPX.call_own F.excBase_ValueError (fun Y => PySem.HandSPX.refsVE_contains Y bm hbm) (I1.kIn _ _ hC) (PySem.W.looks_findIn I1.kIn iC)
    (fun self => PySem.W.bind_fn I1.kIn self tI) (by rw [← Paired.length r1, sizeLine_eq]; omega) (codeAny_mono run fun r s' z => ?_))
  rcases r with er | fl
  · obtain ⟨_, _, _, _, _, _, _, _, _, _, _, _, z⟩ := z
    exact z.elim
  · rcases fl with u | _ | _ | _
    case ret =>
      obtain ⟨v, H2, os2, bare2, un2, hok2, rv, fin, ev⟩ := z
      subst ev
      exact ⟨rv, q _ _ _ H2 hsz up2 (I2.call' os2 un2 hok2 bare2 fun b z => nomatch z) un2 hok2 os2 bare2 fin⟩
    all_goals exact False.elim z
def eMk (c n : Nat) (aa : EA) : EE := eBind aa fun xs => fun _ S => if xs.length = n then .ok (.exn c xs) S else .bad
/-- after the making: the exception tracked as a value of ours -/
theorem mk_value {pins : List (Addr × Obj)} {σ : St} {H1 H2 : Hp} {s' : Shared} {vs : List V} {a C : Addr} {ps : List Str} (I : Inv X pins σ H2 s') (na : H1 a = none) (fin : ExFin a C (upd H1 a (exo a C none)) ps vs H2) (hl : vs.length = ps.length) :
    ∃ (d : Option Addr) (H3 : Hp), Inv X pins σ H3 s' ∧ (∀ (ρ : List Addr), Le ρ H1 ρ H3) ∧ (∀ ρ S, SRep (cx X T) ρ H1 S → SRep (cx X T) ρ H3 S) ∧ H3 a = some (ExV (.ref C) d a) ∧ DictOk ps H3 d vs := by
  rcases fin with ⟨e0, rfl⟩ | ⟨_, dx, fs, h1, h2, h3, h4, h5, h6⟩
  · have ea : upd H1 a (exo a C none) a = some (exo a C none) := upd_same
    obtain ⟨t1, ho⟩ := exo_at I.hok ea
    have eu : upd (upd H1 a (exo a C none)) a (ExV (.ref C) none a) = upd H1 a (ExV (.ref C) none a) := by
      funext b
      by_cases hb : b = a
      · rw [hb, upd_same, upd_same]
      · rw [upd_ne hb, upd_ne hb, upd_ne hb]
    have J := I.write (x := a) (e := a) (o := ExV (.ref C) none a) (h' := s'.heap) (t' := s'.toks) (by rw [ea]; exact True.intro) (.inl rfl) (fun b o _ h => h) ⟨_, ho⟩
      (show ObjOk X.prog X.w _ s'.heap a (ExV (.ref C) none a) from ⟨⟨_, _, ho, ⟨rfl, rfl⟩, rfl⟩, ⟨_, ho⟩, fun h1 h2 ⟨oe, us, z1, z2⟩ k => ⟨oe, us, k _ z1, z2⟩⟩)
    rw [eu] at J
    exact ⟨none, _, J, fun ρ => Le.new na, fun ρ S s => s.free na, upd_same, hl, .inl ⟨e0, rfl⟩⟩
  · have n1 : H1 dx = none := by rw [upd_ne h2] at h1; exact h1
    obtain ⟨t1, ho⟩ := exo_at I.hok h3
    obtain ⟨mA, hns, rel⟩ := exd_at I.hok h4
    obtain ⟨od, _, _, hod, _⟩ := id hns
    have J1 := I.write (x := dx) (e := dx) (o := .xd fs) (h' := s'.heap) (t' := s'.toks) (by rw [h4]; exact True.intro) (.inl rfl) (fun b o _ h => h) ⟨od, hod⟩
      (show ObjOk X.prog X.w _ s'.heap dx (.xd fs) from ⟨mA, hns, rel⟩)
    have ea : upd H2 dx (.xd fs) a = some (exo a C (some dx)) := by rw [upd_ne (Ne.symm h2), h3]
    have J := J1.write (x := a) (e := a) (o := ExV (.ref C) (some dx) a) (h' := s'.heap) (t' := s'.toks) (by rw [ea]; exact True.intro) (.inl rfl) (fun b o _ h => h) ⟨_, ho⟩
      (show ObjOk X.prog X.w _ s'.heap a (ExV (.ref C) (some dx) a) from ⟨⟨_, _, ho, ⟨rfl, rfl⟩, rfl⟩, ⟨_, ho⟩, fun h1 h2 ⟨oe, us, z1, z2⟩ k => ⟨oe, us, k _ z1, z2⟩⟩)
    have eu : upd (upd H2 dx (.xd fs)) a (ExV (.ref C) (some dx) a) = upd (upd H1 dx (.xd fs)) a (ExV (.ref C) (some dx) a) := by
      funext b
      by_cases hb : b = a
      · rw [hb, upd_same, upd_same]
      · rw [upd_ne hb, upd_ne hb]
        by_cases hd : b = dx
        · rw [hd, upd_same, upd_same]
        · rw [upd_ne hd, upd_ne hd, h5 b hb hd, upd_ne hb]
    rw [eu] at J
    have na2 : upd H1 dx (.xd fs) a = none := by rw [upd_ne (Ne.symm h2)]; exact na
    exact ⟨some dx, _, J, fun ρ => (Le.new n1).trans (Le.new na2), fun ρ S s => (s.free n1).free na2, upd_same, hl, .inr ⟨dx, fs, rfl, by rw [upd_ne h2, upd_same], h6⟩⟩
variable {e : Expr} {es : List Expr} {aa : EA} {pos p : Pos} {x : Str}
/-- what the end of a class's call gives -/
theorem mk_end1 {pins : List (Addr × Obj)} {σ : St} {H1 : Hp} {s1 : Shared} {us : List Value} {vs : List V} {ds : List D} {ρ : List Addr} {S : Store} {Q : VK} (M : MkOk X.prog X.w X.K X.mg X.base T k c) (hr : Room (k + 1) X.A) (I1 : Inv X pins σ H1 s1) (r1 : Vals vs us)
    (sr : SRep (cx X T) ρ H1 S) (rs : Reps (cx X T) ρ H1 ds vs) (hn : ds.length = ((cx X T).flds c).length ∧ ds.length ≤ 1000) (q : ∀ v H2, Le ρ H1 ρ H2 → SRep (cx X T) ρ H2 S → Rep (cx X T) ρ H2 (.exn c ds) v → Q v H2) :
    wpAny (model X.prog X.w) X.A (call (.ref ((cx X T).addr c)) us) (EP X pins σ Q) X.xe s1 := by
  have hl : vs.length = ((cx X T).flds c).length := by rw [← rs.length]; exact hn.1
  refine oex_core M hr I1 r1 hl (by rw [← rs.length]; exact hn.2) fun a hp2 s' H2 hsz up2 I2 un2 hok2 os2 bare2 fin => ?_
  obtain ⟨d, H3, J, l, sf, ea, dk⟩ := mk_value (T := T) I2 (I1.hok.fresh hsz) fin hl
  refine ⟨.ref a, H3, J, rfl, q _ _ (l ρ) (sf ρ S sr) ?_⟩
  simp only [Rep]
  exact ⟨a, d, vs, rfl, M.lt, ea, dk, rs.le (l ρ)⟩
theorem e_mk (M : MkOk X.prog X.w X.K X.mg X.base T k c) (hr : Room (k + 1) X.A) (hg : Gl X x) (hm : X.mg x = some (.ref ((cx X T).addr c))) {n : Nat} (hn : ((cx X T).flds c).length = n) (hn2 : n ≤ 1000) (ha : PA X (e :: es) (LA (cx X T) W aa))
    (hdb : (x == ("__debug__" : Str)) = false := by decide) (he : starEach (e :: es) X.env = (false, eval e X.env) :: starEach es X.env := by rfl) (hpl : (backTo pos (starEach es X.env)).any (·.1) = false := by rfl) :
    PE X (.Call (.Name x p) (e :: es) [] pos) (LE (cx X T) W (eMk c n aa)) := by
  refine ⟨fun pins s σ H Q I ⟨sd, ρ, S, h1, h2, h3⟩ => ?_⟩
  have kp : PySem.W.keepIn X.K (.ref ((cx X T).addr c)) = true := M.ox.kC
  have go : LA (cx X T) W aa σ H fun vs H1 => ∃ ds ρ1 S1, SRep (cx X T) ρ1 H1 S1 ∧ Reps (cx X T) ρ1 H1 ds vs ∧ (ds.length = ((cx X T).flds c).length ∧ ds.length ≤ 1000) ∧ ∀ v H2, Le ρ1 H1 ρ1 H2 → SRep (cx X T) ρ1 H2 S1 → Rep (cx X T) ρ1 H2 (.exn c ds) v → Q v H2 := by
    refine LG.run h1 h2 h3 fun ds vs ρ1 S1 H1 l1 s1 r1 k1 => ?_
    split at k1
    · rename_i hz
      exact ⟨ds, ρ1, S1, s1, r1, ⟨by rw [hz, hn], by omega⟩, fun v H2 l s r => k1 v ρ1 H2 l s r⟩
    · exact k1.elim
  refine wpAny_Call_Name_kw (ld_glob I hg hm ?_ hdb)
  refine PySem.W.callWith_K (h₀ := X.base) I.ok.mod.kin kp (thn (ha.run pos pins s σ H _ I go) fun us s1 ⟨vs, H1, I1, r1, ds, ρ1, S1, sr, rs, hz, q⟩ => ⟨I1.kIn, ?_⟩) he hpl
  exact mk_end1 M hr I1 r1 sr rs hz q
/-- .. of no argument -/
theorem e_mk0 (M : MkOk X.prog X.w X.K X.mg X.base T k c) (hr : Room (k + 1) X.A) (hg : Gl X x) (hm : X.mg x = some (.ref ((cx X T).addr c))) (hn : (cx X T).flds c = []) (hdb : (x == ("__debug__" : Str)) = false := by decide) :
    PE X (.Call (.Name x p) [] [] pos) (LE (cx X T) W (eMk c 0 aNil)) := by
  refine ⟨fun pins s σ H Q I ⟨sd, ρ, S, h1, h2, h3⟩ => ?_⟩
  have kp : PySem.W.keepIn X.K (.ref ((cx X T).addr c)) = true := M.ox.kC
  refine wpAny_Call_Name_kw (ld_glob I hg hm ?_ hdb)
  refine PySem.W.callWith_KW0 (h₀ := X.base) I.ok.mod.kin kp (by rfl) (thn (pa_nil.run pos pins s σ H (fun vs H1 => vs = [] ∧ H1 = H) I ⟨rfl, rfl⟩) fun us s1 ⟨vs, H1, I1, r1, e1, e2⟩ => ?_) (by rfl)
  subst e1 e2
  cases r1
  refine ⟨I1.kIn, ?_⟩
  have k1 := h3
  unfold eMk at k1
  rw [eBind_of] at k1
  exact mk_end1 (vs := []) (ds := []) M hr I1 .nil h2 Reps.nil ⟨by rw [hn]; rfl, Nat.zero_le _⟩ fun v H2 l s r => k1 v ρ H2 l s r
/-! ### raise -/
def sRaise (c n : Nat) (aa : EA) : FF := sBind aa fun xs => fun sd S => if xs.length = n then .exc ⟨c, xs⟩ sd S else .bad
theorem s_raise {pos' : Pos} (hc : X.calm = true) (tk : Takes X W) (M : MkOk X.prog X.w X.K X.mg X.base T k c) (hr : Room (k + 1) X.A) (hg : Gl X x) (hm : X.mg x = some (.ref ((cx X T).addr c))) {n : Nat} (hn : ((cx X T).flds c).length = n + 1) (hn2 : n ≤ 100) (ha : PA X (e :: es) (LA (cx X T) W aa))
    (hdb : (x == ("__debug__" : Str)) = false := by decide) (he : starEach (e :: es) X.env = (false, eval e X.env) :: starEach es X.env := by rfl) (hpl : (backTo pos (starEach es X.env)).any (·.1) = false := by rfl) :
    PS X (.Raise (some (.Call (.Name x p) (e :: es) [] pos)) none pos') (LS (cx X T) W (sRaise c (n + 1) aa)) := by
  obtain ⟨fI, fd, iC, tI, F1, hb⟩ := M.ini
  refine (ps_raise hc tk (pmk_oex (CX := L2.CX X.prog X.w) (T := M.ox) iC tI F1 hr hb .nil (fun _ _ _ _ _ _ _ z => by
    obtain ⟨_, _, _, _, _, _, _, _, _, _, _, _, z⟩ := z
    exact z.elim) hg hm ha hdb he hpl)).imp fun Dn σ H ⟨sd, ρ, S, h1, h2, h3⟩ => ?_
  refine LS.run h1 h2 h3 fun ds vs ρ1 S1 H1 l1 s1 r1 k1 => ?_
  split at k1
  case isFalse => exact k1.elim
  rename_i hz
  have hlv : vs.length = n + 1 := by rw [← r1.length]; exact hz
  refine ⟨by omega, fun a na => ?_⟩
  rw [List.append_nil]
  refine ⟨a, _, vs, rfl, hlv.trans hn.symm, M.ox, M.no, upd_same, fun H' fin => ⟨rfl, ?_⟩⟩
  have hcf : (⟨X.K, T⟩ : Ctx).flds c = (cx X T).flds c := rfl
  rcases fin with ⟨e0, _⟩ | ⟨ne, dx, fs, g1, g2, g3, g4, g5, g6⟩
  · rw [hcf] at e0; rw [e0] at hn; cases hn
  have n1 : H1 dx = none := by rw [upd_ne g2] at g1; exact g1
  refine ⟨dx, fs, g3, g4, n1, ?_⟩
  have eu : upd (del H' a) dx (.xd fs) = upd H1 dx (.xd fs) := by
    funext b
    by_cases hd : b = dx
    · rw [hd, upd_same, upd_same]
    · rw [upd_ne hd, upd_ne hd]
      by_cases hb : b = a
      · rw [hb, del_same, na]
      · rw [del_ne hb, g5 b hb hd, upd_ne hb]
  rw [eu]
  have l2 : Le ρ1 H1 ρ1 (upd H1 dx (.xd fs)) := Le.new n1
  exact k1 _ _ σ ρ1 _ l2 ((h1.le l1).le l2) (s1.free n1) ⟨M.lt, rfl, vs, ⟨hlv.trans hn.symm, .inr ⟨dx, fs, rfl, upd_same, g6⟩⟩, r1.le l2⟩
theorem pmk0 (M : MkOk X.prog X.w X.K X.mg X.base T k c) (hr : Room (k + 1) X.A) (hg : Gl X x) (hm : X.mg x = some (.ref ((cx X T).addr c))) (hn : (cx X T).flds c = []) (hdb : (x == ("__debug__" : Str)) = false := by decide) :
    PMk X (.Call (.Name x p) [] [] pos) (fun σ H Q => Q (.ref ((cx X T).addr c)) none H) := by
  intro pins s σ H Q I q
  have kp : PySem.W.keepIn X.K (.ref ((cx X T).addr c)) = true := M.ox.kC
  refine wpAny_Call_Name_kw (ld_glob I hg hm ?_ hdb)
  refine PySem.W.callWith_KW0 (h₀ := X.base) I.ok.mod.kin kp (by rfl) (thn (pa_nil.run pos pins s σ H (fun vs H1 => vs = [] ∧ H1 = H) I ⟨rfl, rfl⟩) fun us s1 ⟨vs, H1, I1, r1, e1, e2⟩ => ?_) (by rfl)
  subst e1 e2
  cases r1
  refine ⟨I1.kIn, ?_⟩
  refine oex_core (vs := []) M hr I1 .nil (by rw [hn]; rfl) (Nat.zero_le _) fun a hp2 s' H2 hsz up2 I2 un2 hok2 os2 bare2 fin => ?_
  have na : H1 a = none := I1.hok.fresh hsz
  have e2 : H2 = upd H1 a (exo a ((cx X T).addr c) none) := by
    rcases fin with ⟨_, h⟩ | ⟨ne, dx, fs, g1, g2, g3, g4, g5, g6⟩
    · exact h
    · exact absurd hn ne
  subst e2
  obtain ⟨t0, hoe⟩ := exo_at I2.hok (upd_same)
  obtain ⟨G, g1, g2⟩ := restrict s'.heap fun b => decide (b ≠ a)
  have gk : ∀ b, b ≠ a → G.get? b = s'.heap.get? b := fun b hb => g1 b (decide_eq_true hb)
  have ge : G.get? a = none := g2 a (by simp)
  have nha : ∀ {b : Addr} {o : Obj}, s1.heap.get? b = some o → b ≠ a := fun {b o} z => Nat.ne_of_lt (Nat.lt_of_lt_of_le (Heap.lt_size z) hsz)
  have U : Un (frs X.stack) [] H1 H1 s1.heap G := {
    keep := fun b o z n f y => (gk b (nha z)).trans (un2.keep b o (up2 b o z) (by rw [upd_ne (nha z)]; exact n) f y)
    slot := fun b o z n f y => by
      obtain ⟨sl, w⟩ := un2.slot b o (up2 b o z) (by rw [upd_ne (nha z)]; exact n) f y
      exact ⟨sl, (gk b (nha z)).trans w⟩
    free := fun b o z n y => n
    there := fun b o z y => by
      obtain ⟨o', w⟩ := un2.there b o (up2 b o z) y
      exact ⟨o', (gk b (nha z)).trans w⟩
    tups := fun b xs z => z
    frzs := fun b o v z => z
    tbls := fun b ps z => ⟨#[], by rw [z]; simp⟩ }
  have neN : ∀ {b : Addr} {o : HO}, H1 b = some o → b ≠ a := fun {b o} z y => by rw [y, na] at z; cases z
  have hok3 : HOk X.prog X.w H1 G := fun b o z => by
    have w := hok2 b o (by rw [upd_ne (neN z)]; exact z)
    refine w.stay (fun c' v hc y => ?_) (fun c' hc => ?_) fun c' xs hc => ?_
    · rw [gk c' ?_]
      · exact y
      · rcases hc with hc | hc
        · rw [hc]; exact neN z
        · intro q2
          rw [q2, upd_same] at hc
          exact exo_own (Option.some.inj hc)
    · have : c' ≠ a := fun q2 => by rw [q2, upd_same] at hc; exact exo_own (Option.some.inj hc)
      rw [upd_ne this] at hc; exact hc
    · have : c' ≠ a := fun q2 => by rw [q2, upd_same] at hc; exact exo_tup (Option.some.inj hc)
      rw [upd_ne this] at hc; exact hc
  have J : Inv X pins σ H1 { s' with heap := G } := I1.call' (ch := []) os2 U hok3 bare2 fun b z => nomatch z
  exact ⟨a, _, _, _, H1, _, none, rfl, J, fun b o z => by
    by_cases hb : b = a
    · rw [hb] at z; exact absurd z (by rw [show G.get? a = none from ge]; simp)
    · rw [← gk b hb]; exact z, ge, hoe, ⟨rfl, rfl⟩, rfl, rfl, na, rfl, bare2, raises_own M.ox.exC M.ox.tyC, q⟩
theorem s_raise0 {pos' : Pos} (hc : X.calm = true) (tk : Takes X W) (M : MkOk X.prog X.w X.K X.mg X.base T k c) (hr : Room (k + 1) X.A) (hg : Gl X x) (hm : X.mg x = some (.ref ((cx X T).addr c))) (hn : (cx X T).flds c = []) (hdb : (x == ("__debug__" : Str)) = false := by decide) :
    PS X (.Raise (some (.Call (.Name x p) [] [] pos)) none pos') (LS (cx X T) W (sRaise c 0 aNil)) := (ps_raise hc tk (pmk0 M hr hg hm hn hdb)).imp fun Dn σ H ⟨sd, ρ, S, h1, h2, h3⟩ =>
  h3 _ _ σ ρ H Le.refl h1 h2 ⟨M.lt, rfl, [], ⟨by rw [hn]; rfl, .inl ⟨hn, rfl⟩⟩, Reps.nil⟩
end
end Lay

set_option Elab.async false
set_option linter.all false
set_option maxRecDepth 100000
set_option maxHeartbeats 4000000
/-! L8: try .. except .. as ... -/
namespace Lay
open PySem PySem.Spec PyProof.Rows L2
section
variable {X : Cx} {pins : List (Addr × Obj)} {σ : St} {H : Hp} {s : Shared}
/-- an object that nothing of ours leans on is tracked from now on -/
theorem inv_track {a : Addr} {o : HO} (I : Inv X pins σ H s) (na : H a = none) (n0 : X.s_0.heap.get? a = none) (nL : a ≠ X.env.locals) (nC : ∀ x c, X.env.cells.lookup x = some c → c ≠ a) (nP : ∀ p ∈ X.pn ++ pins, p.1 ≠ a)
    (new : ObjOk X.prog X.w (upd H a o) s.heap a o) : Inv X pins σ (upd H a o) s where
  ok := I.ok
  os := I.os
  bare := I.bare
  base := {
    keep := I.base.keep
    slot := I.base.slot
    free := fun b u z n y => by
      rw [upd_ne (fun q => by rw [q, n0] at z; cases z)]
      exact I.base.free b u z n y
    there := I.base.there
    tups := fun b xs z => by
      have w := I.base.tups b xs z
      rw [upd_ne (ne_of_none w na)]; exact w
    frzs := fun b u v z => by
      have w := I.base.frzs b u v z
      rw [upd_ne (ne_of_none w na)]; exact w
    tbls := fun b ps z => by
      obtain ⟨m, w⟩ := I.base.tbls b ps z
      exact ⟨m, by rw [upd_ne (ne_of_none w na)]; exact w⟩ }
  loc := I.loc
  cell := I.cell
  free := by rw [upd_ne (Ne.symm nL)]; exact I.free
  freeC := fun x c e => by rw [upd_ne (nC x c e)]; exact I.freeC x c e
  pin := fun p hp => by
    obtain ⟨e1, e2, e3⟩ := I.pin p hp
    exact ⟨e1, by rw [upd_ne (nP p hp)]; exact e2, e3⟩
  hok := fun b u z => by
    by_cases hb : b = a
    · subst hb
      rw [upd_same] at z
      cases z
      exact new
    · rw [upd_ne hb] at z
      exact (I.hok b u z).stay (fun c v _ y => y) (fun c y => by rw [upd_ne (ne_of_none y na)]; exact y) fun c xs y => by rw [upd_ne (ne_of_none y na)]; exact y
  len := I.len
theorem toSuite (I : Inv X pins σ H s) (a : Addr) : Inv (X.suite a X.pn) pins σ H s := ⟨I.ok.suite _ _, I.os, I.bare, I.base, I.loc, I.cell, I.free, I.freeC, I.pin, I.hok, I.len⟩
theorem fromSuite {a : Addr} (I : Inv (X.suite a X.pn) pins σ H s) (ok : X.Ok) : Inv X pins σ H s := ⟨ok, I.os, I.bare, I.base, I.loc, I.cell, I.free, I.freeC, I.pin, I.hok, I.len⟩
end
/-- a clause: its class's value, its name's slot, its suite's reading -/
structure Hdl where
  c : Value
  i : Nat
  ts : TS
def cutE (Dn : Ends) (i : Nat) : Ends := { nx := fun σ H => Dn.nx (σ.set i none) H, rt := Dn.rt, bk := fun σ H => Dn.bk (σ.set i none) H, ct := fun σ H => Dn.ct (σ.set i none) H }
/-- what the clauses wish of an exception of the body -/
def wHs (K : PySem.W.Frag) (Wout : WX) (Dn : Ends) : List Hdl → WX
  | [] => Wout
  | h :: r => fun cls d σ H => ∃ b, PySem.W.exmOne K cls h.c = some b ∧ (b = false → wHs K Wout Dn r cls d σ H) ∧
      (b = true → ∀ a, H a = none → h.ts (cutE Dn h.i) (σ.set h.i (some (.ref a))) (upd H a (ExV cls d a)))
inductive HdlsOk (X : Cx) : List ExceptHandler → List Hdl → Prop
  | nil : HdlsOk X [] []
  | cons {x n : Str} {c : Value} {i : Nat} {ts : TS} {b₀ : Stmt} {suite : List Stmt} {np pos' : Pos} {hds : List ExceptHandler} {l : List Hdl} (hc : Names X x c) (hi : X.N[i]? = some n) (hln : X.env.kindOf n = some .local)
      (hsu : ∀ a, PSs (X.suite a X.pn) (b₀ :: suite) ts) (r : HdlsOk X hds l) : HdlsOk X (.ExceptHandler (some (.Name x np)) (some n) (b₀ :: suite) pos' :: hds) (⟨c, i, ts⟩ :: l)
section
variable {X : Cx} {body : List Stmt} {h₀ : ExceptHandler} {hds : List ExceptHandler} {l : List Hdl} {pos : Pos} {tb : WX → TS} {Wout : WX}
theorem ps_try (hs : X.stack = X.env :: X.outer) (hf : X.env.frame = some X.env.locals) (hN : X.N.Nodup) (hex : X.ex = []) (tk : Takes X Wout)
    (hb : ∀ (W : WX) (pn : List (Addr × Obj)) (xe : Value → Shared → Prop), Takes (X.tr pn xe) W → PSs (X.tr pn xe) body (tb W))
    (hh : HdlsOk X (h₀ :: hds) l) : PS X (.Try body (h₀ :: hds) [] [] pos) (fun Dn σ H => tb (wHs X.K Wout Dn l) Dn σ H) := by
  refine ⟨fun pins s σ H Dn I h => ?_⟩
  have ok := I.ok
  have hfr : X.A.frames = some (X.env :: X.outer) := by rw [ok.frames, hs]
  refine wpAny_Try_except (wpAny_mono ((hb (wHs X.K Wout Dn l) (X.pn ++ pins) (fun e s₁ => wpAny (model X.prog X.w) X.A (noteFrame e X.env) (fun _ s₂ => wpAny (model X.prog X.w) X.A (setFlight e none)
    (fun _ s₃ => wpAny (model X.prog X.w) X.A (handleBy e X.env (h₀ :: hds)) (SP X pins Dn) X.xe s₃) X.xe s₂) X.xe s₁) fun u s' xx => ?_).run [] s σ H Dn (I.toTry _) h) (fun f s1 hsp => ?_) fun e s1 he => he)
  case refine_2 =>
    rcases f with u | _ | _ | _
    case ret =>
      obtain ⟨v, σ', H', J', r, q⟩ := hsp
      exact ⟨v, σ', H', J'.ofTry ok, r, q⟩
    all_goals
      obtain ⟨σ', H', J', q⟩ := hsp
      first
        | exact wpAny_execs_nil ⟨σ', H', J'.ofTry ok, q⟩
        | exact ⟨σ', H', J'.ofTry ok, q⟩
  obtain ⟨a, B, sI, pins', σ', H', cls, d, rfl, J', nb, up, sky, na, os, ag, w⟩ := xx
  have J : Inv X pins σ' H' sI := J'.ofTry ok
  have sky' : Sky B (X.env :: X.outer) a (Zc cls d) X.env.locals s'.heap := by rw [← hs]; exact sky
  refine Sky.land Zc.steady hfr hf sky' fun h3 fl3 up3 => ?_
  have J3 : Inv X pins σ' H' { s' with heap := h3 } := J.landed nb fl3.1 (up.trans up3) os ag
  have nB : B.get? a = none := fl3.2.1
  -- the exception is nobody's
  have nfr : a ∉ frs (X.env :: X.outer) := fun hm => by
    obtain ⟨oe, vs, he, _, hd⟩ := fl3.there
    obtain ⟨_, o', e', hnf⟩ := fl3.2.2.1.mem hm
    rw [he] at e'
    cases e'
    exact hnf _ hd
  have nL : a ≠ X.env.locals := fun z => nfr (List.mem_filterMap.mpr ⟨X.env, List.mem_cons_self, by rw [hf, z]⟩)
  have nI : ∀ b o, sI.heap.get? b = some o → b ∉ frs X.stack → b ≠ a := fun b o e hm z => by
    have w := nb b o e hm
    rw [z, nB] at w
    cases w
  have nI2 : ∀ b o, sI.heap.get? b = some o → b ≠ a := fun b o e z => by
    by_cases hm : b ∈ frs X.stack
    · rw [hs] at hm
      exact nfr (z ▸ hm)
    · exact nI b o e hm z
  have n0 : X.s_0.heap.get? a = none := by
    cases e : X.s_0.heap.get? a with
    | none => rfl
    | some o =>
      obtain ⟨o', e'⟩ := J.base.there a o e (by rw [hex]; simp)
      exact absurd rfl (nI2 a o' e')
  have nC : ∀ x c, X.env.cells.lookup x = some c → c ≠ a := fun x c e => by
    obtain ⟨v, o, ho, _⟩ := J.cell x c e
    exact nI2 c o ho
  have nP : ∀ p ∈ X.pn ++ pins, p.1 ≠ a := fun p hp => nI2 _ _ (J.pin p hp).1
  have trk : ∀ h4, HandSPX.FlyingZ B (X.env :: X.outer) a (Zc cls d) h4 → Inv X pins σ' H' { s' with heap := h4 } → Inv X pins σ' (upd H' a (ExV cls d a)) { s' with heap := h4 } := fun h4 fl J4 => by
    obtain ⟨oe, vs, he, hz, hd⟩ := fl.there
    exact inv_track J4 na n0 nL nC nP (show ObjOk X.prog X.w _ h4 a (ExV cls d a) from ⟨⟨oe, vs, he, hz, hd⟩, ⟨oe, he⟩, fun _ _ ⟨o1, v1, z1, z2⟩ k => ⟨o1, v1, k _ z1, z2⟩⟩)
  have go : ∀ {hds' : List ExceptHandler} {l' : List Hdl}, HdlsOk X hds' l' → wHs X.K Wout Dn l' cls d σ' H' → wpAny (model X.prog X.w) X.A (handleBy (.ref a) X.env hds') (SP X pins Dn) X.xe { s' with heap := h3 } := by
    intro hds' l' hk
    induction hk with
    | nil =>
      intro w
      refine wpAny_handleBy_nil ?_
      obtain ⟨_, _, _, oe, vs, Tb, _, _, he, _, hd, h1, _⟩ := id fl3
      have fin : wpAny (model X.prog X.w) X.A (setFlight (.ref a) X.env.frame) (fun _ s4 => wpAny (model X.prog X.w) X.A (throw (.ref a) : Sem Flow) (SP X pins Dn) X.xe s4) X.xe { s' with heap := h3 } := by
        rw [hf]
        exact HandSPX.setFlight_upZ fl3 fun h4 hh4 up4 => wpAny_throw (tk _ _ ⟨a, B, sI, pins, σ', H', cls, d, rfl, J, nb, (up.trans up3).trans up4, .inr (.inr (by rw [hs]; exact hh4)), na, os, ag, w⟩)
      unfold PySem.passOn
      refine wpAny_bind (wpAny_field he hd h1 ?_)
      rw [if_neg (by simp : ¬ ((Value.ref Tb == Value.none) = true))]
      first
        | exact wpAny_bind (wpAny_pure (wpAny_bind fin))
        | exact wpAny_bind fin
    | @cons x n c i ts b₀ suite np pos' hds2 l2 hc hi hln hsu r ih =>
      intro w
      obtain ⟨b, hb1, hno, hyes⟩ := w
      refine wpAny_handleBy_cons (codeAny_handlers_test ?_) (by intro q; cases q)
      obtain ⟨oe3, vs3, he3, hz3, hd3⟩ := fl3.there
      have LM := PySem.W.exm_one (M := model X.prog X.w) (J3.kIn) (show PySem.W.Looks (model X.prog X.w) h3 (typeOf (.ref a)) cls from fun A Q E s k q => wpAny_typeOf_ref (k _ _ he3) (by rw [hz3.1]; exact q)) hb1
      have test : ∀ {Q : Value → Shared → Prop} {E : Value → Shared → Prop}, Q c { s' with heap := h3 } → wpAny (model X.prog X.w) (X.A.mark (some (.ref a))) (eval (.Name x np) X.env) Q E { s' with heap := h3 } := fun {Q E} q => by
        obtain ⟨hg, hdbg, hm | ⟨hm, hv, hnn⟩⟩ := hc
        · exact ld_glob (X := X.suite a X.pn) (toSuite J3 a) hg hm q hdbg
        · exact ld_blt (X := X.suite a X.pn) (toSuite J3 a) hg hm hv q hnn hdbg
      refine test (LM.here ?_)
      cases b with
      | false => exact ih (hno rfl)
      | true =>
        refine codeAny_handlers_suite_as (HandSPX.lands_againZ fl3 fun h4 fl4 up4 => ?_)
        have S4 := toSuite (trk h4 fl4 (J.landed nb fl4.1 ((up.trans up3).trans up4) os ag)) a
        refine store_ok (X := X.suite a X.pn) (v := .ref a) S4 hN hi (.inl hln) rfl (fun s5 S5 => ?_) (.inr hln)
        refine wpAny_mono ((hsu a).run pins s5 _ _ _ S5 (hyes rfl a na)) (fun f s6 hsp => ?_) (fun _ _ z => False.elim z)
        have end_ : ∀ {σ6 : St} {H6 : Hp} {Q : Shared → Prop}, Inv (X.suite a X.pn) pins σ6 H6 s6 → (∀ s7, Inv X pins (σ6.set i none) H6 s7 → Q s7) →
            wpAny (model X.prog X.w) X.A (do bindName X.env n .none; unbindBehindTheSuite X.env n pos') (fun _ s7 => Q s7) X.xe s6 := fun {σ6 H6 Q} S6 hq => gone_ok (fromSuite S6 ok) hN hi hln hq
        rcases f with u | _ | _ | _
        case ret =>
          obtain ⟨v6, σ6, H6, S6, r6, q6⟩ := hsp
          exact end_ S6 fun s7 J7 => ⟨_, _, _, J7, r6, q6⟩
        all_goals
          obtain ⟨σ6, H6, S6, q6⟩ := hsp
          exact end_ S6 fun s7 J7 => ⟨_, _, J7, q6⟩
  exact go hh w
end
/-! ### the reading of a try by a function of ours -/
structure HdD where
  c : Nat
  i : Nat
  F : FF
def cutR (i : Nat) : SRes → SRes
  | .nx sd S => .nx (sd.set i none) S
  | .bk sd S => .bk (sd.set i none) S
  | .ct sd S => .ct (sd.set i none) S
  | .rt d S => .rt d S
  | .exc _ _ _ => .bad
  | .bad => .bad
def tryH (T : List Cls) : List HdD → Ex → FF
  | [], e => fun sd S => .exc e sd S
  | h :: r, e => if subD T (.own e.c) (.own h.c) then fun sd S => cutR h.i (h.F (sd.set h.i (some (.exn e.c e.ds))) S) else tryH T r e
def sTry (T : List Cls) (F : FF) (hs : List HdD) : FF := fun sd S => match F sd S with
  | .exc e sd' S' => tryH T hs e sd' S'
  | r => r
theorem Slots.cut {C : Ctx} {ρ : List Addr} {H : Hp} {sd : SD} {σ : St} (i : Nat) (h : Slots C ρ H sd σ) : Slots C ρ H (sd.set i none) (σ.set i none) := by
  refine ⟨by simp [h.len], fun j e q => ?_⟩
  by_cases hj : j = i
  · subst hj
    rw [List.getElem?_set] at q
    simp at q
  · rw [List.getElem?_set_ne (Ne.symm hj)] at q
    rw [List.getElem?_set_ne (Ne.symm hj)]
    exact h.at_ j e q
/-- which class an except clause takes: the written part's answers -/
def exmB (C : Ctx) (c : Nat) : Bool := (List.range C.T.length).all fun k => decide (PySem.W.exmOne C.K (.ref (C.addr k)) (.ref (C.addr c)) = some (subD C.T (.own k) (.own c)))
theorem exmB_ok {C : Ctx} {c k : Nat} (h : exmB C c = true) (hk : k < C.T.length) : PySem.W.exmOne C.K (.ref (C.addr k)) (.ref (C.addr c)) = some (subD C.T (.own k) (.own c)) :=
  of_decide_eq_true (List.all_eq_true.mp h k (List.mem_range.mpr hk))
def hdlOf (C : Ctx) (h : HdD) : Hdl := ⟨.ref (C.addr h.c), h.i, LS C WN h.F⟩
theorem cut_ends {C : Ctx} {W : WX} {Dn : Ends} {ρ : List Addr} {H : Hp} {i : Nat} {r : SRes} (h : EndS C W Dn ρ H (cutR i r)) : EndS C WN (cutE Dn i) ρ H r := by
  cases r with
  | nx sd S => exact fun σ ρ' H' l s1 s2 => h _ ρ' H' l (s1.cut i) s2
  | bk sd S => exact fun σ ρ' H' l s1 s2 => h _ ρ' H' l (s1.cut i) s2
  | ct sd S => exact fun σ ρ' H' l s1 s2 => h _ ρ' H' l (s1.cut i) s2
  | rt d S => exact h
  | exc e sd S => exact h.elim
  | bad => exact h.elim
theorem try_wish {C : Ctx} {W : WX} {Dn : Ends} {hs : List HdD} (hx : ∀ h ∈ hs, exmB C h.c = true) {ρ : List Addr} {H : Hp} {e : Ex} {sd : SD} {S : Store} (h : EndS C W Dn ρ H (tryH C.T hs e sd S)) {cls : Value} {d : Option Addr} {σ : St} {ρ' : List Addr} {H' : Hp}
    (l : Le ρ H ρ' H') (s1 : Slots C ρ' H' sd σ) (s2 : SRep C ρ' H' S) (r : ExRep C ρ' H' e cls d) : wHs C.K W Dn (hs.map (hdlOf C)) cls d σ H' := by
  induction hs with
  | nil => exact h cls d σ ρ' H' l s1 s2 r
  | cons hd tl ih =>
    obtain ⟨hc, ecl, xs, dk, rx⟩ := id r
    refine ⟨_, by rw [ecl]; exact exmB_ok (hx hd List.mem_cons_self) hc, fun eb => ?_, fun eb a na => ?_⟩
    · unfold tryH at h
      rw [if_neg (by rw [eb]; simp)] at h
      exact ih (fun q hq => hx q (List.mem_cons_of_mem _ hq)) h
    · unfold tryH at h
      rw [if_pos eb] at h
      have l2 : Le ρ' H' ρ' (upd H' a (ExV cls d a)) := Le.new na
      refine ⟨_, ρ', S, ?_, s2.free na, EndS.base (l.trans l2) (cut_ends h)⟩
      refine (s1.le l2).set ?_
      simp only [Rep]
      exact ⟨a, d, xs, rfl, hc, by rw [upd_same, ecl], dk.le l2, rx.le l2⟩
inductive HdDOk (X : Cx) (T : List Cls) : List ExceptHandler → List HdD → Prop
  | nil : HdDOk X T [] []
  | cons {x n : Str} {c i : Nat} {F : FF} {b₀ : Stmt} {suite : List Stmt} {np pos' : Pos} {hds : List ExceptHandler} {l : List HdD} (hg : Gl X x) (hm : X.mg x = some (.ref ((cx X T).addr c))) (hdb : (x == ("__debug__" : Str)) = false) (hi : X.N[i]? = some n) (hln : X.env.kindOf n = some .local)
      (hsu : ∀ a, PSs (X.suite a X.pn) (b₀ :: suite) (LS (cx X T) WN F)) (r : HdDOk X T hds l) : HdDOk X T (.ExceptHandler (some (.Name x np)) (some n) (b₀ :: suite) pos' :: hds) (⟨c, i, F⟩ :: l)
theorem HdDOk.hdls {X : Cx} {T : List Cls} {hds : List ExceptHandler} {l : List HdD} (h : HdDOk X T hds l) : HdlsOk X hds (l.map (hdlOf (cx X T))) := by
  induction h with
  | nil => exact .nil
  | cons hg hm hdb hi hln hsu r ih => exact .cons ⟨hg, hdb, .inl hm⟩ hi hln hsu ih
section
variable {X : Cx} {T : List Cls} {W : WX} {body : List Stmt} {h₀ : ExceptHandler} {hds : List ExceptHandler} {l : List HdD} {pos : Pos} {F : FF}
theorem s_try (hs : X.stack = X.env :: X.outer) (hf : X.env.frame = some X.env.locals) (hN : X.N.Nodup) (hex : X.ex = []) (tk : Takes X W) (hx : ∀ h ∈ l, exmB (cx X T) h.c = true)
    (hb : ∀ (W : WX) (pn : List (Addr × Obj)) (xe : Value → Shared → Prop), Takes (X.tr pn xe) W → PSs (X.tr pn xe) body (LS (cx X T) W F)) (hh : HdDOk X T (h₀ :: hds) l) :
    PS X (.Try body (h₀ :: hds) [] [] pos) (LS (cx X T) W (sTry T F l)) := (ps_try hs hf hN hex tk hb hh.hdls).imp fun Dn σ H ⟨sd, ρ, S, h1, h2, h3⟩ => by
  refine ⟨sd, ρ, S, h1, h2, ?_⟩
  unfold sTry at h3
  cases q : F sd S with
  | exc e sd' S' =>
    rw [q] at h3
    exact fun cls d σ' ρ' H' l' s1 s2 r => try_wish (C := cx X T) hx h3 l' s1 s2 r
  | nx sd' S' => rw [q] at h3; exact h3
  | rt d S' => rw [q] at h3; exact h3
  | bk sd' S' => rw [q] at h3; exact h3
  | ct sd' S' => rw [q] at h3; exact h3
  | bad => rw [q] at h3; exact h3
end
end Lay

set_option Elab.async false
set_option linter.all false
set_option maxRecDepth 100000
set_option maxHeartbeats 4000000
/-! L9: in, dicts, -, list(range), three names. -/
namespace Lay
open PySem PySem.Spec PyProof.Rows L2
/-! ### dicts, read -/
def rdK (S : Store) (n : Nat) : Option (List (Key × D)) := match S[n]? with
  | some (.dct kvs) => some kvs
  | some (.dlk kvs) => some kvs
  | _ => none
def keyD : D → Option Key
  | .int i => some (.inl i)
  | .str x => some (.inr x)
  | _ => none
def valD (kvs : List (Key × D)) (k : Key) : Option D := (kvs.find? fun kv => decide (kv.1 = k)).map (·.2)
section
variable {C : Ctx} {ρ : List Addr} {H : Hp} {S : Store}
theorem SRep.rdK {n : Nat} {x : V} {kvs : List (Key × D)} (s : SRep C ρ H S) (r : Rep C ρ H (.ref n) x) (e : rdK S n = some kvs) : ∃ a ws, x = .ref a ∧ ρ[n]? = some a ∧ Rd H a (.dK ws) ∧ KReps C ρ H kvs ws := by
  obtain ⟨a, h1, h2⟩ := rep_ref.mp r
  unfold Lay.rdK at e
  split at e
  · rename_i kvs' h
    cases e
    obtain ⟨ws, h3, h4⟩ := s.at_ n a _ h1 h
    exact ⟨a, ws, h2, h1, .inl h3, h4⟩
  · rename_i kvs' h
    cases e
    obtain ⟨ws, o, h3, h4⟩ := s.at_ n a _ h1 h
    exact ⟨a, ws, h2, h1, .inr ⟨o, h3⟩, h4⟩
  · cases e
theorem keyD_rep {d : D} {k : Key} {v : V} (e : keyD d = some k) (r : Rep C ρ H d v) : v = kV k := by
  cases d with
  | int i => cases e; exact rep_int.mp r
  | str x => cases e; exact rep_str.mp r
  | _ => cases e
theorem KReps.val {kvs : List (Key × D)} {ws : List (Key × V)} (r : KReps C ρ H kvs ws) (k : Key) : (valD kvs k = none ∧ valV ws k = none) ∨ ∃ d v, valD kvs k = some d ∧ valV ws k = some v ∧ Rep C ρ H d v := by
  unfold KReps at r
  induction r with
  | nil => exact .inl ⟨rfl, rfl⟩
  | @cons p q ps qs h t ih =>
    by_cases e : q.1 = k
    · refine .inr ⟨p.2, q.2, ?_, valV_pos e, h.2⟩
      simp [valD, List.find?_cons, h.1, e]
    · rw [valV_neg e]
      have e2 : valD (p :: ps) k = valD ps k := by simp [valD, List.find?_cons, h.1, e]
      rw [e2]
      exact ih
end
def flatD : D → Option V
  | .non => some .non
  | .bl b => some (.bl b)
  | .int i => some (.int i)
  | .str x => some (.str x)
  | _ => none
def flatDs : List D → Option (List V)
  | [] => some []
  | d :: ds => match flatD d, flatDs ds with
    | some v, some vs => some (v :: vs)
    | _, _ => none
theorem flatD_rep {C : Ctx} {ρ : List Addr} {H : Hp} {d : D} {u v : V} (e : flatD d = some u) (r : Rep C ρ H d v) : v = u ∧ flatV u = true := by
  cases d with
  | non => cases e; exact ⟨rep_non.mp r, rfl⟩
  | bl b => cases e; exact ⟨rep_bl.mp r, rfl⟩
  | int i => cases e; exact ⟨rep_int.mp r, rfl⟩
  | str x => cases e; exact ⟨rep_str.mp r, rfl⟩
  | _ => cases e
theorem flatDs_rep {C : Ctx} {ρ : List Addr} {H : Hp} : ∀ {ds : List D} {us vs : List V}, flatDs ds = some us → Reps C ρ H ds vs → vs = us ∧ us.all flatV = true
  | [], us, vs, e, r => by cases e; exact ⟨r.nil_inv, rfl⟩
  | d :: ds, us, vs, e, r => by
    obtain ⟨v, ws, rfl, q, t⟩ := r.inv
    unfold flatDs at e
    split at e
    · rename_i u us' e1 e2
      cases e
      obtain ⟨rfl, f1⟩ := flatD_rep e1 q
      obtain ⟨rfl, f2⟩ := flatDs_rep e2 t
      exact ⟨rfl, by simp [f1, f2]⟩
    · cases e
def inL (neg : Bool) (x : D) (ds : List D) (S : Store) : Pr D := match flatD x, flatDs ds with
  | some v, some vs => some (.bl (if neg then !inV v vs else inV v vs), S)
  | _, _ => none
/-- x in y, x not in y -/
def pIn (neg : Bool) : P2 := fun x y S => match y with
  | .tup ds => inL neg x ds S
  | .ref n => match rdL S n with
    | some ds => inL neg x ds S
    | none => match rdK S n, keyD x with
      | some kvs, some k => some (.bl (if neg then !(valD kvs k).isSome else (valD kvs k).isSome), S)
      | _, _ => none
  | .str z => match x with
    | .str t => some (.bl (if neg then !(!(Builtin.Str.occurrences z t 0 z.length 1).isEmpty) else !(Builtin.Str.occurrences z t 0 z.length 1).isEmpty), S)
    | _ => none
  | _ => none
section
variable {X : Cx} {T : List Cls} {W : WX}
theorem op_din {neg : Bool} {op : CmpOp} (hop : op = if neg then .NotIn else .In) (hu : X.A.units + 1 < cLine) : OpR X (compareOp op) (fun x y H Q => ∃ a o, y = .ref a ∧ DGet H a x o ∧ Q (.bl (if neg then !o.isSome else o.isSome)) H) := by
  intro pins s σ H x y v u Q I rx ry ⟨a, o, e, g, q⟩
  subst e hop
  cases ry
  cases neg with
  | true => exact d_notIn hu I g rx fun s' I' => ⟨.bl _, H, I', rfl, q⟩
  | false => exact d_in hu I g rx fun s' I' => ⟨.bl _, H, I', rfl, q⟩
theorem inL_case {neg : Bool} {op : CmpOp} (hop : op = if neg then .NotIn else .In) {ρ : List Addr} {H : Hp} {S : Store} {dx : D} {x : V} {ds : List D} {p : Addr} {xs : List V} {Q : VK} (h1 : Rep (cx X T) ρ H dx x) (hq : SqL X.K H p xs ∨ SqT X.K H p xs) (r : Reps (cx X T) ρ H ds xs)
    (h3 : SRep (cx X T) ρ H S) (h4 : EndP (cx X T) ρ H (RD (cx X T)) (inL neg dx ds S) Q) : ∃ r : R2, OpR X (compareOp op) r ∧ r x (.ref p) H Q := by
  obtain ⟨z, hz, k⟩ := h4
  unfold inL at hz
  split at hz
  · rename_i v vs e1 e2
    cases hz
    obtain ⟨rfl, f1⟩ := flatD_rep e1 h1
    obtain ⟨rfl, f2⟩ := flatDs_rep e2 r
    subst hop
    cases neg with
    | true => exact ⟨_, op_notIn_seq, p, xs, rfl, hq, f1, f2, k _ _ _ Le.refl h3 (rep_bl.mpr rfl)⟩
    | false => exact ⟨_, op_in_seq, p, xs, rfl, hq, f1, f2, k _ _ _ Le.refl h3 (rep_bl.mpr rfl)⟩
  · cases hz
theorem op_pIn {neg : Bool} {op : CmpOp} (hop : op = if neg then .NotIn else .In) (hu : X.A.units + 1 < cLine) : OpP X T (compareOp op) (pIn neg) := OpP.of fun dx dy ρ S x y H Q h1 h2 h3 h4 => by
  unfold pIn at h4
  split at h4
  · rename_i ds
    obtain ⟨a, xs, rfl, q1, q2⟩ := rep_tup.mp h2
    exact inL_case hop h1 (.inr q1) q2 h3 h4
  · rename_i n
    split at h4
    · rename_i ds hd
      obtain ⟨a, xs, rfl, q1, q2⟩ := h3.rd h2 hd
      exact inL_case hop h1 (.inl q1) q2 h3 h4
    · obtain ⟨z, hz, k⟩ := h4
      split at hz
      · rename_i kvs ky e1 e2
        cases hz
        obtain ⟨a, ws, rfl, q0, q1, q2⟩ := h3.rdK h2 e1
        obtain rfl := keyD_rep e2 h1
        have g : DGet H a (kV ky) (valV ws ky) := .inl ⟨ws, ky, q1, rfl, rfl⟩
        have e3 : (valD kvs ky).isSome = (valV ws ky).isSome := by
          rcases q2.val ky with ⟨z1, z2⟩ | ⟨d, v, z1, z2, _⟩
          · rw [z1, z2]; rfl
          · rw [z1, z2]; rfl
        exact ⟨_, op_din hop hu, a, _, rfl, g, k _ _ _ Le.refl h3 (rep_bl.mpr (by rw [e3]))⟩
      · cases hz
  · rename_i zz
    obtain ⟨z, hz, k⟩ := h4
    split at hz
    · rename_i t
      cases hz
      obtain rfl := rep_str.mp h1
      obtain rfl := rep_str.mp h2
      subst hop
      cases neg with
      | true => exact ⟨_, op_notin_str, t, zz, rfl, rfl, k _ _ _ Le.refl h3 (rep_bl.mpr rfl)⟩
      | false => exact ⟨_, op_in_str, t, zz, rfl, rfl, k _ _ _ Le.refl h3 (rep_bl.mpr rfl)⟩
    · cases hz
  · obtain ⟨z, hz, k⟩ := h4
    cases hz
/-! ### items of sequences and dicts -/
def pIxA : P2 := fun x y S => match x with
  | .ref n => match rdK S n, keyD y with
    | some kvs, some k => (valD kvs k).map fun d => (d, S)
    | _, _ => pIx x y S
  | _ => pIx x y S
theorem ixA_ok (hu : X.A.units + 1 < cLine) : IxR X (rP (cx X T) pIxA) := by
  intro value slice pins s σ H x y v u Q I rx ry ⟨dx, dy, ρ, S, h1, h2, h3, h4⟩ hsub
  have old : ∀ {dx' : D}, Rep (cx X T) ρ H dx' x → EndP (cx X T) ρ H (RD (cx X T)) (pIx dx' dy S) Q → wpAny (model X.prog X.w) X.A (subscriptTail value slice v u) (EP X pins σ Q) X.xe s := fun {dx'} h1 h4 =>
    ix_ok value slice pins s σ H x y v u Q I rx ry ⟨dx', dy, ρ, S, h1, h2, h3, h4⟩ hsub
  unfold pIxA at h4
  split at h4
  · rename_i n
    split at h4
    · rename_i kvs ky e1 e2
      obtain ⟨z, hz, k⟩ := h4
      obtain ⟨d, e3, rfl⟩ := Option.map_eq_some_iff.mp hz
      obtain ⟨a, ws, rfl, q0, q1, q2⟩ := h3.rdK h1 e1
      obtain rfl := keyD_rep e2 h2
      rcases q2.val ky with ⟨z1, z2⟩ | ⟨d', w, z1, z2, r⟩
      · rw [z1] at e3; cases e3
      · rw [z1] at e3
        cases e3
        have g : DGet H a (kV ky) (some w) := .inl ⟨ws, ky, q1, rfl, z2.symm⟩
        cases rx
        exact tail_any (dict_typeIs I g) PySem.F.slot_dict_getitem.lookup (d_getItem hu I g ry fun w' s3 I3 rw' => ⟨w, H, I3, rw', k w ρ H Le.refl h3 r⟩) hsub
    · exact old h1 h4
  · exact old h1 h4
variable {a b c e : Expr} {es : List Expr} {fa fb m : EE} {aa : EA} {pos p pp : Pos}
theorem e_ixA (hu : X.A.units + 1 < cLine) (ha : PE X a (LE (cx X T) W fa)) (hb : PE X b (LE (cx X T) W fb)) (hs : PlainIx b) : PE X (.Subscript a b pos) (LE (cx X T) W (eBin pIxA fa fb)) := (pe_ix (ixA_ok hu) ha hb hs).imp fun _ _ _ h => eBin_run h
/-! ### - -/
def eNeg (fa : EE) : EE := eBind fa fun x => fun _ S => match x with
  | .int i => .ok (.int (-i)) S
  | _ => .bad
theorem e_neg (ha : PE X a (LE (cx X T) W fa)) : PE X (.UnaryOp .USub a pos) (LE (cx X T) W (eNeg fa)) := (pe_un un_neg ha).imp fun σ H Q ⟨sd, ρ, S, h1, h2, h3⟩ => by
  refine LG.run h1 h2 h3 fun dx x ρ1 S1 H1 l1 s1 r1 k1 => ?_
  split at k1
  · rename_i i
    exact ⟨i, rep_int.mp r1, k1 _ ρ1 H1 Le.refl s1 (rep_int.mpr rfl)⟩
  · exact k1.elim
/-! ### list(range(e)) -/
def eListRg (fa : EE) : EE := eBind fa fun x => fun _ S => match x with
  | .int i => if decide (-(2 ^ 62) ≤ i ∧ i ≤ 16777216) then .ok (.ref S.length) (S ++ [.lst (rngD 0 i.toNat)]) else .bad
  | _ => .bad
theorem reps_rg {C : Ctx} {ρ : List Addr} {H : Hp} (lo : Int) : ∀ l : List Nat, Reps C ρ H (l.map fun (i : Nat) => D.int (lo + (i : Int))) (l.map fun (i : Nat) => V.int (lo + (i : Int)))
  | [] => Reps.nil
  | i :: l => Reps.cons (rep_int.mpr rfl) (reps_rg lo l)
theorem e_listRg (hc : X.calm = true) (hg : Gl X "list") (hm : X.mg "list" = none) (hg2 : Gl X "range") (hm2 : X.mg "range" = none) (ha : PE X a (LE (cx X T) W fa)) (na : starEach [a] X.env = (false, eval a X.env) :: starEach [] X.env := by rfl)
    (na2 : starEach [.Call (.Name "range" p) [a] [] pp] X.env = (false, eval (.Call (.Name "range" p) [a] [] pp) X.env) :: starEach [] X.env := by rfl) {p3 : Pos} : PE X (.Call (.Name "list" p3) [.Call (.Name "range" p) [a] [] pp] [] pos) (LE (cx X T) W (eListRg fa)) :=
  (pe_listRg hc hg hm (prg_1 hg2 hm2 ha na) na2).imp fun σ H Q ⟨sd, ρ, S, h1, h2, h3⟩ => by
    refine LG.run h1 h2 h3 fun dx x ρ1 S1 H1 l1 s1 r1 k1 => ?_
    split at k1
    · rename_i i
      split at k1
      · rename_i hf
        obtain ⟨f1, f2⟩ := of_decide_eq_true hf
        refine ⟨i, rep_int.mp r1, ⟨by omega, by omega, f1, by omega, by omega⟩, fun q hq => ?_⟩
        refine kPush (fun b ρ' H' l s r => k1 b ρ' H' l s r) s1 hq ⟨rgV 0 i, upd_same, ?_⟩
        unfold rgV rngD
        have e0 : (i - 0).toNat = i.toNat := by simp
        rw [e0]
        exact reps_rg 0 _
      · exact k1.elim
    · exact k1.elim
/-! ### a, b, c = x, y, z -/
theorem Reps.three {C : Ctx} {ρ : List Addr} {H : Hp} {d e f : D} {xs : List V} (r : Reps C ρ H [d, e, f] xs) : ∃ v w u, xs = [v, w, u] ∧ Rep C ρ H d v ∧ Rep C ρ H e w ∧ Rep C ρ H f u := by
  obtain ⟨v, vs, rfl, h1, h2⟩ := r.inv
  obtain ⟨w, u, rfl, h3, h4⟩ := Reps.two h2
  exact ⟨v, w, u, rfl, h1, h3, h4⟩
theorem s_par3 {i j l : Nat} {x y z : Str} {px py pz pt : Pos} {kt k2 pt2} (hc : X.calm = true) (hN : X.N.Nodup) (hi : X.N[i]? = some x) (hj : X.N[j]? = some y) (hl : X.N[l]? = some z) (hij : i ≠ j) (hil : i ≠ l) (hjl : j ≠ l)
    (hx : X.env.scope.names.lookup x = some .local) (hy : X.env.scope.names.lookup y = some .local) (hz : X.env.scope.names.lookup z = some .local) (ha : PA X [a, b, c] (LA (cx X T) W aa))
    (hw : swappedStores [.Tuple [.Name x px, .Name y py, .Name z pz] kt pt] (.Tuple [a, b, c] k2 pt2) X.env = pure (some [x, y, z]))
    (hs : swapsWithSole [.Tuple [.Name x px, .Name y py, .Name z pz] kt pt] (.Tuple [a, b, c] k2 pt2) pos.line X.env = pure false := by rfl) :
    PS X (.Assign [.Tuple [.Name x px, .Name y py, .Name z pz] kt pt] (.Tuple [a, b, c] k2 pt2) pos) (LS (cx X T) W (sPar3 i j l aa)) := (ps_par3 hc hN hi hj hl hij hil hjl hx hy hz ha hw hs).imp fun Dn σ H ⟨sd, ρ, S, h1, h2, h3⟩ => by
  refine LS.run h1 h2 h3 fun dx x ρ1 S1 H1 l1 s1 r1 k1 => ?_
  split at k1
  · obtain ⟨v, w, u, rfl, r, r', r''⟩ := Reps.three r1
    exact ⟨v, w, u, rfl, k1 _ ρ1 H1 Le.refl ((((h1.le l1).set r).set r').set r'') s1⟩
  · exact k1.elim
end
/-! ### displays of dicts -/
def zipKV (ks : List Key) (vs : List V) : List (V × V) := (ks.zip vs).map fun kv => (kV kv.1, kv.2)
structure DP (X : Cx) (T : List Cls) (W : WX) (pos : Pos) (keys : List (Option Expr)) (values : List Expr) (ks : List Key) (aa : EA) : Prop where
  ex : ∃ trs, PPs X pos keys values trs ∧ ∀ σ H Q, LA (cx X T) W aa σ H (fun vs H' => vs.length = ks.length ∧ Q (zipKV ks vs) H') → tPairs trs σ H Q
section
variable {X : Cx} {T : List Cls} {W : WX} {pos p : Pos} {e : Expr} {fa : EE} {aa : EA} {keys : List (Option Expr)} {values : List Expr} {ks : List Key}
theorem dp_nil : DP X T W pos [] [] [] aNil := ⟨[], pps_nil, fun σ H Q ⟨sd, ρ, S, h1, h2, h3⟩ => (h3 [] ρ H Le.refl h2 Reps.nil).2⟩
theorem dp_cons {x : Str} {j : Nat} (he : PE X e (LE (cx X T) W fa)) (hr : DP X T W pos keys values ks aa) : DP X T W pos (some (.Constant (.str x) j p) :: keys) (e :: values) (.inr x :: ks) (aCons fa aa) := by
  obtain ⟨trs, h, k⟩ := hr.ex
  refine ⟨_, pps_cons pe_str he h, fun σ H Q ⟨sd, ρ, S, h1, h2, h3⟩ => ?_⟩
  show LE (cx X T) W fa σ H _
  refine LG.run h1 h2 h3 fun dx x ρ1 S1 H1 l1 s1 r1 k1 => ?_
  refine k σ H1 _ ?_
  refine LG.run (h1.le l1) s1 k1 fun dy y ρ2 S2 H2 l2 s2 r2 k2 => ?_
  obtain ⟨z1, z2⟩ := k2 _ ρ2 H2 Le.refl s2 (Reps.cons (Rep.le l2 r1) r2)
  exact ⟨by simpa using z1, z2⟩
def eDct0 : EE := fun _ S => .ok (.ref S.length) (S ++ [.dct []])
theorem e_dct0 : PE X (.Dict [] [] pos) (LE (cx X T) W eDct0) := pe_dnewK.imp fun σ H Q ⟨sd, ρ, S, h1, h2, h3⟩ p hp => kPush (fun b ρ' H' l s r => h3 b ρ' H' l s r) h2 hp ⟨[], upd_same, .nil⟩
def eDct (ks : List Key) (aa : EA) : EE := fun sd S => match aa sd (S ++ [.dct []]) with
  | .ok ds S' => match S'[S.length]? with
    | some (.dct []) => if ds.length = ks.length then .ok (.ref S.length) (S'.set S.length (.dct (ks.zip ds))) else .bad
    | _ => .bad
  | .exc e S' => .exc e S'
  | .bad => .bad
theorem mergeK_new : ∀ (more acc : List (Key × V)), (more.map (·.1)).Nodup → (∀ p ∈ more, ∀ q ∈ acc, q.1 ≠ p.1) → mergeK acc more = acc ++ more
  | [], acc, _, _ => by simp [mergeK]
  | p :: more, acc, nd, dj => by
    have e : putK acc p.1 p.2 = acc ++ [p] := by
      unfold putK
      rw [if_neg]
      simp only [List.any_eq_true, decide_eq_true_eq, not_exists, not_and]
      exact fun q hq z => dj p List.mem_cons_self q hq z
    show mergeK (putK acc p.1 p.2) more = _
    rw [e, mergeK_new more (acc ++ [p])]
    · simp
    · exact (List.nodup_cons.mp nd).2
    · intro q hq r hr z
      rcases List.mem_append.mp hr with h | h
      · exact dj q (List.mem_cons_of_mem _ hq) r h z
      · have : r = p := by simpa using h
        subst this
        exact (List.nodup_cons.mp nd).1 (List.mem_map.mpr ⟨q, hq, z.symm⟩)
theorem kreps_zip {C : Ctx} {ρ : List Addr} {H : Hp} : ∀ {ks : List Key} {ds : List D} {vs : List V}, Reps C ρ H ds vs → KReps C ρ H (ks.zip ds) (ks.zip vs)
  | [], _, _, _ => by simp only [List.zip_nil_left]; exact .nil
  | _ :: _, [], vs, r => by rw [r.nil_inv]; exact .nil
  | k :: ks, d :: ds, vs, r => by
    obtain ⟨v, ws, rfl, q, t⟩ := r.inv
    exact .cons ⟨rfl, q⟩ (kreps_zip t)
theorem e_dct (h : DP X T W pos keys values ks aa) (hall : keys.all (·.isSome) = true) (hl : keys.length = values.length) (h0 : keys ≠ []) (h15 : keys.length ≤ 15) (hk : ks.length ≤ 15) (hn : ks.Nodup) : PE X (.Dict keys values pos) (LE (cx X T) W (eDct ks aa)) := by
  obtain ⟨trs, hp, k⟩ := h.ex
  refine (pe_disp hp hall hl h0 h15).imp fun σ H Q ⟨sd, ρ, S, h1, h2, h3⟩ p hp => ?_
  have s1 : SRep (cx X T) (ρ ++ [p]) (upd H p (.dK [])) (S ++ [.dct []]) := h2.push hp ⟨[], upd_same, .nil⟩
  have l1 : Le ρ H (ρ ++ [p]) (upd H p (.dK [])) := Le.newR hp
  have hat : (ρ ++ [p])[S.length]? = some p := by rw [← h2.len, List.getElem?_append_right (Nat.le_refl _)]; simp
  refine k σ _ _ ⟨sd, _, _, h1.le l1, s1, ?_⟩
  unfold eDct at h3
  cases e : aa sd (S ++ [.dct []]) with
  | bad => rw [e] at h3; exact h3.elim
  | exc x S' => rw [e] at h3; exact fun cls d ρ' H' l s r => h3 cls d ρ' H' (l1.trans l) s r
  | ok ds S' =>
    rw [e] at h3
    dsimp only at h3
    intro vs ρ' H' l s r
    split at h3
    · rename_i e2
      have hp' := l.at hat
      obtain ⟨ws, q1, q2⟩ := s.at_ S.length p _ hp' e2
      cases q2
      split at h3
      case isFalse => exact h3.elim
      rename_i hz
      have z : vs.length = ks.length := by rw [← r.length]; exact hz
      refine ⟨z, q1, ks.zip vs, rfl, by rw [List.length_zip]; omega, ?_⟩
      have e3 : mergeK [] (ks.zip vs) = ks.zip vs := by
        rw [mergeK_new _ [] ?_ (by simp)]
        · simp
        · rw [List.map_fst_zip (by omega)]; exact hn
      rw [e3]
      have l2 : Le ρ' H' ρ' (upd H' p (.dK (ks.zip vs))) := Le.lock fun o' h => by rw [q1] at h; cases h; exact fun z => z
      exact h3 _ ρ' _ (l1.trans (l.trans l2)) (s.write hp' e2 rfl l2 ⟨_, upd_same, (kreps_zip r).le l2⟩) (rep_ref.mpr ⟨p, hp', rfl⟩)
    · exact h3.elim
end
end Lay
set_option Elab.async false
set_option linter.all false
set_option maxRecDepth 100000
set_option maxHeartbeats 4000000
/-! L10: a dict walked by its keys, locked for the while. -/
namespace Lay
open PySem PySem.Spec PyProof.Rows L2
open Classical
/-! ### unlocking -/
section
variable {C : Ctx} {ρ : List Addr} {H : Hp} {d : Addr} {od : Obj} {ws : List (Key × V)} {u : HO}
theorem SqT.unl {a : Addr} {xs : List V} (hd : H d = some (.frz od (.dK ws))) (h : SqT C.K H a xs) : SqT C.K (upd H d u) a xs := by
  rcases h with (h | ⟨o, h⟩) | h
  · exact .inl (.inl (by rw [upd_ne (fun e => by rw [e, hd] at h; cases h)]; exact h))
  · exact .inl (.inr ⟨o, by rw [upd_ne (fun e => by rw [e, hd] at h; cases h)]; exact h⟩)
  · exact .inr h
theorem ext_ne {φ : Heap → Prop} {a : Addr} (hd : H d = some (.frz od (.dK ws))) (h : H a = some (.ext φ)) : a ≠ d := fun e => by rw [e, hd] at h; cases h
theorem DictOk.unl {flds : List Str} {e : Option Addr} {xs : List V} (hd : H d = some (.frz od (.dK ws))) (h : DictOk flds H e xs) : DictOk flds (upd H d u) e xs := by
  obtain ⟨hl, h⟩ := h
  refine ⟨hl, ?_⟩
  rcases h with h | ⟨dd, fs, e1, e2, e3⟩
  · exact .inl h
  · exact .inr ⟨dd, fs, e1, by rw [upd_ne (fun z => by rw [z, hd] at e2; cases e2)]; exact e2, e3⟩
mutual
theorem Rep.unl (hd : H d = some (.frz od (.dK ws))) : ∀ {x : D} {v : V}, Rep C ρ H x v → Rep C ρ (upd H d u) x v
  | .non, v, h => by simpa only [Rep] using h
  | .bl b, v, h => by simpa only [Rep] using h
  | .int i, v, h => by simpa only [Rep] using h
  | .str x, v, h => by simpa only [Rep] using h
  | .ref n, v, h => by simpa only [Rep] using h
  | .tup ds, v, h => by
    simp only [Rep] at h ⊢
    obtain ⟨a, xs, e, s, r⟩ := h
    exact ⟨a, xs, e, SqT.unl hd s, Reps.unl hd r⟩
  | .exn c ds, v, h => by
    simp only [Rep] at h ⊢
    obtain ⟨a, dd, xs, e, hc, ha, hk, r⟩ := h
    exact ⟨a, dd, xs, e, hc, by rw [upd_ne (ext_ne hd ha)]; exact ha, hk.unl hd, Reps.unl hd r⟩
theorem Reps.unl (hd : H d = some (.frz od (.dK ws))) : ∀ {ds : List D} {vs : List V}, Reps C ρ H ds vs → Reps C ρ (upd H d u) ds vs
  | [], vs, h => by simpa only [Reps] using h
  | x :: ds, vs, h => by
    simp only [Reps] at h ⊢
    obtain ⟨v, us, e, r, t⟩ := h
    exact ⟨v, us, e, Rep.unl hd r, Reps.unl hd t⟩
end
theorem KReps.unl (hd : H d = some (.frz od (.dK ws))) {kvs : List (Key × D)} {us : List (Key × V)} (h : KReps C ρ H kvs us) : KReps C ρ (upd H d u) kvs us := Paired.mapP h fun _ _ z => ⟨z.1, z.2.unl hd⟩
theorem SRep.unlock {S : Store} {n : Nat} {kvs : List (Key × D)} (hd : H d = some (.frz od (.dK ws))) (s : SRep C ρ H S) (hρ : ρ[n]? = some d) (hS : S[n]? = some (.dlk kvs)) : SRep C ρ (upd H d (.dK ws)) (S.set n (.dct kvs)) := by
  have hn : n < S.length := (List.getElem?_eq_some_iff.mp hS).1
  have key : ∀ (i : Nat) v, (S.set n (.dct kvs))[i]? = some v → (i ≠ n ∧ S[i]? = some v) ∨ (i = n ∧ v = .dct kvs) := by
    intro i v h
    by_cases e : i = n
    · subst e
      rw [List.getElem?_set_self hn] at h
      exact .inr ⟨rfl, (Option.some.inj h).symm⟩
    · rw [List.getElem?_set_ne (Ne.symm e)] at h
      exact .inl ⟨e, h⟩
  refine ⟨by simp [s.len], fun i j b x y e1 e2 e3 e4 e5 e6 => ?_, fun i b v e1 e2 => ?_⟩
  · rcases key i x e3 with ⟨q1, q2⟩ | ⟨q1, q2⟩ <;> rcases key j y e4 with ⟨p1, p2⟩ | ⟨p1, p2⟩
    · exact s.inj i j b x y e1 e2 q2 p2 e5 e6
    · subst p1; exact s.inj i j b x _ e1 e2 q2 hS e5 rfl
    · subst q1; exact s.inj i j b _ y e1 e2 hS p2 rfl e6
    · omega
  · rcases key i v e2 with ⟨q1, q2⟩ | ⟨q1, q2⟩
    · have z := s.at_ i b v e1 q2
      have nb : v.isRo = false → b ≠ d := fun w e => by
        subst e
        exact q1 (s.inj i n b v _ e1 hρ q2 hS w rfl)
      cases v with
      | lst ds =>
        obtain ⟨xs, h1, h2⟩ := z
        exact ⟨xs, by rw [upd_ne (nb rfl)]; exact h1, h2.unl hd⟩
      | ro ds =>
        obtain ⟨xs, h1, h2⟩ := z
        refine ⟨xs, ?_, h2.unl hd⟩
        rcases h1 with ⟨o, h1⟩ | h1
        · exact .inl ⟨o, by rw [upd_ne (fun e => by rw [e, hd] at h1; cases h1)]; exact h1⟩
        · exact .inr h1
      | dct ks =>
        obtain ⟨us, h1, h2⟩ := z
        exact ⟨us, by rw [upd_ne (nb rfl)]; exact h1, h2.unl hd⟩
      | dlk ks =>
        obtain ⟨us, o, h1, h2⟩ := z
        exact ⟨us, o, by rw [upd_ne (nb rfl)]; exact h1, h2.unl hd⟩
    · subst q1 q2
      rw [hρ] at e1
      cases e1
      obtain ⟨us, o, h1, h2⟩ := s.at_ i d _ hρ hS
      rw [hd] at h1
      cases h1
      exact ⟨_, upd_same, h2.unl hd⟩
end
/-! ### an expression under a lock -/
def lockE (i : Nat) (m : EE) : EE := fun sd S => match sd[i]? with
  | some (some (.ref n)) => match S[n]? with
    | some (.dct kvs) => match m sd (S.set n (.dlk kvs)) with
      | .ok d S' => match S'[n]? with
        | some (.dlk kvs') => .ok d (S'.set n (.dct kvs'))
        | _ => .bad
      | _ => .bad
    | _ => m sd S
  | _ => m sd S
section
variable {X : Cx} {T : List Cls} {W : WX} {e tg l : Expr} {m fa : EE}
theorem e_lock {i : Nat} (h : PE X e (LE (cx X T) W m)) : PE X e (LE (cx X T) W (lockE i m)) := by
  refine ⟨fun pins s σ H Q I ⟨sd, ρ, S, h1, h2, h3⟩ => ?_⟩
  have plain : EndR (cx X T) W σ ρ H (RD (cx X T)) (m sd S) Q → wpAny (model X.prog X.w) X.A (eval e X.env) (EP X pins σ Q) X.xe s := fun h3 => h.run pins s σ H Q I ⟨sd, ρ, S, h1, h2, h3⟩
  unfold lockE at h3
  split at h3
  · rename_i n hn
    split at h3
    · rename_i kvs hs
      obtain ⟨v, e1, r⟩ := h1.at_ _ _ hn
      obtain ⟨a, hρ, rfl⟩ := rep_ref.mp r
      obtain ⟨ws, q1, q2⟩ := h2.at_ n a _ hρ hs
      refine (pe_lock h).run pins s σ H Q I ⟨a, .dK ws, q1, trivial, fun od => ?_⟩
      have l : Le ρ H ρ (upd H a (.frz od (.dK ws))) := Le.lock fun o' h => by rw [q1] at h; cases h; exact fun z => z
      have s1 : SRep (cx X T) ρ (upd H a (.frz od (.dK ws))) (S.set n (.dlk kvs)) := h2.write hρ hs rfl l ⟨ws, od, upd_same, q2.le l⟩
      refine ⟨sd, ρ, _, h1.le l, s1, ?_⟩
      cases em : m sd (S.set n (.dlk kvs)) with
      | bad => rw [em] at h3; exact h3.elim
      | exc x S' => rw [em] at h3; exact h3.elim
      | ok d S' =>
        rw [em] at h3
        dsimp only at h3
        intro b ρ' H' l' s' r'
        have hd : H' a = some (.frz od (.dK ws)) := l'.fix a _ upd_same trivial
        refine ⟨hd, ?_⟩
        split at h3
        · rename_i kvs' hs'
          refine h3 b ρ' _ ⟨l'.ext, fun c o hc fo => ?_⟩ (s'.unlock hd (l'.at hρ) hs') (Rep.unl hd r')
          have hca : c ≠ a := fun z => by rw [z, q1] at hc; cases hc; exact fo
          rw [upd_ne hca]
          exact l'.fix c o (by rw [upd_ne hca]; exact hc) fo
        · exact h3.elim
    · exact plain h3
  · exact plain h3
/-! ### what is walked: a list, a tuple, a text, a locked dict's keys -/
def kD : Key → D
  | .inl i => .int i
  | .inr x => .str x
def itSeqK (m : EE) : EI := eBind m fun d => fun _ S => match d with
  | .tup ds => .ok ⟨ds, fun _ => True⟩ S
  | .ref n => match rdL S n with
    | some ds => .ok ⟨ds, fun S' => rdL S' n = some ds⟩ S
    | none => match S[n]? with
      | some (.dlk kvs) => .ok ⟨kvs.map fun kv => kD kv.1, fun _ => True⟩ S
      | _ => .bad
  | .str z => .ok ⟨signs z, fun _ => True⟩ S
  | _ => .bad
theorem rep_kD {C : Ctx} {ρ : List Addr} {H : Hp} (k : Key) : Rep C ρ H (kD k) (kV k) := by
  cases k with
  | inl i => exact rep_int.mpr rfl
  | inr x => exact rep_str.mpr rfl
theorem kreps_keys {C : Ctx} {ρ : List Addr} {H : Hp} {kvs : List (Key × D)} {ws : List (Key × V)} (r : KReps C ρ H kvs ws) : kvs.map (·.1) = ws.map (·.1) := by
  unfold KReps at r
  induction r with
  | nil => rfl
  | cons h t ih => rw [List.map_cons, List.map_cons, h.1, ih]
theorem itOk_keys {C : Ctx} {ρ0 : List Addr} {H0 : Hp} {kvs : List (Key × D)} {ws : List (Key × V)} {d : Addr} {o : Obj} (hd : H0 d = some (.frz o (.dK ws))) (r : KReps C ρ0 H0 kvs ws) : ItOk C ⟨kvs.map fun kv => kD kv.1, fun _ => True⟩ (Itk d o ws) ρ0 H0 := by
  intro ρ H S l s _
  have hd' : H d = some (.frz o (.dK ws)) := l.fix d _ hd trivial
  have hl : kvs.length = ws.length := Paired.length r
  refine ⟨fun i hi => ⟨hd', by rw [List.length_map] at hi; omega⟩, ⟨hd', by rw [List.length_map]; omega⟩, fun i x H' ⟨e2, k, v, e3, e4⟩ dd hdd => ?_⟩
  subst e2 e4
  refine ⟨Le.refl, s, ?_⟩
  have hk := kreps_keys r
  have e5 : (kvs.map (·.1))[i]? = some k := by rw [hk, List.getElem?_map, e3]; rfl
  rw [List.getElem?_map] at hdd e5
  cases q : kvs[i]? with
  | none => rw [q] at hdd; cases hdd
  | some p =>
    rw [q] at hdd e5
    cases hdd
    cases e5
    exact rep_kD _
theorem i_seqK (ha : PE X l (LE (cx X T) W fa)) : PI X tg l (LI (cx X T) W (itSeqK fa)) := ((pi_any ha).or (pi_keys ha)).imp fun σ H R ⟨sd, ρ, S, h1, h2, h3⟩ => by
  unfold itSeqK at h3
  rw [eBind_of] at h3
  cases em : fa sd S with
  | bad => rw [em] at h3; exact h3.elim
  | exc x S' =>
    refine .inl ?_
    refine ⟨sd, ρ, S, h1, h2, ?_⟩
    rw [em] at h3 ⊢
    exact h3
  | ok d S' =>
    rw [em] at h3
    rw [bind_ok] at h3
    have mk : ∀ {Q' : V → Hp → Prop}, (∀ b ρ' H', Le ρ H ρ' H' → SRep (cx X T) ρ' H' S' → Rep (cx X T) ρ' H' d b → Q' b H') → LE (cx X T) W fa σ H Q' := fun {Q'} k => ⟨sd, ρ, S, h1, h2, by rw [em]; exact k⟩
    split at h3
    · exact .inl (mk fun b ρ' H' l s r => by
        obtain ⟨a, xs, rfl, q1, q2⟩ := rep_tup.mp r
        exact .inr (.inl ⟨a, xs, rfl, q1, h3 _ ρ' H' l s (itOk_tup q1 q2)⟩))
    · split at h3
      · rename_i ds hd
        exact .inl (mk fun b ρ' H' l s r => by
          obtain ⟨a, e1, rfl⟩ := rep_ref.mp r
          obtain ⟨b, xs, e2, q1, q2⟩ := s.rd r hd
          cases e2
          exact .inl ⟨a, xs, rfl, q1, h3 _ ρ' H' l s (itOk_list e1)⟩)
      · split at h3
        · rename_i kvs hs
          exact .inr (mk fun b ρ' H' l s r => by
            obtain ⟨a, e1, rfl⟩ := rep_ref.mp r
            obtain ⟨ws, o, q1, q2⟩ := s.at_ _ a _ e1 hs
            exact ⟨a, o, rfl, .inl ⟨ws, q1, h3 _ ρ' H' l s (itOk_keys q1 q2)⟩⟩)
        · exact h3.elim
    · exact .inl (mk fun b ρ' H' l s r => by
        obtain rfl := rep_str.mp r
        exact .inr (.inr ⟨_, rfl, h3 _ ρ' H' l s itOk_str⟩))
    · exact h3.elim
end
end Lay

set_option Elab.async false
set_option linter.all false
set_option maxRecDepth 100000
set_option maxHeartbeats 4000000
/-! L11: facts of the module behind its top; rules with checked side conditions. -/
namespace Lay
open PySem PySem.Spec PyProof.Rows L2
/-! ### names -/
def varB (N : List Str) (sc : Scope) (i : Nat) (x : Str) : Bool := decide (N[i]? = some x) && ((sc.names.lookup x == some .local || (sc.names.lookup x == some .cell || sc.names.lookup x == some .free)) && (!(x == ("__debug__" : Str)) && !(x == ("__classdict__" : Str))))
def locB (N : List Str) (sc : Scope) (i : Nat) (x : Str) : Bool := decide (N[i]? = some x) && (sc.names.lookup x == some .local || sc.names.lookup x == some .cell)
structure VarOk (N : List Str) (sc : Scope) (i : Nat) (x : Str) : Prop where
  ix : N[i]? = some x
  vis : Vis sc x
  d1 : (x == ("__debug__" : Str)) = false
  d2 : (x == ("__classdict__" : Str)) = false
theorem kind_of {a b : Option NameKind} (h : (a == b) = true) : a = b := eq_of_beq h
theorem varB_ok {N : List Str} {sc : Scope} {i : Nat} {x : Str} (h : varB N sc i x = true) : VarOk N sc i x := by
  unfold varB at h
  simp only [Bool.and_eq_true, Bool.or_eq_true, decide_eq_true_eq, Bool.not_eq_true'] at h
  obtain ⟨h1, h2, h3, h4⟩ := h
  exact ⟨h1, h2.imp kind_of fun z => z.imp kind_of kind_of, h3, h4⟩
theorem locB_ok {N : List Str} {sc : Scope} {i : Nat} {x : Str} (h : locB N sc i x = true) : N[i]? = some x ∧ Loc sc x := by
  unfold locB at h
  simp only [Bool.and_eq_true, Bool.or_eq_true, decide_eq_true_eq] at h
  exact ⟨h.1, h.2.imp kind_of kind_of⟩
section
variable {X : Cx} {T : List Cls} {W : WX} {e a b : Expr} {es : List Expr} {fa : EE} {aa : EA} {pos p : Pos} {x : Str} {i : Nat}
theorem e_v (i : Nat) (h : varB X.N X.env.scope i x = true) : PE X (.Name x pos) (LE (cx X T) W (eVar i)) := have v := varB_ok h; e_var (pe_var v.ix v.vis v.d1 v.d2)
theorem s_setV {pos' : Pos} (i : Nat) (hN : X.N.Nodup) (h : locB X.N X.env.scope i x = true) (he : PE X e (LE (cx X T) W fa)) (hf : X.fn x = true) (hs : swapsWith e (some (.Name x pos')) pos.line X.env = pure false := by rfl) :
    PS X (.Assign [.Name x pos'] e pos) (LS (cx X T) W (sSet i fa)) := s_set hN (locB_ok h).1 (locB_ok h).2 he hs (.inl hf)
theorem g_nameV (i : Nat) (hN : X.N.Nodup) (h : locB X.N X.env.scope i x = true) (hf : X.fn x = true ∨ X.env.scope.names.lookup x = some .local) : PG X (.Name x pos) (LT (cx X T) [i] (gNm i)) := g_name hN (locB_ok h).1 (locB_ok h).2 hf
end
/-! ### a def by its address -/
def fdOf (K : PySem.W.Frag) (p : Str × Option Str) : FuncData := match K.lookup (He.fAd K p) with
  | some ⟨_, _, .func fd, _⟩ => fd
  | _ => ⟨"", "", ⟨[], [], none, [], [], none, []⟩, .stmts [], ⟨.function, [], false, false, []⟩, 0, [], .none, .none, .none, .none, none, .none, .none, 0⟩
def dOf (p : Str × Option Str) (qual : Str) (st : Stmt) : He.DefD := ⟨p, p.2.getD p.1, qual, defArgs st, defBody st, defScope st, [], []⟩
theorem fun_of {K : PySem.W.Frag} {x qual : Str} {st : Stmt} {f : Addr} {fd : FuncData} (F : FunD K x qual (defArgs st) (defBody st) (defScope st) [] [] f fd) : Fun K x qual st f fd := by
  obtain ⟨oc, od, dV, kV, doc, pm, an, cdv, ct, osl, e, lk, hcd, hD, hK⟩ := F.ex
  rcases hD with ⟨_, rfl⟩ | ⟨z, _⟩
  · exact ⟨⟨oc, od, kV, doc, pm, an, cdv, ct, osl, e, lk, hcd⟩, F.kp⟩
  · exact absurd rfl z
theorem fd_of {K : PySem.W.Frag} {x qual : Str} {a : Arguments} {b : List Stmt} {sc : Scope} {p : Str × Option Str} {fd : FuncData} (F : FunD K x qual a b sc [] [] (He.fAd K p) fd) : fd = fdOf K p := by
  obtain ⟨oc, od, dV, kV, doc, pm, an, cdv, ct, osl, e, lk, _⟩ := F.ex
  unfold fdOf
  rw [lk]
/-- calls by keywords -/
theorem kwBinds {K : PySem.W.Frag} {x qual : Str} {a : Arguments} {b : List Stmt} {sc : Scope} {f : Addr} {fd : FuncData} {ps ks : List Str} {perm : List Nat} (F : FunD K x qual a b sc [] [] f fd)
    (h : ∀ (kV doc pm : Value) (an : Option Addr) (cdv ct : Value) (ws : List Value), (permA perm ws).length = ps.length → bindArgs (PySem.W.fnOf x qual a b sc .none kV doc pm an cdv ct) ⟨[], ks.zip ws⟩ = pure (ps.zip (permA perm ws))) :
    ∀ (s : Shared) (ws : List Value), K.In s.heap → (permA perm ws).length = ps.length → BindsTo s fd ⟨[], ks.zip ws⟩ (ps.zip (permA perm ws)) := by
  obtain ⟨oc, od, dV, kV, doc, pm, an, cdv, ct, osl, rfl, lk, hcd, hD, hK⟩ := F.ex
  rcases hD with ⟨_, rfl⟩ | ⟨z, _⟩
  · exact fun s ws _ hl => .of_eq (h kV doc pm an cdv ct ws hl)
  · exact absurd rfl z
/-- a def that may be called by its name -/
structure CO (P : Program) (w : World) (K : PySem.W.Frag) (mg : Str → Option Value) (base : Heap) (T : List Cls) (x : Str) (k : Nat) (ps : List Str) (g : List D → M D) : Prop where
  F : DefOk P w K mg base T k (He.ga K x) (fdOf K (x, none)) ps g
  m : mg x = some (.ref (He.ga K x))
  kp : PySem.W.keepIn K (.ref (He.ga K x)) = true
  b : Binds K (fdOf K (x, none)) ps []
section
variable {X : Cx} {T : List Cls} {W : WX} {e : Expr} {es : List Expr} {aa : EA} {pos p : Pos} {x : Str} {k : Nat} {ps ks : List Str} {g : List D → M D} {kws : List Keyword}
theorem e_callZ (q : CO X.prog X.w X.K X.mg X.base T x k ps g) (tk : Takes X W) (hr : Room k X.A) (hg : Gl X x) (ha : PA X (e :: es) (LA (cx X T) W aa)) (hdb : (x == ("__debug__" : Str)) = false)
    (he : starEach (e :: es) X.env = (false, eval e X.env) :: starEach es X.env := by rfl) (hpl : (backTo pos (starEach es X.env)).any (·.1) = false := by rfl) :
    PE X (.Call (.Name x p) (e :: es) [] pos) (LE (cx X T) W (eCall g aa)) := e_call q.F tk hr hg q.m q.kp q.b ha hdb he hpl
theorem e_callKwZ {perm : List Nat} (q : CO X.prog X.w X.K X.mg X.base T x k ps g) (tk : Takes X W) (hr : Room k X.A) (hg : Gl X x)
    (hb : ∀ (s : Shared) (ws : List Value), X.K.In s.heap → (permA perm ws).length = ps.length → BindsTo s (fdOf X.K (x, none)) ⟨[], ks.zip ws⟩ (ps.zip (permA perm ws)))
    (hkw : LK X T W kws aa) (hdb : (x == ("__debug__" : Str)) = false) (hall : (backToKw pos (keywordEach kws X.env)).all (·.1.isSome) = true := by rfl) (hks : (backToKw pos (keywordEach kws X.env)).filterMap (·.1) = ks := by rfl)
    (hpl : ((backTo pos (starEach [] X.env)).any (·.1) || (backToKw pos (keywordEach kws X.env)).any (·.1.isNone)) = false := by rfl) :
    PE X (.Call (.Name x p) [] kws pos) (LE (cx X T) W (eCallKw g perm aa)) := e_callKw q.F tk hr hg q.m q.kp hb hkw hall hks hdb hpl
/-- f() -/
theorem e_call0Z (q : CO X.prog X.w X.K X.mg X.base T x k ps g) (tk : Takes X W) (hr : Room k X.A) (hg : Gl X x) (hdb : (x == ("__debug__" : Str)) = false) (hps : ps = []) : PE X (.Call (.Name x p) [] [] pos) (LE (cx X T) W (eCall g aNil)) := by
  subst hps
  refine e_callKw (perm := []) (ks := []) q.F tk hr hg q.m q.kp (fun s ws hK hl => ?_) k_nil rfl rfl hdb rfl
  have b := q.b s [] hK rfl
  exact b
end
/-! ### what the written part says of exception classes -/
def oexB (K : PySem.W.Frag) (C : Addr) : Bool := (match K.lookup C with
  | some ⟨.type "type", _, .cls cd, sl⟩ => (match cd.mro, sl.toList with
    | .ref C' :: bm, [_, _, _, _, some (.builtin n), _] => decide (C' = C) && (decide (n = "ValueError.__new__") && (!cd.hasDel && (cd.hasDict && PySem.HandSPX.refsVE bm)))
    | _, _ => false)
  | _ => false) && (decide (PySem.W.findIn K (.ref C) "__setattr__" = some (some (.builtin "object.__setattr__"))) && (decide (PySem.W.subIn K (.ref C) (.type "BaseException") = some true) && (decide (PySem.W.typeIn K (.ref C) = some (.type "type")) && PySem.W.keepIn K (.ref C))))
theorem oexB_ok {K : PySem.W.Frag} {C : Addr} (h : oexB K C = true) : OexC K C := by
  obtain ⟨h1, h⟩ := He.ba h
  obtain ⟨h2, h⟩ := He.ba h
  obtain ⟨h3, h⟩ := He.ba h
  obtain ⟨h4, h5⟩ := He.ba h
  refine ⟨?_, of_decide_eq_true h2, of_decide_eq_true h3, of_decide_eq_true h4, h5⟩
  split at h1
  · rename_i dd cd sl lk
    split at h1
    · rename_i C' bm k0 k1 k2 k3 n k5 hm hs
      obtain ⟨z1, h1⟩ := He.ba h1
      obtain ⟨z2, h1⟩ := He.ba h1
      obtain ⟨z3, h1⟩ := He.ba h1
      obtain ⟨z4, z5⟩ := He.ba h1
      have y1 := of_decide_eq_true z1
      have y2 := of_decide_eq_true z2
      obtain ⟨nm, bs, mro, ns, qn, hd, sn, sub, ab, col, dl⟩ := cd
      obtain ⟨l⟩ := sl
      dsimp only at hm hs z3 z4
      subst hm y1 y2 z4 hs
      have y3 : dl = false := by simpa using z3
      subst y3
      exact ⟨nm, qn, ns, bs, bm, sn, sub, ab, col, dd, k0, k1, k2, k3, k5, lk, z5⟩
    · cases h1
  · cases h1
/-- a class of ours: its __init__ is a def, what its instances bear -/
def mkB (C : Ctx) (c : Nat) : Bool := oexB C.K (C.addr c) && ((C.flds c).all (fun f => decide (PySem.W.findIn C.K (.ref (C.addr c)) f = some none)) &&
  (match C.T[c]? with
  | some q => decide (PySem.W.findIn C.K (.ref (C.addr c)) "__init__" = some (some (.ref (He.fAd C.K (q.name, some "__init__"))))) && decide (PySem.W.typeIn C.K (.ref (He.fAd C.K (q.name, some "__init__"))) = some (.type "function"))
  | none => false))
theorem mkB_ok {P : Program} {w : World} {K : PySem.W.Frag} {mg : Str → Option Value} {base : Heap} {T : List Cls} {k c : Nat} {q : Cls} (h : mkB ⟨K, T⟩ c = true) (hq : T[c]? = some q) {fd : FuncData} (F : FnOk P w K mg base (L2.CX P w) k (He.fAd K (q.name, some "__init__")) fd ("self" :: q.flds) (exi K q.flds))
    (b : Binds K fd ("self" :: q.flds) []) : MkOk P w K mg base T k c := by
  have ef : (⟨K, T⟩ : Ctx).flds c = q.flds := by unfold Ctx.flds; rw [hq]
  obtain ⟨h1, h⟩ := He.ba h
  obtain ⟨h2, h3⟩ := He.ba h
  rw [hq] at h3
  obtain ⟨h4, h5⟩ := He.ba h3
  refine ⟨(List.getElem?_eq_some_iff.mp hq).1, oexB_ok h1, fun f hf => of_decide_eq_true (List.all_eq_true.mp h2 f hf), _, fd, of_decide_eq_true h4, of_decide_eq_true h5, ?_, ?_⟩
  · rw [ef]; exact F
  · rw [ef]; exact b
def fldB (C : Ctx) : Bool := (List.range C.T.length).all fun c => (C.flds c).all fun f => decide (PySem.W.findIn C.K (.ref (C.addr c)) f = some none)
theorem fldB_ok {C : Ctx} (h : fldB C = true) : FldAll C := fun c f hc hf => of_decide_eq_true (List.all_eq_true.mp (List.all_eq_true.mp h c (List.mem_range.mpr hc)) f hf)
def xcAllB (C : Ctx) : Bool := (List.range C.T.length).all fun c => xcB C.K (C.addr c)
theorem xcAllB_ok {C : Ctx} (h : xcAllB C = true) : XcAll C := fun c hc => xcB_ok (List.all_eq_true.mp h c (List.mem_range.mpr hc))
/-! ### the Hook -/
abbrev AlL : Type := He.AlD × Bool
/-- what the names reach, and the statics -/
def addF (seen : Nat) (acc : List Addr) : List Addr → (Nat → List Addr → List Addr) → List Addr
  | [], k => k seen acc
  | a :: r, k => HandSHeadRun.frNat a fun b => bif Nat.beq (Nat.mod (Nat.shiftRight seen b) 2) 1 then addF seen acc r k else HandSHeadRun.frNat (Nat.lor seen (Nat.shiftLeft 1 b)) fun s => addF s (b :: acc) r k
def growF (g : Addr → Option Obj) : Nat → Nat → List Addr → List Addr
  | 0, _, _ => []
  | n + 1, seen, fr => addF seen [] (fr.flatMap fun a => match g a with
    | some o => He.refsD o
    | none => []) fun s new => new.reverse ++ growF g n s new
def asL (g : Addr → Option Obj) (n : Nat) : List Addr := PySem.cStatics :: mainGlobals :: growF g n (Nat.lor (Nat.shiftLeft 1 PySem.cStatics) (Nat.shiftLeft 1 mainGlobals)) [mainGlobals]
def obsL (n : Nat) (fa : List He.Fa) (fn : List He.DefD) (ex : PySem.W.Frag → Bool) (g : Addr → Option Obj) : AlL := (He.obsD fa fn (He.frG g (asL g n)), ex (He.frG g (asL g n)))
def hookL (n : Nat) (fa : List He.Fa) (fn : List He.DefD) (ex : PySem.W.Frag → Bool) : PySem.W.Hook where
  α := AlL
  obs := fun s => obsL n fa fn ex s.heap.get?
  val := fun _ => (He.valD fn, true)
  says := fun _ h => ∃ K : PySem.W.Frag, K.In h ∧ He.SaysD fa fn K ∧ ex K = true
  of := fun _ _ e => ⟨_, He.frG_in, congrArg (fun z : AlL => z.1) e, congrArg (fun z : AlL => z.2) e⟩
  keeps := fun _ _ _ ⟨K, hK, c⟩ k => ⟨K, PySem.W.Frag.In.keeps hK k, c⟩
theorem obsL_eq {n : Nat} {fa : List He.Fa} {fn : List He.DefD} {ex : PySem.W.Frag → Bool} {g : Addr → Option Obj} {s : Shared} (h : ∀ a, g a = s.heap.get? a) : obsL n fa fn ex g = (hookL n fa fn ex).obs s := by
  have e : g = s.heap.get? := funext h
  rw [e]
  rfl
/-- the facts in hand -/
structure PF (fa : List He.Fa) (fn : List He.DefD) (ex : PySem.W.Frag → Bool) (K : PySem.W.Frag) (mg : Str → Option Value) (base : Heap) : Prop where
  X : K.In base
  G : base.Ns mainGlobals mg
  c : He.SaysD fa fn K
  x : ex K = true
section
variable {fa : List He.Fa} {fn : List He.DefD} {ex : PySem.W.Frag → Bool} {K : PySem.W.Frag} {mg : Str → Option Value} {base : Heap}
theorem PF.glo (Z : PF fa fn ex K mg base) (i : Nat) {x : Str} (h : fa[i]? = some (.glo x) := by rfl) : mg x = some (.ref (He.ga K x)) := He.glo_ok Z.X Z.G (Z.c.fact i h)
theorem PF.free (Z : PF fa fn ex K mg base) (i : Nat) {x : Str} (h : fa[i]? = some (.free x) := by rfl) : mg x = none := He.free_ok Z.X Z.G (Z.c.fact i h)
theorem PF.fun_ (Z : PF fa fn ex K mg base) (i : Nat) {p : Str × Option Str} {qual : Str} {st : Stmt} (h : fn[i]? = some (dOf p qual st)) : FunD K (p.2.getD p.1) qual (defArgs st) (defBody st) (defScope st) [] [] (He.fAd K p) (fdOf K p) := by
  obtain ⟨fd, F⟩ := Z.c.def_ i h
  have F' : FunD K (p.2.getD p.1) qual (defArgs st) (defBody st) (defScope st) [] [] (He.fAd K p) fd := F
  have e := fd_of F'
  subst e
  exact F'
/-- a def of the module keeps what its body's derivation says -/
theorem PF.co {P : Program} {w : World} {T : List Cls} {x : Str} {k : Nat} {N ps : List Str} {st : Stmt} {F : FF} (Z : PF fa fn ex K mg base) (i j : Nat) (h : fn[i]? = some (dOf (x, none) x st)) (hg : fa[j]? = some (.glo x)) (S : FnScope N ps (defScope st))
    (hb : ∀ (kV doc pm : Value) (an : Option Addr) (cdv ct : Value) (us : List Value), us.length = ps.length → bindArgs (PySem.W.fnOf x x (defArgs st) (defBody st) (defScope st) .none kV doc pm an cdv ct) ⟨us, []⟩ = pure (ps.zip us))
    (body : ∀ (cdv : Value) (A : Around) (outer : List Env) (s : Shared) (H : Hp) (E : XK), Room k (bx P w K mg base N x (defScope st) (He.ga K x) cdv A outer s H E).A →
      PSs (bx P w K mg base N x (defScope st) (He.ga K x) cdv A outer s H E) (defBody st) (LS ⟨K, T⟩ (WF E) F)) : CO P w K mg base T x (k + 1) ps (fnD N.length ps.length F) :=
  have D := Z.fun_ i h
  ⟨defOk (fun_of D) S body, Z.glo j hg, D.kp, D.bindsN hb⟩
end
theorem takesN {X : Cx} : Takes X WN := fun _ _ ⟨_, _, _, _, _, _, _, _, _, _, _, _, _, _, _, _, w⟩ => w.elim
theorem g_tupZ {X : Cx} {T : List Cls} {es : List Expr} {vs : List Nat} {gs : GDs} {k : Nat} {pos : Pos} {n : Nat} (hc : X.calm = true) (h : PGs X es (LTs (cx X T) vs gs)) (hn : (assignEach es X.env).length = n := by rfl) (hst : (assignEach es X.env).findIdx? (·.1) = none := by rfl) :
    PG X (.Tuple es k pos) (LT (cx X T) vs (gTupD n gs)) := g_tup hc h hn hst (pg_unl hc h hn hst)
theorem gl_ {X : Cx} {x : Str} (h : X.env.kindOf x = some .globalImplicit) : Gl X x := h
def kindB (sc : Scope) (x : Str) (k : NameKind) : Bool := sc.names.lookup x == some k
def blkB (N : List Str) (sc scope : Scope) (own : List (Str × Nat)) : Bool := scope.kind == .function && (scope.names.all (fun y => scope.names.lookup y.1 == some y.2) && (own.all (fun p => decide (N[p.2]? = some p.1)) &&
  (scope.names.all (fun y => !(y.2 == .free) || (kindB sc y.1 .cell || kindB sc y.1 .free)) && scope.names.all (fun y => !(y.2 == .local || y.2 == .cell) || (decide (y.1 ∈ own.map (·.1)) || decide (y.1 ∉ N))))))
theorem blk_of {N : List Str} {sc scope : Scope} {own : List (Str × Nat)} (h : blkB N sc scope own = true) : BlkOk N sc scope own := by
  obtain ⟨h1, h⟩ := He.ba h
  obtain ⟨h2, h⟩ := He.ba h
  obtain ⟨h3, h⟩ := He.ba h
  obtain ⟨h4, h5⟩ := He.ba h
  refine ⟨eq_of_beq h1, fun y hy => kind_of (List.all_eq_true.mp h2 y hy), fun p hp => of_decide_eq_true (List.all_eq_true.mp h3 p hp), fun y hy e => ?_, fun y hy e => ?_⟩
  · have z := List.all_eq_true.mp h4 y hy
    rw [e] at z
    simp only [kindB, beq_self_eq_true, Bool.not_true, Bool.false_or, Bool.or_eq_true] at z
    exact z.imp kind_of kind_of
  · have z := List.all_eq_true.mp h5 y hy
    have e2 : (y.2 == .local || y.2 == .cell) = true := by
      rcases e with e | e <;> rw [e] <;> rfl
    rw [e2] at z
    simp only [Bool.not_true, Bool.false_or, Bool.or_eq_true, decide_eq_true_eq] at z
    exact z
/-! ### the law -/
theorem law_sp {C : Ctx} {g : List D → M D} {H : Hp} {a : Addr} {ns : List Int} (hO : Only H) (hS : SqL C.K H a (ns.map V.int)) (h2 : ∃ S', g [.ref 0] [.ro (ns.map D.int)] = .ok (.bl true) S') :
    spD C g [.ref a] H (fun v _ => v = .bl true) (fun _ _ _ => False) := by
  have rs : ∀ ρ (l : List Int), Reps C ρ H (l.map D.int) (l.map V.int) := fun ρ l => by
    induction l with
    | nil => exact Reps.nil
    | cons i l ih => exact Reps.cons (rep_int.mpr rfl) ih
  have one : ∀ so, RepO C [a] H a so → SRep C [a] H [so] := fun so h => by
    refine ⟨rfl, fun i j b o u e1 e2 _ _ _ _ => ?_, fun n b o e1 e2 => ?_⟩
    · rcases i with _ | i
      · rcases j with _ | j
        · rfl
        · simp at e2
      · simp at e1
    · rcases n with _ | n
      · cases e1; cases e2; exact h
      · simp at e1
  have r0 : Reps C [a] H [.ref 0] [.ref a] := Reps.cons (rep_ref.mpr ⟨a, rfl, rfl⟩) Reps.nil
  have fin : ∀ so, RepO C [a] H a so → (∃ S', g [.ref 0] [so] = .ok (.bl true) S') → spD C g [.ref a] H (fun v _ => v = .bl true) (fun _ _ _ => False) := fun so h ⟨S', e⟩ =>
    ⟨[.ref 0], [a], [so], r0, one so h, by rw [e]; exact fun v ρ' H' _ _ r => rep_bl.mp r⟩
  rcases hS with (h | ⟨o, h⟩) | h
  · rcases hO a with z | ⟨o, xs, z⟩
    · rw [h] at z; cases z
    · rw [h] at z; cases z
  · exact fin (.ro (ns.map D.int)) ⟨_, .inl ⟨o, h⟩, rs _ _⟩ h2
  · exact fin (.ro (ns.map D.int)) ⟨_, .inr h, rs _ _⟩ h2
theorem cx_end (P : Program) (w : World) (H : Hp) (s : Shared) (e : Value) (s' : Shared) (h : L2.CX P w [] H s (fun _ _ _ => False) e s') : False := by
  obtain ⟨_, _, _, _, _, _, _, _, _, _, _, _, z⟩ := h
  exact z
/-- the law's call, from the facts -/
theorem walkL {l : PySem.W.OpenLaw} {n k N : Nat} {q : Program} {loose : List Str} {XP : (Str → Option Value) → Heap → Prop} {d : DefRec} {fa : List He.Fa} {fn : List He.DefD} {ex : PySem.W.Frag → Bool} {T : List Cls} {g : List D → M D}
    (hn : l.most = some n) (hn2 : n ≤ sizeLine) (hdf : d.params.defaults = []) (hr : Room k callerA) (hname : d.name = ("law" : Str))
    (F : ∀ (w : World) (K : PySem.W.Frag) (mg : Str → Option Value) (base : Heap), PF fa fn ex K mg base → CO l.prog w K mg base T "law" k ["script"] g ∧ ∀ (s : Shared) (us : List Value), us.length = 1 → BindsTo s (fdOf K ("law", none)) ⟨us, []⟩ ((["script"] : List Str).zip us))
    (hD : ∀ ns : List Int, ns.length ≤ n → ∃ S', g [.ref 0] [.ro (ns.map D.int)] = .ok (.bl true) S') :
    PySem.W.WalkO q loose XP (hookL N fa fn ex).says l.row.toRowW d [] (fun f vs => PySem.call f vs) := by
  refine Att.attach_call hn hdf fun w s₀ s₁ mg mb fA o pm cd doc a vs ns G Y ho hd hcd hmg hobj hints hlen hg => ?_
  obtain ⟨K, KX, c, cx⟩ := Y
  have Z0 : PF fa fn ex K mg s₁.heap := ⟨KX, G.T.g, c, cx⟩
  obtain ⟨Q, hb⟩ := F w K mg s₁.heap Z0
  rw [hname] at hmg
  have e := hmg.symm.trans Q.m
  cases e
  exact law_call (CX := L2.CX l.prog w) (sp := spD ⟨K, T⟩ g) KX G.T.g G.T.b G.T.builtins G.T.nolimit hg hobj hints (Nat.le_trans hlen hn2) hr (fun base h1 h2 => (F w K mg base ⟨h1, h2, c, cx⟩).1.F) (fun s u => hb s [u] rfl)
    (fun H hO hS => law_sp hO hS (hD ns hlen)) fun H e s' => cx_end _ _ H s₁ e s'
end Lay

set_option Elab.async false
set_option linter.all false
set_option maxRecDepth 100000
set_option maxHeartbeats 4000000
/-! L20: further rules: // by any divisor, all, any, insert, tuples times ints, constants of the module. -/
namespace Lay
open PySem PySem.Spec PyProof.Rows L2
/-! ### // -/
def divFitsN (_ j : Int) : Bool := decide (j ≠ 0 ∧ j.natAbs.log2 < 9000)
def pDivN : P2 := onInts divFitsN fun i j => .int (i.fdiv j)
theorem op_fdivNW {X : Cx} : OpR X (binaryOp .FloorDiv) (rI (fun _ j => j ≠ 0 ∧ j.natAbs.log2 < 9000) fun i j => .int (i.fdiv j)) := opI fun _ _ _ _ _ _ _ hc q => floordiv_int hc.1 q (.inl (PyProof.noPylong_of_log2 hc.2))
theorem op_pDivN {X : Cx} {T : List Cls} : OpP X T (binaryOp .FloorDiv) pDivN := op_ints op_fdivNW (fun i j h => of_decide_eq_true (p := j ≠ 0 ∧ j.natAbs.log2 < 9000) h) (fun _ _ _ _ => rep_int.mpr rfl) onInts_inv
/-! ### all, any -/
def blsOf : List D → Option (List Bool)
  | [] => some []
  | .bl b :: ds => (blsOf ds).map (b :: ·)
  | _ :: _ => none
theorem blsOf_rep {C : Ctx} {ρ : List Addr} {H : Hp} : ∀ {ds : List D} {bs : List Bool} {xs : List V}, blsOf ds = some bs → Reps C ρ H ds xs → xs = bs.map V.bl
  | [], bs, xs, e, r => by cases e; rw [r.nil_inv]; rfl
  | d :: ds, bs, xs, e, r => by
    cases d with
    | bl i =>
      obtain ⟨ms, e1, rfl⟩ := Option.map_eq_some_iff.mp e
      obtain ⟨v, vs, rfl, r1, r2⟩ := r.inv
      obtain rfl := rep_bl.mp r1
      rw [blsOf_rep e1 r2]
      rfl
    | _ => cases e
theorem blsOf_map : ∀ bs : List Bool, blsOf (bs.map D.bl) = some bs
  | [] => rfl
  | b :: bs => by simp only [List.map_cons, blsOf, blsOf_map bs, Option.map_some]
def pAny : PN := fun xs S => match xs with
  | [.ref n] => ((rdL S n).bind blsOf).map fun bs => (.bl (bs.any id), S)
  | _ => none
def pAll : PN := fun xs S => match xs with
  | [.ref n] => ((rdL S n).bind blsOf).map fun bs => (.bl (bs.all id), S)
  | _ => none
section
variable {X : Cx} {T : List Cls}
theorem call_pAny (hc : X.calm = true) : CallP X T (.builtin "any") pAny := CallP.of fun ds ρ S xs H Q h1 h3 ⟨z, hz, k⟩ => by
  unfold pAny at hz
  split at hz
  · rename_i n
    obtain ⟨bs, e, rfl⟩ := Option.map_eq_some_iff.mp hz
    obtain ⟨ds, e1, e2⟩ := Option.bind_eq_some_iff.mp e
    obtain ⟨v, rfl, r⟩ := h1.one
    obtain ⟨a, ys, rfl, q1, q2⟩ := h3.rd r e1
    rw [blsOf_rep e2 q2] at q1
    exact ⟨_, cr_any hc, a, bs, rfl, q1, k _ _ _ Le.refl h3 (rep_bl.mpr rfl)⟩
  · cases hz
theorem call_pAll (hc : X.calm = true) : CallP X T (.builtin "all") pAll := CallP.of fun ds ρ S xs H Q h1 h3 ⟨z, hz, k⟩ => by
  unfold pAll at hz
  split at hz
  · rename_i n
    obtain ⟨bs, e, rfl⟩ := Option.map_eq_some_iff.mp hz
    obtain ⟨ds, e1, e2⟩ := Option.bind_eq_some_iff.mp e
    obtain ⟨v, rfl, r⟩ := h1.one
    obtain ⟨a, ys, rfl, q1, q2⟩ := h3.rd r e1
    rw [blsOf_rep e2 q2] at q1
    exact ⟨_, cr_all hc, a, bs, rfl, q1, k _ _ _ Le.refl h3 (rep_bl.mpr rfl)⟩
  · cases hz
end
/-! ### insert -/
def pInsert : PM := fun x xs S => match x, xs with
  | .ref n, [.int i, y] => match S[n]? with
    | some (.lst ds) => if decide (0 ≤ i ∧ i < 2 ^ 62) && fits (ds.length + 1) then some (.non, S.set n (.lst (ds.take i.toNat ++ [y] ++ ds.drop i.toNat))) else none
    | _ => none
  | _, _ => none
theorem mt_pInsert {X : Cx} {T : List Cls} : MtR X "list.insert" (rM (cx X T) pInsert) := by
  intro pins s σ H x xs v us Q I rx rs ⟨dx, ds, ρ, S, h1, h2, h3, z, hz, k⟩
  unfold pInsert at hz
  split at hz
  · rename_i n i y
    split at hz
    · rename_i ds hs
      split at hz
      · rename_i hf
        obtain ⟨f1, f2⟩ := Bool.and_eq_true_iff.mp hf
        obtain ⟨z1, z2⟩ := of_decide_eq_true (p := 0 ≤ i ∧ i < 2 ^ 62) f1
        cases hz
        obtain ⟨a, ws, q0, rfl, q1, q2⟩ := h3.lst h1 hs
        obtain ⟨w, u, rfl, r, r'⟩ := h2.two
        obtain rfl := rep_int.mp r
        obtain ⟨l, s1⟩ := h3.lst_upd q0 hs q1 (((q2.take i.toNat).append (Reps.cons r' Reps.nil)).append (q2.drop i.toNat))
        have hb := fits_line f2
        exact mt_insert pins s σ H _ _ v us Q I rx rs ⟨a, ws, i, u, rfl, rfl, q1, by rw [← q2.length]; omega, z1, by omega, k _ _ _ l s1 (rep_non.mpr rfl)⟩
      · cases hz
    · cases hz
  · cases hz
/-! ### a tuple some times -/
theorem tuple_mul1 (l : Addr) (items : Array Value) (n : Nat) (dd : Option Addr) (sl : Array (Option Value)) (u : Tok) (c1 : (items.isEmpty || (1 : Int) == 1) = true) :
    Meets (Builtin.«tuple.__mul__» ⟨[.ref l, .int 1 u], []⟩) (fun _ R s => s.heap.get? l = some { cls := .type "tuple", dict := dd, data := .seq items n, slots := sl } ∧ R (.ok (.ret (Value.ref l))) s) :=
  .of_wp fun prog w A R s h => by
    obtain ⟨hp, g, d, tk, os⟩ := s
    obtain ⟨hl, h⟩ := h
    have f1 := AutoSeq1.idx_int
    wp_walk using wpAny_loadPart' hl
    repeat (first
      | (refine wpAny_ite_true (decide_eq_true (by rw [c1])) ?_; wp_walk using wpAny_loadPart' hl))
    exact ⟨_, rfl, h⟩
theorem op_repT1 {X : Cx} : OpR X (binaryOp .Mult) (fun x y H Q => ∃ l xs, x = .ref l ∧ y = .int 1 ∧ SqT X.K H l xs ∧ Q (.ref l) H) := by
  intro pins s σ H x y v u Q I rx ry h
  obtain ⟨l, xs, rfl, rfl, hT, q⟩ := h
  cases rx
  obtain ⟨t, rfl⟩ := ry
  obtain ⟨its, r, ⟨⟨cls, dd, data, sl⟩, ho, hc, n, hd⟩, hs⟩ := I.tuple hT
  simp only at hc hd
  subst hc hd
  refine wpAny_binaryOp_repeat_ref (T := "tuple") (U := "int") (by decide) ⟨_, ho, rfl⟩ (fun s' => typeIs_int s' 1 t) noFill_tuple_mul F.fills_int_mul F.slot_int_rmul repeat_tuple F.slot_int_index.lookup
    (call_meets F.slot_int_rmul (typeIs_int s 1 t) F.entry_int_rmul (F.args_int_rmul_2 _ _) (int_rmul_tuple 1 t l its.toArray n dd sl)
      ⟨ho, rfl, ⟨_, ho, rfl⟩, call_meets F.slot_tuple_mul ⟨_, ho, rfl⟩ F.entry_tuple_mul (F.args_tuple_mul_2 _ _) (tuple_mul1 l its.toArray n dd sl t (by simp)) ⟨ho, ?_⟩⟩)
  exact ⟨.ref l, H, I, rfl, q⟩
def pMulT : P2 := fun x y S => match x, y with
  | .tup ds, .int k => if k = 1 then some (.tup ds, S) else if decide (2 ≤ k ∧ k ≤ 1000 ∧ ds.length ≤ 1000) && !ds.isEmpty then some (.tup (List.replicate k.toNat ds).flatten, S) else none
  | _, _ => none
theorem Reps.rep {C : Ctx} {ρ : List Addr} {H : Hp} {ds : List D} {xs : List V} (r : Reps C ρ H ds xs) : ∀ m : Nat, Reps C ρ H (List.replicate m ds).flatten (List.replicate m xs).flatten
  | 0 => Reps.nil
  | m + 1 => by
    rw [List.replicate_succ, List.replicate_succ, List.flatten_cons, List.flatten_cons]
    exact r.append (Reps.rep r m)
theorem op_pMulT {X : Cx} {T : List Cls} : OpP X T (binaryOp .Mult) pMulT := OpP.of fun dx dy ρ S x y H Q h1 h2 h3 h4 => by
  obtain ⟨z, hz, k⟩ := h4
  unfold pMulT at hz
  split at hz
  · rename_i ds i
    split at hz
    · rename_i h1'
      subst h1'
      cases hz
      obtain ⟨a, xs, rfl, q1, q2⟩ := rep_tup.mp h1
      obtain rfl := rep_int.mp h2
      exact ⟨_, op_repT1, a, xs, rfl, rfl, q1, k _ _ _ Le.refl h3 h1⟩
    split at hz
    · rename_i hf
      obtain ⟨f1, f2⟩ := Bool.and_eq_true_iff.mp hf
      obtain ⟨z1, z2, z3⟩ := of_decide_eq_true (p := 2 ≤ i ∧ i ≤ 1000 ∧ ds.length ≤ 1000) f1
      cases hz
      obtain ⟨a, xs, rfl, q1, q2⟩ := rep_tup.mp h1
      obtain rfl := rep_int.mp h2
      refine ⟨_, op_repT, a, i, xs, rfl, rfl, q1, fun e => ?_, z1, z2, by rw [← q2.length]; exact z3, fun p hp => kTup k h3 hp (q2.rep _)⟩
      have := q2.length
      rw [e] at this
      have e2 : ds = [] := List.length_eq_zero_iff.mp this
      rw [e2] at f2
      cases f2
    · cases hz
  · cases hz
/-! ### constants of the module -/
mutual
/-- is a value of the written part this data? -/
def gvB (K : PySem.W.Frag) : D → Value → Bool
  | .non, .none => true
  | .bl b, .bool c => b == c
  | .int i, .int j _ => decide (i = j)
  | .str x, .str y _ => decide (x = y)
  | .tup ds, .ref a => match K.lookup a with
    | some o => decide (o.cls = .type "tuple") && (match o.data with
      | .seq its _ => Nat.ble its.size 16777216 && gvBs K ds its.toList
      | _ => false)
    | none => false
  | _, _ => false
def gvBs (K : PySem.W.Frag) : List D → List Value → Bool
  | [], [] => true
  | d :: ds, v :: vs => gvB K d v && gvBs K ds vs
  | _, _ => false
end
mutual
theorem gv_rep {K : PySem.W.Frag} : ∀ {d : D} {v : Value}, gvB K d v = true → ∃ x, RelV x v ∧ ∀ (T : List Cls) (ρ : List Addr) (H : Hp), Rep ⟨K, T⟩ ρ H d x
  | .non, v, h => by
    cases v <;> first
      | exact ⟨.non, rfl, fun _ _ _ => rep_non.mpr rfl⟩
      | simp [gvB] at h
  | .bl b, v, h => by
    cases v with
    | bool c =>
      simp only [gvB, beq_iff_eq] at h
      subst h
      exact ⟨.bl b, rfl, fun _ _ _ => rep_bl.mpr rfl⟩
    | _ => simp [gvB] at h
  | .int i, v, h => by
    cases v with
    | int j t =>
      simp only [gvB, decide_eq_true_eq] at h
      subst h
      exact ⟨.int i, ⟨t, rfl⟩, fun _ _ _ => rep_int.mpr rfl⟩
    | _ => simp [gvB] at h
  | .str x, v, h => by
    cases v with
    | str y t =>
      simp only [gvB, decide_eq_true_eq] at h
      subst h
      exact ⟨.str x, ⟨t, rfl⟩, fun _ _ _ => rep_str.mpr rfl⟩
    | _ => simp [gvB] at h
  | .tup ds, v, h => by
    cases v with
    | ref a =>
      simp only [gvB] at h
      split at h
      · rename_i o lk
        rw [Bool.and_eq_true] at h
        obtain ⟨h1, h2⟩ := h
        split at h2
        · rename_i its n hd
          rw [Bool.and_eq_true] at h2
          obtain ⟨h2, h3⟩ := h2
          obtain ⟨xs, r1, r2⟩ := gvs_rep h3
          exact ⟨.ref a, rfl, fun T ρ H => rep_tup.mpr ⟨a, xs, rfl, .inr ⟨o, its, n, lk, of_decide_eq_true h1, hd, by rw [sizeLine_eq]; exact Nat.le_of_ble_eq_true h2, r1⟩, r2 T ρ H⟩⟩
        · cases h2
      · cases h
    | _ => simp [gvB] at h
  | .ref n, v, h => by cases v <;> simp [gvB] at h
  | .exn c ds, v, h => by cases v <;> simp [gvB] at h
theorem gvs_rep {K : PySem.W.Frag} : ∀ {ds : List D} {vs : List Value}, gvBs K ds vs = true → ∃ xs, Vals xs vs ∧ ∀ (T : List Cls) (ρ : List Addr) (H : Hp), Reps ⟨K, T⟩ ρ H ds xs
  | [], vs, h => by
    cases vs with
    | nil => exact ⟨[], .nil, fun _ _ _ => Reps.nil⟩
    | cons v vs => simp [gvBs] at h
  | d :: ds, vs, h => by
    cases vs with
    | nil => simp [gvBs] at h
    | cons v vs =>
      simp only [gvBs, Bool.and_eq_true] at h
      obtain ⟨x, r1, r2⟩ := gv_rep h.1
      obtain ⟨xs, r3, r4⟩ := gvs_rep h.2
      exact ⟨x :: xs, .cons r1 r3, fun T ρ H => Reps.cons (r2 T ρ H) (r4 T ρ H)⟩
end
/-- a name of the module bears this data -/
def gcB (K : PySem.W.Frag) (x : Str) (d : D) : Bool := match PySem.W.nsIn K mainGlobals x with
  | some (some v) => gvB K d v
  | _ => false
theorem gc_ok {K : PySem.W.Frag} {h : Heap} {mg : Str → Option Value} (X : K.In h) (G : h.Ns mainGlobals mg) {x : Str} {d : D} (c : gcB K x d = true) : ∃ v, mg x = some v ∧ gvB K d v = true := by
  unfold gcB at c
  split at c
  · rename_i v e
    exact ⟨v, PySem.W.mg_of X G e, c⟩
  · cases c
theorem e_con {X : Cx} {T : List Cls} {W : WX} {x : Str} {pos : Pos} {d : D} (hg : Gl X x) (hm : ∃ v, X.mg x = some v ∧ gvB X.K d v = true) (hd : (x == ("__debug__" : Str)) = false := by decide) : PE X (.Name x pos) (LE (cx X T) W (eC d)) := by
  obtain ⟨v, h1, h2⟩ := hm
  obtain ⟨y, r1, r2⟩ := gv_rep h2
  exact e_c (pe_glob hg h1 r1 hd) fun ρ H => r2 T ρ H
end Lay

set_option Elab.async false
set_option linter.all false
set_option maxRecDepth 100000
set_option maxHeartbeats 4000000
/-! L21: isinstance of own classes, from one look at each class. -/
namespace Lay
open PySem PySem.Spec PyProof.Rows L2
def veAll : List Value := [.type "ValueError", .type "Exception", .type "BaseException", .type "object"]
/-- the class's line: itself, the ones above it, then ValueError's -/
def clB (C : Ctx) (c : Nat) : Bool := match C.T[c]? with
  | some q => match PySem.W.clsIn C.K (C.addr c) with
    | some cd => decide (cd.mro = q.sups.map (fun d => Value.ref (C.addr d)) ++ veAll) && (decide (PySem.W.typeIn C.K (.ref (C.addr c)) = some (.type "type")) && (q.sups.contains c && q.sups.all fun d => decide (d < C.T.length)))
    | none => false
  | none => false
def clsB (C : Ctx) : Bool := (List.range C.T.length).all (clB C) && decide ((List.range C.T.length).map C.addr).Nodup
theorem addr_inj {C : Ctx} (h : clsB C = true) {c d : Nat} (hc : c < C.T.length) (hd : d < C.T.length) (e : C.addr c = C.addr d) : c = d := by
  have nd := of_decide_eq_true (Bool.and_eq_true_iff.mp h).2
  have p := (List.pairwise_iff_getElem.mp nd)
  rcases Nat.lt_trichotomy c d with z | z | z
  · have q := p c d (by simpa using hc) (by simpa using hd) z
    simp only [List.getElem_map, List.getElem_range] at q
    exact absurd e q
  · exact z
  · have q := p d c (by simpa using hd) (by simpa using hc) z
    simp only [List.getElem_map, List.getElem_range] at q
    exact absurd e.symm q
theorem cl_ok {C : Ctx} (h : clsB C = true) {c : Nat} {q : Cls} (hq : C.T[c]? = some q) : ∃ cd, PySem.W.clsIn C.K (C.addr c) = some cd ∧ cd.mro = q.sups.map (fun d => Value.ref (C.addr d)) ++ veAll ∧ PySem.W.typeIn C.K (.ref (C.addr c)) = some (.type "type") ∧ c ∈ q.sups ∧ ∀ d ∈ q.sups, d < C.T.length := by
  have hc := (List.getElem?_eq_some_iff.mp hq).1
  have z := List.all_eq_true.mp (Bool.and_eq_true_iff.mp h).1 c (List.mem_range.mpr hc)
  unfold clB at z
  rw [hq] at z
  dsimp only at z
  split at z
  · rename_i cd e
    simp only [Bool.and_eq_true, decide_eq_true_eq, List.all_eq_true] at z
    exact ⟨cd, e, z.1, z.2.1, by simpa using z.2.2.1, z.2.2.2⟩
  · cases z
theorem isi_own_ok {C : Ctx} (h : clsB C = true) {d : Nat} (hd : d < C.T.length) : isi1B C (.own d) = true := by
  obtain ⟨q, hq⟩ : ∃ q, C.T[d]? = some q := ⟨_, List.getElem?_eq_getElem hd⟩
  obtain ⟨cd, e1, e2, e3, e4, e5⟩ := cl_ok h hq
  have gate : ((PySem.W.clsIn C.K (C.addr d)).isSome && PySem.W.typeIn C.K (.ref (C.addr d)) == some (.type "type")) = true := by rw [e1, e3]; rfl
  refine List.all_eq_true.mpr fun k hk => decide_eq_true ?_
  unfold allKd at hk
  rcases List.mem_append.mp hk with hk | hk
  · have ty : ∀ n : String, (∃ l, PySem.fastBuiltinMro n = some l ∧ l.contains (.ref (C.addr d)) = false) → PySem.W.kitOne C.K (kdV C (.ty n)) (kdV C (.own d)) = some (subD C.T (.ty n) (.own d)) := fun n ⟨l, h1, h2⟩ => by
      show (if (Value.type n == Value.ref (C.addr d)) = true then some true else PySem.W.kitCls C.K (.type n) (.ref (C.addr d))) = some false
      rw [if_neg (by simp)]
      unfold PySem.W.kitCls
      dsimp only
      rw [if_pos gate]
      unfold PySem.W.subIn
      dsimp only
      rw [h1, Option.map_some, h2]
    simp only [List.mem_cons, List.not_mem_nil, or_false] at hk
    rcases hk with rfl | rfl | rfl | rfl | rfl | rfl | rfl
    all_goals exact ty _ ⟨_, by rfl, by rfl⟩
  · obtain ⟨c, hc, rfl⟩ := List.mem_map.mp hk
    have hc' := List.mem_range.mp hc
    obtain ⟨r, hr⟩ : ∃ r, C.T[c]? = some r := ⟨_, List.getElem?_eq_getElem hc'⟩
    obtain ⟨cd2, g1, g2, g3, g4, g5⟩ := cl_ok h hr
    have sub : subD C.T (.own c) (.own d) = r.sups.contains d := by unfold subD; simp only [hr]
    rw [sub]
    show (if (Value.ref (C.addr c) == Value.ref (C.addr d)) = true then some true else PySem.W.kitCls C.K (.ref (C.addr c)) (.ref (C.addr d))) = _
    have inj : ∀ {x : Nat}, x < C.T.length → ((Value.ref (C.addr x) == Value.ref (C.addr d)) = true ↔ x = d) := fun {x} hx => by
      rw [beq_iff_eq]
      refine ⟨fun e => addr_inj h hx hd (by injection e), fun e => by rw [e]⟩
    by_cases hcd : c = d
    · rw [if_pos ((inj hc').mpr hcd)]
      subst hcd
      congr 1
      exact (by simpa using g4 : r.sups.contains c = true).symm
    · rw [if_neg (fun e => hcd ((inj hc').mp e))]
      unfold PySem.W.kitCls
      dsimp only
      rw [if_pos gate]
      unfold PySem.W.subIn
      dsimp only
      unfold PySem.W.mroIn
      rw [g1, Option.bind_some, if_neg (by rw [g2]; cases r.sups <;> simp [veAll]), g2]
      congr 1
      have key : ∀ l : List Nat, (∀ x ∈ l, x < C.T.length) → (l.map (fun d => Value.ref (C.addr d)) ++ veAll).contains (.ref (C.addr d)) = l.contains d := fun l hl => by
        induction l with
        | nil => rfl
        | cons x l ih =>
          rw [List.map_cons, List.cons_append, List.contains_cons, List.contains_cons, ih fun y hy => hl y (by simp [hy])]
          congr 1
          have hx := inj (hl x (by simp))
          by_cases e : x = d
          · rw [e]; simp
          · have n1 : (Value.ref (C.addr d) == Value.ref (C.addr x)) = false := by
              rw [Bool.eq_false_iff]
              intro z
              have z' : (Value.ref (C.addr x) == Value.ref (C.addr d)) = true := by rw [beq_iff_eq] at z ⊢; exact z.symm
              exact e (hx.mp z')
            rw [n1]
            simp [Ne.symm e]
      exact key r.sups g5
end Lay

set_option Elab.async false
set_option linter.all false
set_option maxRecDepth 100000
set_option maxHeartbeats 4000000
/-! L22: one look at the module after the other. -/
namespace Lay
open PySem PySem.Spec PyProof.Rows L2
abbrev obT (n : Nat) (fa : List He.Fa) (fn : List He.DefD) (ex : PySem.W.Frag → Bool) (s : PySem.W.SharedT) : AlL := obsL n fa fn ex (HandSHeadRun.getT s)
theorem says_and {K : PySem.W.Frag} {fa fa' : List He.Fa} {fn fn' : List He.DefD} (h : He.obsD fa fn K = He.valD fn) (h' : He.obsD fa' fn' K = He.valD fn') : He.obsD (fa ++ fa') (fn ++ fn') K = He.valD (fn ++ fn') := by
  unfold He.obsD He.valD at *
  obtain ⟨h1, h2⟩ := Prod.mk.inj h
  obtain ⟨h3, h4⟩ := Prod.mk.inj h'
  rw [Bool.and_eq_true] at h1 h3
  refine Prod.ext ?_ ?_
  · show ((fa ++ fa').all _ && (fn ++ fn').all _) = true
    rw [List.all_append, List.all_append, h1.1, h1.2, h3.1, h3.2]
    rfl
  · show (fn ++ fn').map _ = (fn ++ fn').map _
    rw [List.map_append, List.map_append, h2, h4]
theorem run_and {r : PySem.W.OpenRow} {q : Program} {n M : Nat} {loose : List PySem.Str} {w : World} {fa fa' : List He.Fa} {fn fn' : List He.DefD} {ex ex' : PySem.W.Frag → Bool}
    (h : HandSHeadRun.RunEq r q (hookL n fa fn ex) (obT n fa fn ex) M loose w) (h' : HandSHeadRun.RunEq r q (hookL n fa' fn' ex') (obT n fa' fn' ex') M loose w) :
    HandSHeadRun.RunEq r q (hookL n (fa ++ fa') (fn ++ fn') (fun K => ex K && ex' K)) (obT n (fa ++ fa') (fn ++ fn') (fun K => ex K && ex' K)) M loose w := by
  intro os
  have z := h os
  have z' := h' os
  obtain ⟨s, e, e1⟩ := Option.map_eq_some_iff.mp z
  obtain ⟨s', e', e1'⟩ := Option.map_eq_some_iff.mp z'
  rw [e] at e'
  cases e'
  rw [e, Option.map_some]
  obtain ⟨a1, a2⟩ := Prod.mk.inj e1
  obtain ⟨a2, a3⟩ := Prod.mk.inj a2
  obtain ⟨b1, b2⟩ := Prod.mk.inj e1'
  obtain ⟨b2, b3⟩ := Prod.mk.inj b2
  obtain ⟨c1, c2⟩ := Prod.mk.inj (show ((_, _) : AlL) = (_, _) from a3)
  obtain ⟨d1, d2⟩ := Prod.mk.inj (show ((_, _) : AlL) = (_, _) from b3)
  congr 1
  refine Prod.ext a1 (Prod.ext a2 (Prod.ext (says_and c1 d1) ?_))
  show (ex _ && ex' _) = true
  rw [c2, d2]
  rfl
end Lay

set_option Elab.async false
set_option linter.all false
set_option maxRecDepth 100000
set_option maxHeartbeats 4000000
/-! the table of classes, constants -/
namespace Lay
namespace Kk12
open PySem PySem.Spec PyProof.Rows L2
def Tb : List Cls := [⟨"SayError", [], [0]⟩, ⟨"InvalidRow", ["given"], [1, 0]⟩, ⟨"InvalidSystem", ["given"], [2, 0]⟩, ⟨"InvalidTold", ["given"], [3, 0]⟩]
def c_MOST_ROWS : D := (.int 120)
def c_MOST_PLACES : D := (.int 80)
end Kk12
end Lay

set_option Elab.async false
set_option linter.all false
set_option maxRecDepth 100000
set_option maxHeartbeats 4000000
/-! the look at the module behind its top -/
namespace Lay
namespace Kk12
open PySem PySem.Spec PyProof.Rows L2
def top (i : Nat) : Stmt := PySem.Challenge.pw_wiresay_k12_systems_and_tidy_rows.main.body.getD i (.Pass ⟨0, 0, 0, 0⟩)
def inn (i j : Nat) : Stmt := match top i with
  | .ClassDef (body := b) .. => b.getD j (.Pass ⟨0, 0, 0, 0⟩)
  | s => s
abbrev st_is_integer : Stmt := top 6
abbrev st_is_between : Stmt := top 7
abbrev st_is_tuple : Stmt := top 8
abbrev st_divisor : Stmt := top 9
abbrev st_divisor_of : Stmt := top 10
abbrev st_lowest : Stmt := top 12
abbrev st_is_number : Stmt := top 13
abbrev st_is_row : Stmt := top 14
abbrev st_is_row_of : Stmt := top 15
abbrev st_sum_of : Stmt := top 16
abbrev st_product_of : Stmt := top 17
abbrev st_is_told : Stmt := top 21
abbrev st_are_rows_of : Stmt := top 22
abbrev st_is_system : Stmt := top 23
abbrev st_check_system : Stmt := top 24
abbrev st_value_at : Stmt := top 25
abbrev st_holds_in : Stmt := top 26
abbrev st_holds_at : Stmt := top 27
abbrev st_tidy_in : Stmt := top 28
abbrev st_check_told : Stmt := top 29
abbrev st_tidy : Stmt := top 30
abbrev st_tidy_equation : Stmt := top 31
abbrev st__law_cell : Stmt := top 33
abbrev st__law_box : Stmt := top 34
abbrev st__law_take : Stmt := top 35
abbrev st__law_same : Stmt := top 36
abbrev st__law_whole : Stmt := top 37
abbrev st__law_copy : Stmt := top 38
abbrev st__law_blamed : Stmt := top 39
abbrev st__law_low : Stmt := top 40
abbrev st__law_plus : Stmt := top 41
abbrev st__law_times : Stmt := top 42
abbrev st__law_less : Stmt := top 43
abbrev st__law_number : Stmt := top 44
abbrev st__law_is_number : Stmt := top 45
abbrev st__law_is_row : Stmt := top 46
abbrev st__law_is_told : Stmt := top 47
abbrev st__law_is_system : Stmt := top 48
abbrev st__law_worth : Stmt := top 49
abbrev st__law_tops : Stmt := top 50
abbrev st__law_told_at : Stmt := top 51
abbrev st__law_drawn : Stmt := top 52
abbrev st__law_told_drawn : Stmt := top 53
abbrev st__law_divided : Stmt := top 54
abbrev st__law_turned : Stmt := top 55
abbrev st__law_call : Stmt := top 56
abbrev st__law_bad_told : Stmt := top 57
abbrev st__law_spoilt : Stmt := top 58
abbrev st__law_any : Stmt := top 59
abbrev st__law_great_right : Stmt := top 60
abbrev st__law_holds_right : Stmt := top 61
abbrev st__law_tidy_right : Stmt := top 62
abbrev st__law_refused_right : Stmt := top 63
abbrev st_law : Stmt := top 64
abbrev si_1 : Stmt := inn 2 0
abbrev si_2 : Stmt := inn 3 0
abbrev si_3 : Stmt := inn 4 0
def fa : List He.Fa := [.free "isinstance", .free "int", .free "bool", .free "tuple", .free "len", .free "abs", .free "all", .free "any", .glo "InvalidSystem", .free "zip", .glo "InvalidRow", .glo "InvalidTold", .free "sum", .free "str", .free "dict", .free "list", .free "range", .free "min", .free "max", .glo "is_integer", .glo "is_between", .glo "is_tuple", .glo "divisor", .glo "divisor_of", .glo "lowest", .glo "is_number", .glo "is_row", .glo "is_row_of", .glo "sum_of", .glo "product_of", .glo "is_told", .glo "are_rows_of", .glo "is_system", .glo "check_system", .glo "value_at", .glo "holds_in", .glo "holds_at", .glo "tidy_in", .glo "check_told", .glo "tidy", .glo "tidy_equation", .glo "_law_cell", .glo "_law_box", .glo "_law_take", .glo "_law_same", .glo "_law_whole", .glo "_law_copy", .glo "_law_blamed", .glo "_law_low", .glo "_law_plus", .glo "_law_times", .glo "_law_less", .glo "_law_number", .glo "_law_is_number", .glo "_law_is_row", .glo "_law_is_told", .glo "_law_is_system", .glo "_law_worth", .glo "_law_tops", .glo "_law_told_at", .glo "_law_drawn", .glo "_law_told_drawn", .glo "_law_divided", .glo "_law_turned", .glo "_law_call", .glo "_law_bad_told", .glo "_law_spoilt", .glo "_law_any", .glo "_law_great_right", .glo "_law_holds_right", .glo "_law_tidy_right", .glo "_law_refused_right", .glo "law", .glo "SayError"]
def fn : List He.DefD := [dOf ("is_integer", none) "is_integer" st_is_integer, dOf ("is_between", none) "is_between" st_is_between, dOf ("is_tuple", none) "is_tuple" st_is_tuple, dOf ("divisor", none) "divisor" st_divisor, dOf ("divisor_of", none) "divisor_of" st_divisor_of, dOf ("lowest", none) "lowest" st_lowest, dOf ("is_number", none) "is_number" st_is_number, dOf ("is_row", none) "is_row" st_is_row, dOf ("is_row_of", none) "is_row_of" st_is_row_of, dOf ("sum_of", none) "sum_of" st_sum_of, dOf ("product_of", none) "product_of" st_product_of, dOf ("is_told", none) "is_told" st_is_told, dOf ("are_rows_of", none) "are_rows_of" st_are_rows_of, dOf ("is_system", none) "is_system" st_is_system, dOf ("check_system", none) "check_system" st_check_system, dOf ("value_at", none) "value_at" st_value_at, dOf ("holds_in", none) "holds_in" st_holds_in, dOf ("holds_at", none) "holds_at" st_holds_at, dOf ("tidy_in", none) "tidy_in" st_tidy_in, dOf ("check_told", none) "check_told" st_check_told, dOf ("tidy", none) "tidy" st_tidy, dOf ("tidy_equation", none) "tidy_equation" st_tidy_equation, dOf ("_law_cell", none) "_law_cell" st__law_cell, dOf ("_law_box", none) "_law_box" st__law_box, dOf ("_law_take", none) "_law_take" st__law_take, dOf ("_law_same", none) "_law_same" st__law_same, dOf ("_law_whole", none) "_law_whole" st__law_whole, dOf ("_law_copy", none) "_law_copy" st__law_copy, dOf ("_law_blamed", none) "_law_blamed" st__law_blamed, dOf ("_law_low", none) "_law_low" st__law_low, dOf ("_law_plus", none) "_law_plus" st__law_plus, dOf ("_law_times", none) "_law_times" st__law_times, dOf ("_law_less", none) "_law_less" st__law_less, dOf ("_law_number", none) "_law_number" st__law_number, dOf ("_law_is_number", none) "_law_is_number" st__law_is_number, dOf ("_law_is_row", none) "_law_is_row" st__law_is_row, dOf ("_law_is_told", none) "_law_is_told" st__law_is_told, dOf ("_law_is_system", none) "_law_is_system" st__law_is_system, dOf ("_law_worth", none) "_law_worth" st__law_worth, dOf ("_law_tops", none) "_law_tops" st__law_tops, dOf ("_law_told_at", none) "_law_told_at" st__law_told_at, dOf ("_law_drawn", none) "_law_drawn" st__law_drawn, dOf ("_law_told_drawn", none) "_law_told_drawn" st__law_told_drawn, dOf ("_law_divided", none) "_law_divided" st__law_divided, dOf ("_law_turned", none) "_law_turned" st__law_turned, dOf ("_law_call", none) "_law_call" st__law_call, dOf ("_law_bad_told", none) "_law_bad_told" st__law_bad_told, dOf ("_law_spoilt", none) "_law_spoilt" st__law_spoilt, dOf ("_law_any", none) "_law_any" st__law_any, dOf ("_law_great_right", none) "_law_great_right" st__law_great_right, dOf ("_law_holds_right", none) "_law_holds_right" st__law_holds_right, dOf ("_law_tidy_right", none) "_law_tidy_right" st__law_tidy_right, dOf ("_law_refused_right", none) "_law_refused_right" st__law_refused_right, dOf ("law", none) "law" st_law, dOf ("InvalidRow", some "__init__") "InvalidRow.__init__" si_1, dOf ("InvalidSystem", some "__init__") "InvalidSystem.__init__" si_2, dOf ("InvalidTold", some "__init__") "InvalidTold.__init__" si_3]
def exs (K : PySem.W.Frag) : List Bool := [xcAllB ⟨K, Tb⟩, fldB ⟨K, Tb⟩, iniB K (He.ga K "SayError"), [1, 2, 3].all (fun c => mkB ⟨K, Tb⟩ c), [1, 2, 3].all (fun c => exmB ⟨K, Tb⟩ c), isi1B ⟨K, Tb⟩ (.ty "int"), isi1B ⟨K, Tb⟩ (.ty "bool"), isi1B ⟨K, Tb⟩ (.ty "tuple"), isi1B ⟨K, Tb⟩ (.ty "str"), isi1B ⟨K, Tb⟩ (.ty "dict"), isiB ⟨K, Tb⟩ [.ty "list", .ty "tuple"], isi1B ⟨K, Tb⟩ (.ty "list"), isiB ⟨K, Tb⟩ [.ty "int", .ty "str", .ty "list", .ty "tuple", .ty "dict"], gcB K "MOST_ROWS" c_MOST_ROWS, gcB K "MOST_PLACES" c_MOST_PLACES]
def ex (K : PySem.W.Frag) : Bool := (exs K).all id
def loose_0 : List PySem.Str := ["SayError", "InvalidRow", "InvalidSystem", "InvalidTold", "is_integer", "is_between", "is_tuple", "divisor", "divisor_of", "lowest", "is_number", "is_row", "is_row_of", "sum_of", "product_of", "is_told", "are_rows_of", "is_system", "check_system", "value_at"]
def loose_1 : List PySem.Str := ["holds_in", "holds_at", "tidy_in", "check_told", "tidy", "tidy_equation", "_law_cell", "_law_box", "_law_take", "_law_same", "_law_whole", "_law_copy", "_law_blamed", "_law_low", "_law_plus", "_law_times", "_law_less", "_law_number", "_law_is_number", "_law_is_row"]
def loose_2 : List PySem.Str := ["_law_is_told", "_law_is_system", "_law_worth", "_law_tops", "_law_told_at", "_law_drawn", "_law_told_drawn", "_law_divided", "_law_turned", "_law_call", "_law_bad_told", "_law_spoilt", "_law_any", "_law_great_right", "_law_holds_right", "_law_tidy_right", "_law_refused_right", "MOST_PLACES", "MOST_ROWS"]
def loose : List PySem.Str := loose_0 ++ loose_1 ++ loose_2
abbrev R : PySem.W.OpenRow := PySem.W.OpenLaw.row PySem.Challenge.rw_wiresay_k12_systems_and_tidy_rows
abbrev hk : PySem.W.Hook := hookL 5 fa fn ex
abbrev ob (s : PySem.W.SharedT) : AlL := obT 5 fa fn ex s
theorem ob_eq (s : PySem.W.SharedT) : ob s = hk.obs s.abs := obsL_eq (HandSHeadRun.getT_eq s)
theorem run (w : World) : HandSHeadRun.RunEq R (PySem.W.view R.prog [64]) hk ob 40000 loose w := by
  intro os
  kernel_rfl
end Kk12
end Lay

set_option Elab.async false
set_option linter.all false
set_option maxRecDepth 100000
set_option maxHeartbeats 2000000
namespace PySem
namespace HandSPX
open Builtin Builtin.ObjectAttr
section
variable {M : Model} {A : Around} {E : Value → Shared → Prop} {h : Heap} {g : Array GenState} {d : Drawn} {t : Nat} {os : OsState}
variable {nm q : Str} {C N : Addr} {bs bm bmB : List Value} {hdct : Bool} {sn : List Str} {sub : List Value} {ab : Bool} {col : Option Bool} {dd : Option Addr} {k0 k1 k2 k3 k5 : Option Value} {B newId initId : String}
theorem check_new_ownK (F : ExcBaseFacts B newId initId bmB) (hT : ∀ X : String, bm.contains (.type X) = bmB.contains (.type X)) {rest : List Value} {kw : List (Str × Value)} {Q : Unit → Shared → Prop}
    (hC : h.get? C = some (excClassObj nm q C N bs bm hdct sn sub ab col dd k0 k1 k2 k3 k5 newId)) (hq : Q () ⟨h, g, d, t, os⟩) : wpAny M A (checkBuiltinCall newId ⟨.ref C :: rest, kw⟩) Q E ⟨h, g, d, t, os⟩ := by
  have hcont : (Value.ref C :: bm).contains (.type B) = true := by rw [List.contains_cons, hT, F.hasB, Bool.or_true]
  have hstar := F.noStar
  simp only [checkBuiltinCall, F.newKind, F.newSplit, F.newRow]
  repeat (first | refine wpAny_loadPart_at hC ?_ | (refine wpAny_isSubtype_exc hC ?_; rw [hcont]) | refine wpAny_staticBase_exc hC ?_ | refine wpAny_madeBy_exc hC ?_ | simp only [bne_self_eq_false, Bool.false_eq_true, if_false] | wp_step)
  exact hq
end
section
variable {prog : Program} {w : World} {A : Around} {E : Value → Shared → Prop} {R : Result → Shared → Prop} {h : Heap} {g : Array GenState} {d : Drawn} {t : Nat} {os : OsState}
variable {nm q : Str} {C N : Addr} {bs bm bmB : List Value} {hdct : Bool} {sn : List Str} {sub : List Value} {ab : Bool} {col : Option Bool} {dd : Option Addr} {k0 k1 k2 k3 k5 : Option Value} {B newId initId : String}
theorem new_ownK (F : ExcBaseFacts B newId initId bmB) (hT : ∀ X : String, bm.contains (.type X) = bmB.contains (.type X)) {rest : List Value} {kw : List (Str × Value)}
    (hC : h.get? C = some (excClassObj nm q C N bs bm hdct sn sub ab col dd k0 k1 k2 k3 k5 newId))
    (hq : R (.ok (.ret (.ref (h.objs.size + 1)))) ⟨(h.push { cls := .type "tuple", data := .seq rest.toArray }).push
      { cls := .ref C, data := .fields #[.ref h.objs.size, .none, .none, .none, .bool false, .none] }, g, d, t, os⟩) (hrest : rest.length ≤ sizeLine) :
    codeAny (model prog w) A (.builtin newId ⟨.ref C :: rest, kw⟩) R ⟨h, g, d, t, os⟩ := by
  have hends := F.ends
  have hcB : (Value.ref C :: bm).contains (.type B) = true := by rw [List.contains_cons, hT, F.hasB, Bool.or_true]
  have hcA : (Value.ref C :: bm).contains (.type "AttributeError") = false := by rw [List.contains_cons, hT, F.noAttr]; rfl
  have hcN : (Value.ref C :: bm).contains (.type "NameError") = false := by rw [List.contains_cons, hT, F.noName]; rfl
  refine codeAny_builtinAt F.entry ?_
  unfold Builtin.«BaseException.__new__»
  refine wpAt_bind ?_
  show wpAt _ _ _ (stack >>= _) _ _ _
  refine wpAt_bind (wpAt_stack fun p below => wpAt_of_wpAny ?_)
  wp_walk
  refine wpAt_of_wpAny ?_
  rw [F.owner]
  repeat (first | with_reducible refine wpAny_madeHere_exc F.canon hC ?_ | with_reducible refine wpAny_loadPart_at hC ?_ | (with_reducible refine wpAny_isSubtype_exc hC ?_; first | rw [hcB] | rw [hcA] | rw [hcN]) | wp_step)
  show R _ _
  rw [Heap.size_push]
  exact hq
theorem type_call_ownK (F : ExcBaseFacts B newId initId bmB) (hT : ∀ X : String, bm.contains (.type X) = bmB.contains (.type X)) {rest : List Value} {kw : List (Str × Value)} {fI : Addr} {Q : Fin → Shared → Prop}
    (hC : h.get? C = some (excClassObj nm q C N bs bm hdct sn sub ab col dd k0 k1 k2 k3 k5 newId))
    (hi : W.Looks (model prog w) h (typeLookup (.ref C) "__init__") (some (.ref fI))) (hb : ∀ self, W.Looks (model prog w) h (bindSpecial (.ref fI) self) (.ref fI, [self])) (hrest : rest.length ≤ sizeLine)
    (hq : codeAny (model prog w) A (.call (.ref fI) ⟨.ref (h.objs.size + 1) :: rest, kw⟩)
      (fun r s' => match r with | .ok (.ret v) => v = .none ∧ Q (.done (.ret (.ref (h.objs.size + 1)))) s' | .ok _ => False | .error e => E e s')
      ⟨(h.push (W.kdv_tup rest)).push (excO C h.objs.size), g, d, t, os⟩) :
    wpAny (model prog w) A (Builtin.«type.__call__» ⟨.ref C :: rest, kw⟩) Q E ⟨h, g, d, t, os⟩ := by
  repeat (first | with_reducible refine wpAny_loadPart_at hC ?_ | with_reducible refine wpAny_madeBy_exc hC ?_ | wp_step)
  refine codeAny_call_builtin_code (Code.quiet_builtin _ F.quiet) (check_new_ownK F hT hC ?_)
  refine new_ownK F hT hC ?_ hrest
  show wpAny _ _ _ _ _ _
  have k : ∀ b o, h.get? b = some o → ((h.push (W.kdv_tup rest)).push (excO C h.objs.size)).get? b = some o := fun b o e => Heap.get?_push_of_some _ (Heap.get?_push_of_some _ e)
  have hC₁ := k _ _ hC
  have hget : ((h.push (W.kdv_tup rest)).push (excO C h.objs.size)).get? (h.objs.size + 1) = some (excO C h.objs.size) := by heap_get
  have hcC : (Value.ref C :: bm).contains (.ref C) = true := by simp
  have i1 := hi.keeps k
  have b1 := (hb (.ref (h.objs.size + 1))).keeps k
  unfold isInstance
  repeat (first | with_reducible refine wpAny_loadPart_at hget ?_ | (with_reducible refine wpAny_isSubtype_exc hC₁ ?_; rw [hcC]) | wp_step)
  show wpAny _ _ (typeLookup (.ref C) _) _ _ _
  refine i1.at ?_
  refine wpAny_holding (wpAny_bind (b1.at ?_))
  refine wpAny_bind (wpAny_call (codeAny_mono hq fun r s' z => ?_))
  rcases r with e | (v | _ | _ | _) <;> first | exact z | exact z.elim | skip
  obtain ⟨rfl, z⟩ := z
  first
    | exact wpAny_pure (wpAny_pure z)
    | (wp_walk; exact z)
theorem call_ownK (F : ExcBaseFacts B newId initId bmB) (hT : ∀ X : String, bm.contains (.type X) = bmB.contains (.type X)) {rest : List Value} {kw : List (Str × Value)} {fI : Addr}
    (hC : h.get? C = some (excClassObj nm q C N bs bm hdct sn sub ab col dd k0 k1 k2 k3 k5 newId))
    (hi : W.Looks (model prog w) h (typeLookup (.ref C) "__init__") (some (.ref fI))) (hb : ∀ self, W.Looks (model prog w) h (bindSpecial (.ref fI) self) (.ref fI, [self])) (hrest : rest.length ≤ sizeLine)
    (hq : codeAny (model prog w) (A.under (.builtin "type.__call__" ⟨.ref C :: rest, kw⟩)) (.call (.ref fI) ⟨.ref (h.objs.size + 1) :: rest, kw⟩) (W.InitBack (h.objs.size + 1) R)
      ⟨(h.push (W.kdv_tup rest)).push (excO C h.objs.size), g, d, t, os⟩) :
    codeAny (model prog w) A (.call (.ref C) ⟨rest, kw⟩) R ⟨h, g, d, t, os⟩ := by
  have f1 := tc_lookup
  have f2 := tc_bind (.ref C)
  have hTy : (⟨h, g, d, t, os⟩ : Shared).TypeIs (.ref C) "type" := ⟨_, hC, rfl⟩
  refine codeAny_of_tree ?_
  show wpAny _ _ (callAny (.ref C) _) _ _ _
  repeat (any_goals (first | assumption | with_reducible refine wpAny_loadPart_at hC ?_ | wp_step))
  refine ⟨rfl, ?_⟩
  refine codeAny_call_builtin_at (Code.quiet_builtin _ (by decide +kernel)) entry_typeCall (wpAny_check_type_call_sub hC (type_call_ownK F hT hC hi hb hrest ?_))
  refine codeAny_mono hq fun r s' z => ?_
  rcases r with e | (v | _ | _ | _) <;> exact z
end
end HandSPX
end PySem
namespace Lay
open PySem PySem.Spec PyProof.Rows L2
/-! ### zip -/
def zipD (ds es : List D) : List D := (ds.zip es).map fun p => .tup [p.1, p.2]
section
variable {C : Ctx} {ρ0 : List Addr} {H0 : Hp}
theorem zip_yield {ρ : List Addr} {H : Hp} {S : Store} {ds es : List D} {xs ys : List V} {i : Nat} {d : D} {t : Addr} {x y : V} (s : SRep C ρ H S) (q : Reps C ρ H ds xs) (p : Reps C ρ H es ys) (hn : H t = none) (hx : xs[i]? = some x) (hy : ys[i]? = some y) (hd : (zipD ds es)[i]? = some d) :
    Le ρ H ρ (upd H t (.tup [x, y])) ∧ SRep C ρ (upd H t (.tup [x, y])) S ∧ Rep C ρ (upd H t (.tup [x, y])) d (.ref t) := by
  have l : Le ρ H ρ (upd H t (.tup [x, y])) := Le.new hn
  refine ⟨l, s.free hn, ?_⟩
  unfold zipD at hd
  rw [List.getElem?_map] at hd
  obtain ⟨pq, h1, rfl⟩ := Option.map_eq_some_iff.mp hd
  obtain ⟨h2, h3⟩ := List.getElem?_zip_eq_some.mp h1
  obtain ⟨v, e1, r1⟩ := q.get h2
  obtain ⟨w, e2, r2⟩ := p.get h3
  rw [hx] at e1
  rw [hy] at e2
  cases e1
  cases e2
  exact rep_tup.mpr ⟨t, [x, y], rfl, .inl (.inl upd_same), Reps.cons (r1.le l) (Reps.cons (r2.le l) Reps.nil)⟩
theorem zip_len {ρ : List Addr} {H : Hp} {ds es : List D} {xs ys : List V} {i : Nat} (q : Reps C ρ H ds xs) (p : Reps C ρ H es ys) (hi : i < (zipD ds es).length) : ∃ x y, xs[i]? = some x ∧ ys[i]? = some y := by
  unfold zipD at hi
  rw [List.length_map, List.length_zip, q.length, p.length] at hi
  exact ⟨xs[i]'(by omega), ys[i]'(by omega), List.getElem?_eq_getElem (by omega), List.getElem?_eq_getElem (by omega)⟩
theorem zip_end {ρ : List Addr} {H : Hp} {ds es : List D} {xs ys : List V} (q : Reps C ρ H ds xs) (p : Reps C ρ H es ys) : xs.length ≤ (zipD ds es).length ∨ ys.length ≤ (zipD ds es).length := by
  unfold zipD
  rw [List.length_map, List.length_zip, q.length, p.length]
  omega
theorem itOk_zipL {n m : Nat} {ds es : List D} {a b : Addr} (hρ : ρ0[n]? = some a) (hρ2 : ρ0[m]? = some b) : ItOk C ⟨zipD ds es, fun S => rdL S n = some ds ∧ rdL S m = some es⟩ (Itz C.K a b) ρ0 H0 := by
  intro ρ H S l s ⟨e, e'⟩
  obtain ⟨a', xs, e1, q1, q2⟩ := s.rd (rep_ref.mpr ⟨a, l.at hρ, rfl⟩) e
  cases e1
  obtain ⟨b', ys, e1, p1, p2⟩ := s.rd (rep_ref.mpr ⟨b, l.at hρ2, rfl⟩) e'
  cases e1
  refine ⟨fun i hi => ?_, ⟨xs, ys, q1, p1, zip_end q2 p2⟩, fun i x H' ⟨t, u, v, e2, hn, e3, y1, y2⟩ d hd => ?_⟩
  · obtain ⟨x, y, h1, h2⟩ := zip_len q2 p2 hi
    exact ⟨xs, ys, x, y, q1, p1, h1, h2⟩
  · subst e2 e3
    exact zip_yield s q2 p2 hn (y1 xs q1) (y2 ys p1) hd
theorem itOk_zipT {ds es : List D} {a b : Addr} {xs ys : List V} (q1 : SqT C.K H0 a xs) (q2 : Reps C ρ0 H0 ds xs) (p1 : SqT C.K H0 b ys) (p2 : Reps C ρ0 H0 es ys) : ItOk C ⟨zipD ds es, fun _ => True⟩ (RZ.ItzT C.K a b) ρ0 H0 := by
  intro ρ H S l s _
  have q1 := SqT.le l q1
  have q2 := q2.le l
  have p1 := SqT.le l p1
  have p2 := p2.le l
  refine ⟨fun i hi => ?_, ⟨xs, ys, q1, p1, zip_end q2 p2⟩, fun i x H' ⟨t, u, v, e2, hn, e3, y1, y2⟩ d hd => ?_⟩
  · obtain ⟨x, y, h1, h2⟩ := zip_len q2 p2 hi
    exact ⟨xs, ys, x, y, q1, p1, h1, h2⟩
  · subst e2 e3
    exact zip_yield s q2 p2 hn (y1 xs q1) (y2 ys p1) hd
end
def itZip (aa : EA) : EI := eBind aa fun xs => fun _ S => match xs with
  | [.ref n, .ref m] => match rdL S n, rdL S m with
    | some ds, some es => .ok ⟨zipD ds es, fun S' => rdL S' n = some ds ∧ rdL S' m = some es⟩ S
    | _, _ => .bad
  | [.tup ds, .tup es] => .ok ⟨zipD ds es, fun _ => True⟩ S
  | _ => .bad
section
variable {X : Cx} {T : List Cls} {W : WX} {a b e e2 : Expr} {es : List Expr} {aa : EA} {pos p : Pos} {k c : Nat} {kws : List Keyword} {x : Str}
theorem i_zip {tpos : Pos} {elts : List Expr} {kk : Nat} (hg : Gl X "zip") (hm : X.mg "zip" = none) (ha : PA X [e, e2] (LA (cx X T) W aa))
    (hs : starEach [e, e2] X.env = (false, eval e X.env) :: starEach [e2] X.env := by rfl) (hpl : (backTo pos (starEach [e2] X.env)).any (·.1) = false := by rfl) :
    PI X (.Tuple elts kk tpos) (.Call (.Name "zip" p) [e, e2] [] pos) (LI (cx X T) W (itZip aa)) := (RZ.pi_zipA hg hm ha hs hpl).imp fun σ H R ⟨sd, ρ, S, h1, h2, h3⟩ => by
  refine LG.run h1 h2 h3 fun dx x ρ1 S1 H1 l1 s1 r1 k1 => ?_
  split at k1
  · rename_i n m
    split at k1
    · rename_i ds es hd he
      obtain ⟨v, w, rfl, r, r'⟩ := Reps.two r1
      obtain ⟨a, e1, rfl⟩ := rep_ref.mp r
      obtain ⟨b, e2, rfl⟩ := rep_ref.mp r'
      obtain ⟨a', xs, z1, q1, q2⟩ := s1.rd r hd
      cases z1
      obtain ⟨b', ys, z1, p1, p2⟩ := s1.rd r' he
      cases z1
      exact ⟨a, b, xs, ys, rfl, .inl ⟨q1, p1, k1 _ ρ1 H1 Le.refl s1 (itOk_zipL e1 e2)⟩⟩
    · exact k1.elim
  · rename_i ds es
    obtain ⟨v, w, rfl, r, r'⟩ := Reps.two r1
    obtain ⟨a, xs, rfl, q1, q2⟩ := rep_tup.mp r
    obtain ⟨b, ys, rfl, p1, p2⟩ := rep_tup.mp r'
    exact ⟨a, b, xs, ys, rfl, .inr ⟨q1, p1, k1 _ ρ1 H1 Le.refl s1 (itOk_zipT q1 q2 p1 p2)⟩⟩
  · exact k1.elim
/-! ### an own exception made by keywords -/
structure MkKw (P : Program) (w : World) (K : PySem.W.Frag) (mg : Str → Option Value) (base : Heap) (T : List Cls) (k : Nat) (c : Nat) (ks : List Str) (perm : List Nat) : Prop where
  lt : c < T.length
  ox : OexC K ((⟨K, T⟩ : Ctx).addr c)
  no : ∀ f ∈ (⟨K, T⟩ : Ctx).flds c, PySem.W.findIn K (.ref ((⟨K, T⟩ : Ctx).addr c)) f = some none
  ini : ∃ fI fd, PySem.W.findIn K (.ref ((⟨K, T⟩ : Ctx).addr c)) "__init__" = some (some (.ref fI)) ∧ PySem.W.typeIn K (.ref fI) = some (.type "function") ∧
    FnOk P w K mg base (L2.CX P w) k fI fd ("self" :: (⟨K, T⟩ : Ctx).flds c) (exi K ((⟨K, T⟩ : Ctx).flds c)) ∧
    ∀ (s : Shared) (u : Value) (ws : List Value), K.In s.heap → (permA perm ws).length = ((⟨K, T⟩ : Ctx).flds c).length → BindsTo s fd ⟨[u], ks.zip ws⟩ ((("self" : Str) :: (⟨K, T⟩ : Ctx).flds c).zip (u :: permA perm ws))
theorem oex_coreK {ks : List Str} {perm : List Nat} {pins : List (Addr × Obj)} {σ : St} {H1 : Hp} {s1 : Shared} {us : List Value} {vs : List V} {Q : Value → Shared → Prop} (M : MkKw X.prog X.w X.K X.mg X.base T k c ks perm) (hr : Room (k + 1) X.A) (I1 : Inv X pins σ H1 s1) (r1 : Vals vs us)
    (hl : (permA perm vs).length = ((cx X T).flds c).length)
    (q : ∀ (a : Addr) (hp2 : Heap) (s' : Shared) (H2 : Hp), s1.heap.objs.size ≤ a → (∀ b o, s1.heap.get? b = some o → hp2.get? b = some o) → Inv X pins σ H2 s' → Un (frs X.stack) [] (upd H1 a (exo a ((cx X T).addr c) none)) H2 hp2 s'.heap →
      HOk X.prog X.w H2 s'.heap → s'.os = s1.os → AllBare s'.gens → ExFin a ((cx X T).addr c) (upd H1 a (exo a ((cx X T).addr c) none)) ((cx X T).flds c) (permA perm vs) H2 → Q (.ref a) s') :
    wpAny (model X.prog X.w) X.A (call (.ref ((cx X T).addr c)) [] (ks.zip us)) Q X.xe s1 := by
  have O : OexC X.K ((cx X T).addr c) := M.ox
  obtain ⟨_, _, _, _, bm, _, _, _, _, _, _, _, _, _, _, hC, hbm⟩ := id O.cls
  obtain ⟨fI, fd, iC, tI, F1, hb⟩ := M.ini
  obtain ⟨hp, g, dr, tk, os⟩ := s1
  generalize hCe : (cx X T).addr c = C at *
  generalize hps : (cx X T).flds c = ps at *
  have hCe' : (⟨X.K, T⟩ : Ctx).addr c = C := hCe
  have hps' : (⟨X.K, T⟩ : Ctx).flds c = ps := hps
  have hsz : hp.objs.size ≤ hp.objs.size + 1 := Nat.le_succ _
  have up2 : ∀ b o, hp.get? b = some o → ((hp.push (PySem.W.kdv_tup [])).push (PySem.HandSPX.excO C hp.objs.size)).get? b = some o := fun b o e =>
    Heap.get?_push_of_some _ (Heap.get?_push_of_some _ e)
  have there : ((hp.push (PySem.W.kdv_tup [])).push (PySem.HandSPX.excO C hp.objs.size)).get? (hp.objs.size + 1) = some (PySem.HandSPX.excO C hp.objs.size) := by heap_get
  have I2 := I1.laid (t' := tk) up2 hsz (exo_ok (P := X.prog) (w := X.w) (H := upd H1 (hp.objs.size + 1) (exo (hp.objs.size + 1) C none)) there)
  have hq : exi X.K ps (.ref (hp.objs.size + 1) :: permA perm vs) (upd H1 (hp.objs.size + 1) (exo (hp.objs.size + 1) C none)) (fun v H2 => ExFin (hp.objs.size + 1) C (upd H1 (hp.objs.size + 1) (exo (hp.objs.size + 1) C none)) ps (permA perm vs) H2 ∧ v = .non) (fun _ _ _ => False) :=
    ⟨_, C, permA perm vs, rfl, hl, O, by have := M.no; rw [hCe', hps'] at this; exact this, upd_same, fun H' z => ⟨z, rfl⟩⟩
  have r1p := vals_perm r1 perm
  have len2 : (permA perm us).length = ps.length := by
    rw [← r1p.length, hl]
  have b2 := hb ⟨_, g, dr, tk, os⟩ (Value.ref (hp.objs.size + 1)) us I2.kIn len2
  have r2 : Vals (V.ref (hp.objs.size + 1) :: permA perm vs) (Value.ref (hp.objs.size + 1) :: permA perm us) := .cons rfl r1p
  have run := F1.run _ X.stack _ _ ⟨[Value.ref (hp.objs.size + 1)], ks.zip us⟩ _ _ _ (fun _ _ _ => False) (hr.make C [] (ks.zip us)) (I2.env0.make C [] (ks.zip us)) b2 r2 hq
  refine wpAny_call (PySem.HandSPX.call_ownK F.excBase_ValueError (fun Y => PySem.HandSPX.refsVE_contains Y bm hbm) (I1.kIn _ _ hC) (PySem.W.looks_findIn I1.kIn iC)
    (fun self => PySem.W.bind_fn I1.kIn self tI) (Nat.zero_le _) (codeAny_mono run fun r s' z => ?_))
  rcases r with er | fl
  · obtain ⟨_, _, _, _, _, _, _, _, _, _, _, _, z⟩ := z
    exact z.elim
  · rcases fl with u | _ | _ | _
    case ret =>
      obtain ⟨v, H2, os2, bare2, un2, hok2, rv, fin, ev⟩ := z
      subst ev
      exact ⟨rv, q _ _ _ H2 hsz up2 (I2.call' os2 un2 hok2 bare2 fun b z => nomatch z) un2 hok2 os2 bare2 fin⟩
    all_goals exact False.elim z
theorem mk_endK {ks : List Str} {perm : List Nat} {pins : List (Addr × Obj)} {σ : St} {H1 : Hp} {s1 : Shared} {us : List Value} {vs : List V} {ds : List D} {ρ : List Addr} {S : Store} {Q : VK} (M : MkKw X.prog X.w X.K X.mg X.base T k c ks perm) (hr : Room (k + 1) X.A) (I1 : Inv X pins σ H1 s1) (r1 : Vals vs us)
    (sr : SRep (cx X T) ρ H1 S) (rs : Reps (cx X T) ρ H1 ds vs) (hn : (permA perm ds).length = ((cx X T).flds c).length) (q : ∀ v H2, Le ρ H1 ρ H2 → SRep (cx X T) ρ H2 S → Rep (cx X T) ρ H2 (.exn c (permA perm ds)) v → Q v H2) :
    wpAny (model X.prog X.w) X.A (call (.ref ((cx X T).addr c)) [] (ks.zip us)) (EP X pins σ Q) X.xe s1 := by
  have rp := Reps.perm rs perm
  have hl : (permA perm vs).length = ((cx X T).flds c).length := by rw [← rp.length]; exact hn
  refine oex_coreK M hr I1 r1 hl fun a hp2 s' H2 hsz up2 I2 un2 hok2 os2 bare2 fin => ?_
  obtain ⟨d, H3, J, l, sf, ea, dk⟩ := mk_value (T := T) I2 (I1.hok.fresh hsz) fin hl
  refine ⟨.ref a, H3, J, rfl, q _ _ (l ρ) (sf ρ S sr) ?_⟩
  simp only [Rep]
  exact ⟨a, d, permA perm vs, rfl, M.lt, ea, dk, rp.le (l ρ)⟩
def eMkKw (c n : Nat) (perm : List Nat) (aa : EA) : EE := eBind aa fun xs => fun _ S => if (permA perm xs).length = n then .ok (.exn c (permA perm xs)) S else .bad
theorem e_mkKw {ks : List Str} {perm : List Nat} (M : MkKw X.prog X.w X.K X.mg X.base T k c ks perm) (hr : Room (k + 1) X.A) (hg : Gl X x) (hm : X.mg x = some (.ref ((cx X T).addr c))) {n : Nat} (hn : ((cx X T).flds c).length = n)
    (hkw : LK X T W kws aa) (hdb : (x == ("__debug__" : Str)) = false := by decide) (hall : (backToKw pos (keywordEach kws X.env)).all (·.1.isSome) = true := by rfl) (hks : (backToKw pos (keywordEach kws X.env)).filterMap (·.1) = ks := by rfl)
    (hpl : ((backTo pos (starEach [] X.env)).any (·.1) || (backToKw pos (keywordEach kws X.env)).any (·.1.isNone)) = false := by rfl) :
    PE X (.Call (.Name x p) [] kws pos) (LE (cx X T) W (eMkKw c n perm aa)) := by
  refine ⟨fun pins s σ H Q I ⟨sd, ρ, S, h1, h2, h3⟩ => ?_⟩
  have kp : PySem.W.keepIn X.K (.ref ((cx X T).addr c)) = true := M.ox.kC
  have go : LA (cx X T) W aa σ H fun vs H1 => ∃ ds ρ1 S1, SRep (cx X T) ρ1 H1 S1 ∧ Reps (cx X T) ρ1 H1 ds vs ∧ (permA perm ds).length = ((cx X T).flds c).length ∧ ∀ v H2, Le ρ1 H1 ρ1 H2 → SRep (cx X T) ρ1 H2 S1 → Rep (cx X T) ρ1 H2 (.exn c (permA perm ds)) v → Q v H2 := by
    refine LG.run h1 h2 h3 fun ds vs ρ1 S1 H1 l1 s1 r1 k1 => ?_
    split at k1
    · rename_i hz
      exact ⟨ds, ρ1, S1, s1, r1, by rw [hz, hn], fun v H2 l s r => k1 v ρ1 H2 l s r⟩
    · exact k1.elim
  refine wpAny_Call_Name_kw (ld_glob I hg hm ?_ hdb)
  refine PySem.W.callWith_KW0 (h₀ := X.base) I.ok.mod.kin kp hall (thn (hkw.run pos pins s σ H _ I go) fun ws s1 ⟨zs, H1, I1, rz, ds, ρ1, S1, sr, rs, hz, q⟩ => ⟨I1.kIn, ?_⟩) hpl
  rw [hks]
  exact mk_endK M hr I1 rz sr rs hz q
end
theorem mkKwB_ok {P : Program} {w : World} {K : PySem.W.Frag} {mg : Str → Option Value} {base : Heap} {T : List Cls} {k c : Nat} {q : Cls} {ks : List Str} {perm : List Nat} (h : mkB ⟨K, T⟩ c = true) (hq : T[c]? = some q) {fd : FuncData} (F : FnOk P w K mg base (L2.CX P w) k (He.fAd K (q.name, some "__init__")) fd ("self" :: q.flds) (exi K q.flds))
    (b : ∀ (s : Shared) (u : Value) (ws : List Value), K.In s.heap → (permA perm ws).length = q.flds.length → BindsTo s fd ⟨[u], ks.zip ws⟩ ((("self" : Str) :: q.flds).zip (u :: permA perm ws))) : MkKw P w K mg base T k c ks perm := by
  have ef : (⟨K, T⟩ : Ctx).flds c = q.flds := by unfold Ctx.flds; rw [hq]
  obtain ⟨h1, h⟩ := He.ba h
  obtain ⟨h2, h3⟩ := He.ba h
  rw [hq] at h3
  obtain ⟨h4, h5⟩ := He.ba h3
  refine ⟨(List.getElem?_eq_some_iff.mp hq).1, oexB_ok h1, fun f hf => of_decide_eq_true (List.all_eq_true.mp h2 f hf), _, fd, of_decide_eq_true h4, of_decide_eq_true h5, ?_, ?_⟩
  · rw [ef]; exact F
  · rw [ef]; exact b
theorem kwBindsI {K : PySem.W.Frag} {x qual : Str} {a : Arguments} {b : List Stmt} {sc : Scope} {f : Addr} {fd : FuncData} {ps ks : List Str} {perm : List Nat} (F : FunD K x qual a b sc [] [] f fd)
    (h : ∀ (kV doc pm : Value) (an : Option Addr) (cdv ct : Value) (u : Value) (ws : List Value), (permA perm ws).length = ps.length → bindArgs (PySem.W.fnOf x qual a b sc .none kV doc pm an cdv ct) ⟨[u], ks.zip ws⟩ = pure ((("self" : Str) :: ps).zip (u :: permA perm ws))) :
    ∀ (s : Shared) (u : Value) (ws : List Value), K.In s.heap → (permA perm ws).length = ps.length → BindsTo s fd ⟨[u], ks.zip ws⟩ ((("self" : Str) :: ps).zip (u :: permA perm ws)) := by
  obtain ⟨oc, od, dV, kV, doc, pm, an, cdv, ct, osl, rfl, lk, hcd, hD, hK⟩ := F.ex
  rcases hD with ⟨_, rfl⟩ | ⟨z, _⟩
  · exact fun s u ws _ hl => .of_eq (h kV doc pm an cdv ct u ws hl)
  · exact absurd rfl z
end Lay

set_option Elab.async false
set_option linter.all false
set_option maxRecDepth 100000
set_option maxHeartbeats 4000000
/-! the functions of the law -/
namespace Lay
namespace Kk12
open PySem PySem.Spec PyProof.Rows L2
def N_is_integer : List Str := ["value"]
noncomputable def g_is_integer : List D → M D := fnD N_is_integer.length 1 (sRet (eAnd (eIsi Tb [.ty "int"] (eVar 0)) (eNot (eIsi Tb [.ty "bool"] (eVar 0)))))
def N_is_between : List Str := ["value", "least", "greatest"]
noncomputable def g_is_between : List D → M D := fnD N_is_between.length 3 (sRet (eAnd (eCall g_is_integer (aCons (eVar 0) aNil)) (eChain pLe pLe (eVar 1) (eVar 0) (eVar 2))))
def N_is_tuple : List Str := ["value", "size"]
noncomputable def g_is_tuple : List D → M D := fnD N_is_tuple.length 2 (sRet (eAnd (eIsi Tb [.ty "tuple"] (eVar 0)) (eBin pEq (eCallB pLen (aCons (eVar 0) aNil)) (eVar 1))))
def N_divisor : List Str := ["one", "other"]
noncomputable def g_divisor : List D → M D := fnD N_divisor.length 2 (sSeq (sWhile (asB (eBin pNe (eVar 1) (eC (.int 0)))) (sPar 0 1 (aCons (eVar 1) (aCons (eBin pMod (eVar 0) (eVar 1)) aNil))))
  (sRet (eVar 0)))
def N_divisor_of : List Str := ["items", "found", "item"]
noncomputable def g_divisor_of : List D → M D := fnD N_divisor_of.length 1 (sSeq (sSet 1 (eC (.int 0)))
  (sSeq (sFor (itSeqK (eVar 0)) (gNm 2) (sSet 1 (eCall g_divisor (aCons (eVar 1) (aCons (eCallB pAbs (aCons (eVar 2) aNil)) aNil)))))
  (sRet (eVar 1))))
def N_lowest : List Str := ["top", "base", "common", "sign"]
noncomputable def g_lowest : List D → M D := fnD N_lowest.length 2 (sSeq (sSet 2 (eCall g_divisor (aCons (eCallB pAbs (aCons (eVar 0) aNil)) (aCons (eCallB pAbs (aCons (eVar 1) aNil)) aNil))))
  (sSeq (sSet 3 (eIf (asB (eBin pGt (eVar 1) (eC (.int 0)))) (eC (.int 1)) (eNeg (eC (.int 1)))))
  (sRet (eTup (aCons (eBin pDiv (eBin pMul (eVar 3) (eVar 0)) (eVar 2)) (aCons (eBin pDiv (eBin pMul (eVar 3) (eVar 1)) (eVar 2)) aNil))))))
def N_is_number : List Str := ["value"]
noncomputable def g_is_number : List D → M D := fnD N_is_number.length 1 (sSeq (sIf (bOr (bNot (eTru (eCall g_is_tuple (aCons (eVar 0) (aCons (eC (.int 2)) aNil))))) (bOr (bNot (eTru (eCall g_is_integer (aCons (eBin pIx (eVar 0) (eC (.int 0))) aNil)))) (bNot (eTru (eCall g_is_integer (aCons (eBin pIx (eVar 0) (eC (.int 1))) aNil)))))) (sRet (eC (.bl false))) sNext)
  (sRet (eAnd (eBin pGt (eBin pIx (eVar 0) (eC (.int 1))) (eC (.int 0))) (eBin pEq (eCall g_divisor (aCons (eCallB pAbs (aCons (eBin pIx (eVar 0) (eC (.int 0))) aNil)) (aCons (eBin pIx (eVar 0) (eC (.int 1))) aNil))) (eC (.int 1))))))
def N_is_row : List Str := ["value", "item"]
noncomputable def g_is_row : List D → M D := fnD N_is_row.length 1 (sRet (eAnd (eIsi Tb [.ty "tuple"] (eVar 0)) (eCallB pAll (aCons (lockE 0 (eLc (itSeqK (eVar 0)) (gNm 1) bTrue (eCall g_is_number (aCons (eVar 1) aNil)) [1])) aNil))))
def N_is_row_of : List Str := ["value", "count"]
noncomputable def g_is_row_of : List D → M D := fnD N_is_row_of.length 2 (sRet (eAnd (eCall g_is_row (aCons (eVar 0) aNil)) (eBin pEq (eCallB pLen (aCons (eVar 0) aNil)) (eVar 1))))
def N_sum_of : List Str := ["one", "other"]
noncomputable def g_sum_of : List D → M D := fnD N_sum_of.length 2 (sRet (eCall g_lowest (aCons (eBin pAdd (eBin pMul (eBin pIx (eVar 0) (eC (.int 0))) (eBin pIx (eVar 1) (eC (.int 1)))) (eBin pMul (eBin pIx (eVar 1) (eC (.int 0))) (eBin pIx (eVar 0) (eC (.int 1))))) (aCons (eBin pMul (eBin pIx (eVar 0) (eC (.int 1))) (eBin pIx (eVar 1) (eC (.int 1)))) aNil))))
def N_product_of : List Str := ["one", "other"]
noncomputable def g_product_of : List D → M D := fnD N_product_of.length 2 (sRet (eCall g_lowest (aCons (eBin pMul (eBin pIx (eVar 0) (eC (.int 0))) (eBin pIx (eVar 1) (eC (.int 0)))) (aCons (eBin pMul (eBin pIx (eVar 0) (eC (.int 1))) (eBin pIx (eVar 1) (eC (.int 1)))) aNil))))
def N_is_told : List Str := ["value", "count", "item"]
noncomputable def g_is_told : List D → M D := fnD N_is_told.length 2 (sSeq (sIf (bOr (bNot (eTru (eCall g_is_tuple (aCons (eVar 0) (aCons (eBin pAdd (eVar 1) (eC (.int 1))) aNil))))) (bNot (eTru (eCallB pAll (aCons (lockE 0 (eLc (itSeqK (eVar 0)) (gNm 2) bTrue (eCall g_is_integer (aCons (eVar 2) aNil)) [2])) aNil))))) (sRet (eC (.bl false))) sNext)
  (sRet (eCallB pAny (aCons (lockE 0 (eLc (itSeqK (eVar 0)) (gNm 2) bTrue (eBin pNe (eVar 2) (eC (.int 0))) [2])) aNil))))
def N_are_rows_of : List Str := ["value", "count", "item"]
noncomputable def g_are_rows_of : List D → M D := fnD N_are_rows_of.length 2 (sSeq (sIf (bOr (bNot (eTru (eIsi Tb [.ty "tuple"] (eVar 0)))) (asB (eBin pGt (eCallB pLen (aCons (eVar 0) aNil)) (eC c_MOST_ROWS)))) (sRet (eC (.bl false))) sNext)
  (sRet (eCallB pAll (aCons (lockE 0 (eLc (itSeqK (eVar 0)) (gNm 2) bTrue (eCall g_is_told (aCons (eVar 2) (aCons (eVar 1) aNil))) [2])) aNil))))
def N_is_system : List Str := ["value"]
noncomputable def g_is_system : List D → M D := fnD N_is_system.length 1 (sSeq (sIf (bOr (bNot (eTru (eCall g_is_tuple (aCons (eVar 0) (aCons (eC (.int 3)) aNil))))) (bNot (eTru (eCall g_is_between (aCons (eBin pIx (eVar 0) (eC (.int 0))) (aCons (eC (.int 0)) (aCons (eC c_MOST_PLACES) aNil))))))) (sRet (eC (.bl false))) sNext)
  (sRet (eAnd (eCall g_are_rows_of (aCons (eBin pIx (eVar 0) (eC (.int 1))) (aCons (eBin pIx (eVar 0) (eC (.int 0))) aNil))) (eCall g_are_rows_of (aCons (eBin pIx (eVar 0) (eC (.int 2))) (aCons (eBin pIx (eVar 0) (eC (.int 0))) aNil))))))
def N_check_system : List Str := ["system"]
noncomputable def g_check_system : List D → M D := fnD N_check_system.length 1 (sIf (bNot (eTru (eCall g_is_system (aCons (eVar 0) aNil)))) (sRaise 2 1 (aCons (eVar 0) aNil)) sNext)
def N_value_at : List Str := ["told", "row", "found", "whole", "number"]
noncomputable def g_value_at : List D → M D := fnD N_value_at.length 2 (sSeq (sSet 2 (eTup (aCons (eBin pIx (eVar 0) (eNeg (eC (.int 1)))) (aCons (eC (.int 1)) aNil))))
  (sSeq (sFor (itZip (aCons (eVar 0) (aCons (eVar 1) aNil))) (gTupD 2 (gsCons (gNm 3) (gsCons (gNm 4) gsNil))) (sSet 2 (eCall g_sum_of (aCons (eVar 2) (aCons (eCall g_product_of (aCons (eTup (aCons (eVar 3) (aCons (eC (.int 1)) aNil))) (aCons (eVar 4) aNil))) aNil)))))
  (sRet (eVar 2))))
def N_holds_in : List Str := ["system", "row", "told"]
noncomputable def g_holds_in : List D → M D := fnD N_holds_in.length 2 (sSeq (sIf (eTru (eCallB pAny (aCons (eLc (itSeq (eBin pIx (eVar 0) (eC (.int 1)))) (gNm 2) bTrue (eBin pNe (eBin pIx (eCall g_value_at (aCons (eVar 2) (aCons (eVar 1) aNil))) (eC (.int 0))) (eC (.int 0))) [2]) aNil))) (sRet (eC (.bl false))) sNext)
  (sRet (eCallB pAll (aCons (eLc (itSeq (eBin pIx (eVar 0) (eC (.int 2)))) (gNm 2) bTrue (eBin pGe (eBin pIx (eCall g_value_at (aCons (eVar 2) (aCons (eVar 1) aNil))) (eC (.int 0))) (eC (.int 0))) [2]) aNil))))
def N_holds_at : List Str := ["system", "row"]
noncomputable def g_holds_at : List D → M D := fnD N_holds_at.length 2 (sSeq (sExpr (eCall g_check_system (aCons (eVar 0) aNil)))
  (sSeq (sIf (bNot (eTru (eCall g_is_row_of (aCons (eVar 1) (aCons (eBin pIx (eVar 0) (eC (.int 0))) aNil))))) (sRaise 1 1 (aCons (eVar 1) aNil)) sNext)
  (sRet (eCall g_holds_in (aCons (eVar 0) (aCons (eVar 1) aNil))))))
def N_tidy_in : List Str := ["told", "is_equation", "first", "common", "item"]
noncomputable def g_tidy_in : List D → M D := fnD N_tidy_in.length 2 (sSeq (sSet 2 (eBin pIx (lockE 0 (eLc (itSeqK (eVar 0)) (gNm 4) (asB (eBin pNe (eVar 4) (eC (.int 0)))) (eVar 4) [4])) (eC (.int 0))))
  (sSeq (sSet 3 (eIf (bAnd (eTru (eVar 1)) (asB (eBin pLt (eVar 2) (eC (.int 0))))) (eNeg (eCall g_divisor_of (aCons (eVar 0) aNil))) (eCall g_divisor_of (aCons (eVar 0) aNil))))
  (sRet (eCallB pTuple (aCons (lockE 0 (eLc (itSeqK (eVar 0)) (gNm 4) bTrue (eBin pDivN (eVar 4) (eVar 3)) [4])) aNil)))))
def N_check_told : List Str := ["row"]
noncomputable def g_check_told : List D → M D := fnD N_check_told.length 1 (sIf (bOr (bNot (eTru (eIsi Tb [.ty "tuple"] (eVar 0)))) (bNot (eTru (eCall g_is_told (aCons (eVar 0) (aCons (eBin pSub (eCallB pLen (aCons (eVar 0) aNil)) (eC (.int 1))) aNil)))))) (sRaise 3 1 (aCons (eVar 0) aNil)) sNext)
def N_tidy : List Str := ["row"]
noncomputable def g_tidy : List D → M D := fnD N_tidy.length 1 (sSeq (sExpr (eCall g_check_told (aCons (eVar 0) aNil)))
  (sRet (eCall g_tidy_in (aCons (eVar 0) (aCons (eC (.bl false)) aNil)))))
def N_tidy_equation : List Str := ["row"]
noncomputable def g_tidy_equation : List D → M D := fnD N_tidy_equation.length 1 (sSeq (sExpr (eCall g_check_told (aCons (eVar 0) aNil)))
  (sRet (eCall g_tidy_in (aCons (eVar 0) (aCons (eC (.bl true)) aNil)))))
def N__law_cell : List Str := ["script", "k"]
noncomputable def g__law_cell : List D → M D := fnD N__law_cell.length 2 (sRet (eIf (asB (eBin pLt (eVar 1) (eCallB pLen (aCons (eVar 0) aNil)))) (eBin pIx (eVar 0) (eVar 1)) (eBin pAdd (eBin pMul (eC (.int 6445)) (eVar 1)) (eBin pMod (eCallB pInt (aCons (eCallB pSum (aCons (eSl (eVar 0) oNone (oSome (eC (.int 1)))) aNil)) aNil)) (eC (.int 1000003))))))
def N__law_box : List Str := ["great"]
noncomputable def g__law_box : List D → M D := fnD N__law_box.length 1 (sRet (eLst (aCons (eCallB pAbs (aCons (eVar 0) aNil)) (aCons (eBin pGe (eCallB pAbs (aCons (eVar 0) aNil)) (eBin pPow (eC (.int 10)) (eC (.int 18)))) (aCons (eBin pMod (eCallB pInt (aCons (eCallB pAbs (aCons (eVar 0) aNil)) aNil)) (eC (.int 2147483629))) (aCons (eC (.int 0)) aNil))))))
def N__law_take : List Str := ["box", "many", "mixed", "digit"]
noncomputable def g__law_take : List D → M D := fnD N__law_take.length 2 (sSeq (sIf (bAnd (eTru (eBin pIx (eVar 0) (eC (.int 1)))) (asB (eBin pGt (eBin pIx (eVar 0) (eC (.int 0))) (eC (.int 0))))) (sSeq (sSet 3 (eBin pMod (eCallB pInt (aCons (eBin pIx (eVar 0) (eC (.int 0))) aNil)) (eVar 1)))
  (sSeq (sAsg (eBin pDiv (eBin pIx (eVar 0) (eC (.int 0))) (eVar 1)) (gSubD (eVar 0) (eC (.int 0))))
  (sRet (eVar 3)))) sNext)
  (sSeq (sAsg (eBin pAdd (eBin pIx (eVar 0) (eC (.int 3))) (eC (.int 1))) (gSubD (eVar 0) (eC (.int 3))))
  (sSeq (sSet 2 (eBin pMod (eCallB pInt (aCons (eBin pPow (eBin pAdd (eBin pAdd (eBin pIx (eVar 0) (eC (.int 2))) (eBin pMul (eC (.int 15487493)) (eBin pIx (eVar 0) (eC (.int 3))))) (eC (.int 179426105))) (eC (.int 5))) aNil)) (eC (.int 2147483647))))
  (sRet (eBin pMod (eCallB pInt (aCons (eBin pDiv (eBin pMod (eCallB pInt (aCons (eBin pPow (eBin pAdd (eBin pMul (eVar 2) (eC (.int 48271))) (eBin pMul (eC (.int 104743)) (eBin pIx (eVar 0) (eC (.int 3))))) (eC (.int 3))) aNil)) (eC (.int 2147483587))) (eC (.int 64))) aNil)) (eVar 1))))))
def N__law_same : List Str := ["told", "due", "key", "k"]
noncomputable def g__law_same : Nat → List D → M D
  | 0 => fun _ _ => .bad
  | n + 1 => fnD N__law_same.length 2 (sSeq (sIf (bOr (asB (eBin pIs (eVar 1) (eC .non))) (eTru (eIsi Tb [.ty "bool"] (eVar 1)))) (sRet (eIf (asB (eBin pIs (eVar 1) (eC .non))) (eBin pIs (eVar 0) (eC .non)) (eAnd (eIsi Tb [.ty "bool"] (eVar 0)) (eBin pEq (eBin pIs (eVar 0) (eC (.bl true))) (eBin pIs (eVar 1) (eC (.bl true))))))) sNext)
  (sSeq (sIf (eTru (eIsi Tb [.ty "int"] (eVar 1))) (sRet (eAnd (eIsi Tb [.ty "int"] (eVar 0)) (eAnd (eNot (eIsi Tb [.ty "bool"] (eVar 0))) (eBin pEq (eVar 0) (eVar 1))))) sNext)
  (sSeq (sIf (eTru (eIsi Tb [.ty "str"] (eVar 1))) (sRet (eAnd (eIsi Tb [.ty "str"] (eVar 0)) (eBin pEq (eVar 0) (eVar 1)))) sNext)
  (sSeq (sIf (eTru (eIsi Tb [.ty "dict"] (eVar 1))) (sSeq (sIf (bOr (bNot (eTru (eIsi Tb [.ty "dict"] (eVar 0)))) (asB (eBin pNe (eCallB pLen (aCons (eVar 0) aNil)) (eCallB pLen (aCons (eVar 1) aNil))))) (sRet (eC (.bl false))) sNext)
  (sRet (eBin pEq (lockE 1 (eLc (itSeqK (eVar 1)) (gNm 2) (bOr (asB (eBin (pIn true) (eVar 2) (eVar 0))) (bNot (eTru (eCall (g__law_same n) (aCons (eBin pIxA (eVar 0) (eVar 2)) (aCons (eBin pIxA (eVar 1) (eVar 2)) aNil)))))) (eVar 2) [2])) (eLst aNil)))) sNext)
  (sSeq (sIf (eTru (eIsi Tb [.ty "list", .ty "tuple"] (eVar 1))) (sSeq (sIf (bOr (bNot (eTru (eIsi Tb [.ty "list", .ty "tuple"] (eVar 0)))) (bOr (asB (eBin pNe (eIsi Tb [.ty "list"] (eVar 0)) (eIsi Tb [.ty "list"] (eVar 1)))) (asB (eBin pNe (eCallB pLen (aCons (eVar 0) aNil)) (eCallB pLen (aCons (eVar 1) aNil)))))) (sRet (eC (.bl false))) sNext)
  (sRet (eBin pEq (eLc (itRange (aCons (eCallB pLen (aCons (eVar 1) aNil)) aNil)) (gNm 3) (bNot (eTru (eCall (g__law_same n) (aCons (eBin pIx (eVar 0) (eVar 3)) (aCons (eBin pIx (eVar 1) (eVar 3)) aNil))))) (eVar 3) [3]) (eLst aNil)))) sNext)
  (sRet (eAnd (eBin pIsNot (eVar 0) (eC .non)) (eNot (eIsi Tb [.ty "int", .ty "str", .ty "list", .ty "tuple", .ty "dict"] (eVar 0))))))))))
def N__law_whole : List Str := ["value"]
noncomputable def g__law_whole : List D → M D := fnD N__law_whole.length 1 (sRet (eAnd (eIsi Tb [.ty "int"] (eVar 0)) (eNot (eIsi Tb [.ty "bool"] (eVar 0)))))
def N__law_copy : List Str := ["value"]
noncomputable def g__law_copy : List D → M D := fnD N__law_copy.length 1 (sRet (eIf (eTru (eIsi Tb [.ty "list"] (eVar 0))) (eCallB pList (aCons (eVar 0) aNil)) (eVar 0)))
def N__law_blamed : List Str := ["given", "value"]
noncomputable def g__law_blamed : List D → M D := fnD N__law_blamed.length 2 (sSeq (sIf (bNot (eTru (eCall (g__law_same 12) (aCons (eVar 0) (aCons (eVar 1) aNil))))) (sRet (eC (.bl false))) sNext)
  (sSeq (sIf (eTru (eIsi Tb [.ty "list"] (eVar 1))) (sExpr (eMthL pAppend (eVar 1) (aCons (eC (.int 7)) aNil))) sNext)
  (sRet (eCall (g__law_same 12) (aCons (eVar 0) (aCons (eVar 1) aNil))))))
def N__law_low : List Str := ["top", "base", "sign", "one", "other"]
noncomputable def g__law_low : List D → M D := fnD N__law_low.length 2 (sSeq (sPar 3 4 (aCons (eCallB pAbs (aCons (eVar 0) aNil)) (aCons (eCallB pAbs (aCons (eVar 1) aNil)) aNil)))
  (sSeq (sWhile (asB (eBin pNe (eVar 4) (eC (.int 0)))) (sPar 3 4 (aCons (eVar 4) (aCons (eBin pMod (eCallB pInt (aCons (eVar 3) aNil)) (eVar 4)) aNil))))
  (sSeq (sSet 2 (eIf (asB (eBin pGt (eVar 1) (eC (.int 0)))) (eC (.int 1)) (eNeg (eC (.int 1)))))
  (sRet (eTup (aCons (eBin pDiv (eBin pMul (eVar 2) (eVar 0)) (eVar 3)) (aCons (eBin pDiv (eBin pMul (eVar 2) (eVar 1)) (eVar 3)) aNil)))))))
def N__law_plus : List Str := ["one", "other"]
noncomputable def g__law_plus : List D → M D := fnD N__law_plus.length 2 (sRet (eCall g__law_low (aCons (eBin pAdd (eBin pMul (eBin pIx (eVar 0) (eC (.int 0))) (eBin pIx (eVar 1) (eC (.int 1)))) (eBin pMul (eBin pIx (eVar 1) (eC (.int 0))) (eBin pIx (eVar 0) (eC (.int 1))))) (aCons (eBin pMul (eBin pIx (eVar 0) (eC (.int 1))) (eBin pIx (eVar 1) (eC (.int 1)))) aNil))))
def N__law_times : List Str := ["one", "other"]
noncomputable def g__law_times : List D → M D := fnD N__law_times.length 2 (sRet (eCall g__law_low (aCons (eBin pMul (eBin pIx (eVar 0) (eC (.int 0))) (eBin pIx (eVar 1) (eC (.int 0)))) (aCons (eBin pMul (eBin pIx (eVar 0) (eC (.int 1))) (eBin pIx (eVar 1) (eC (.int 1)))) aNil))))
def N__law_less : List Str := ["one", "other"]
noncomputable def g__law_less : List D → M D := fnD N__law_less.length 2 (sRet (eBin pLt (eBin pMul (eBin pIx (eVar 0) (eC (.int 0))) (eBin pIx (eVar 1) (eC (.int 1)))) (eBin pMul (eBin pIx (eVar 1) (eC (.int 0))) (eBin pIx (eVar 0) (eC (.int 1))))))
def N__law_number : List Str := ["box"]
noncomputable def g__law_number : List D → M D := fnD N__law_number.length 1 (sRet (eCall g__law_low (aCons (eBin pIx (eLst (aCons (eC (.int 0)) (aCons (eC (.int 1)) (aCons (eNeg (eC (.int 1))) (aCons (eC (.int 2)) (aCons (eC (.int 3)) (aCons (eNeg (eC (.int 2))) (aCons (eC (.int 1)) (aCons (eC (.int 5)) (aCons (eNeg (eC (.int 3))) (aCons (eC (.int 1)) aNil))))))))))) (eCall g__law_take (aCons (eVar 0) (aCons (eC (.int 10)) aNil)))) (aCons (eBin pIx (eLst (aCons (eC (.int 1)) (aCons (eC (.int 1)) (aCons (eC (.int 1)) (aCons (eC (.int 2)) (aCons (eC (.int 1)) (aCons (eC (.int 3)) aNil))))))) (eCall g__law_take (aCons (eVar 0) (aCons (eC (.int 6)) aNil)))) aNil))))
def N__law_is_number : List Str := ["value"]
noncomputable def g__law_is_number : List D → M D := fnD N__law_is_number.length 1 (sSeq (sIf (bOr (bNot (eTru (eIsi Tb [.ty "tuple"] (eVar 0)))) (bOr (asB (eBin pNe (eCallB pLen (aCons (eVar 0) aNil)) (eC (.int 2)))) (bOr (bNot (eTru (eCall g__law_whole (aCons (eBin pIx (eVar 0) (eC (.int 0))) aNil)))) (bOr (bNot (eTru (eCall g__law_whole (aCons (eBin pIx (eVar 0) (eC (.int 1))) aNil)))) (asB (eBin pLt (eBin pIx (eVar 0) (eC (.int 1))) (eC (.int 1)))))))) (sRet (eC (.bl false))) sNext)
  (sRet (eBin pEq (eCall g__law_low (aCons (eBin pIx (eVar 0) (eC (.int 0))) (aCons (eBin pIx (eVar 0) (eC (.int 1))) aNil))) (eVar 0))))
def N__law_is_row : List Str := ["value", "count", "item"]
noncomputable def g__law_is_row : List D → M D := fnD N__law_is_row.length 2 (sRet (eAnd (eIsi Tb [.ty "tuple"] (eVar 0)) (eAnd (eBin pEq (eCallB pLen (aCons (eVar 0) aNil)) (eVar 1)) (eBin pEq (lockE 0 (eLc (itSeqK (eVar 0)) (gNm 2) (bNot (eTru (eCall g__law_is_number (aCons (eVar 2) aNil)))) (eC (.int 1)) [2])) (eLst aNil)))))
def N__law_is_told : List Str := ["value", "n", "item"]
noncomputable def g__law_is_told : List D → M D := fnD N__law_is_told.length 2 (sSeq (sIf (bOr (bNot (eTru (eIsi Tb [.ty "tuple"] (eVar 0)))) (bOr (asB (eBin pNe (eCallB pLen (aCons (eVar 0) aNil)) (eBin pAdd (eVar 1) (eC (.int 1))))) (asB (eBin pNe (lockE 0 (eLc (itSeqK (eVar 0)) (gNm 2) (bNot (eTru (eCall g__law_whole (aCons (eVar 2) aNil)))) (eC (.int 1)) [2])) (eLst aNil))))) (sRet (eC (.bl false))) sNext)
  (sRet (eBin pNe (lockE 0 (eLc (itSeqK (eVar 0)) (gNm 2) (asB (eBin pNe (eVar 2) (eC (.int 0)))) (eC (.int 1)) [2])) (eLst aNil))))
def N__law_is_system : List Str := ["value", "rows", "row"]
noncomputable def g__law_is_system : List D → M D := fnD N__law_is_system.length 1 (sSeq (sIf (bOr (bNot (eTru (eIsi Tb [.ty "tuple"] (eVar 0)))) (bOr (asB (eBin pNe (eCallB pLen (aCons (eVar 0) aNil)) (eC (.int 3)))) (bOr (bNot (eTru (eCall g__law_whole (aCons (eBin pIx (eVar 0) (eC (.int 0))) aNil)))) (bNot (asB (eChain pLe pLe (eC (.int 0)) (eBin pIx (eVar 0) (eC (.int 0))) (eC (.int 80)))))))) (sRet (eC (.bl false))) sNext)
  (sSeq (sFor (itSeq (eSl (eVar 0) (oSome (eC (.int 1))) oNone)) (gNm 1) (sIf (bOr (bNot (eTru (eIsi Tb [.ty "tuple"] (eVar 1)))) (bOr (asB (eBin pGt (eCallB pLen (aCons (eVar 1) aNil)) (eC (.int 120)))) (asB (eBin pNe (lockE 1 (eLc (itSeqK (eVar 1)) (gNm 2) (bNot (eTru (eCall g__law_is_told (aCons (eVar 2) (aCons (eBin pIx (eVar 0) (eC (.int 0))) aNil))))) (eC (.int 1)) [2])) (eLst aNil))))) (sRet (eC (.bl false))) sNext))
  (sRet (eC (.bl true)))))
def N__law_worth : List Str := ["row", "numbers", "found", "k"]
noncomputable def g__law_worth : List D → M D := fnD N__law_worth.length 2 (sSeq (sSet 2 (eTup (aCons (eBin pIx (eVar 0) (eNeg (eC (.int 1)))) (aCons (eC (.int 1)) aNil))))
  (sSeq (sFor (itRange (aCons (eCallB pLen (aCons (eVar 1) aNil)) aNil)) (gNm 3) (sIf (asB (eBin pNe (eBin pIx (eVar 0) (eVar 3)) (eC (.int 0)))) (sSet 2 (eCall g__law_plus (aCons (eVar 2) (aCons (eCall g__law_low (aCons (eBin pMul (eBin pIx (eVar 0) (eVar 3)) (eBin pIx (eBin pIx (eVar 1) (eVar 3)) (eC (.int 0)))) (aCons (eBin pIx (eBin pIx (eVar 1) (eVar 3)) (eC (.int 1))) aNil))) aNil)))) sNext))
  (sRet (eVar 2))))
def N__law_tops : List Str := ["box", "n", "found", "k", "way", "great"]
noncomputable def g__law_tops : List D → M D := fnD N__law_tops.length 2 (sSeq (sSet 2 (eLst aNil))
  (sSeq (sFor (itRange (aCons (eVar 1) aNil)) (gNm 3) (sSeq (sSet 4 (eCall g__law_take (aCons (eVar 0) (aCons (eC (.int 6)) aNil))))
  (sSeq (sSet 5 (eCall g__law_low (aCons (eBin pSub (eBin pMul (eCall g__law_take (aCons (eVar 0) (aCons (eBin pPow (eC (.int 10)) (eC (.int 7))) aNil))) (eC (.int 37))) (eBin pPow (eC (.int 10)) (eC (.int 8)))) (aCons (eBin pAdd (eC (.int 1)) (eCall g__law_take (aCons (eVar 0) (aCons (eBin pPow (eC (.int 10)) (eC (.int 7))) aNil)))) aNil))))
  (sExpr (eMthL pAppend (eVar 2) (aCons (eIf (asB (eBin pEq (eVar 4) (eC (.int 0)))) (eVar 5) (eIf (asB (eBin pEq (eVar 4) (eC (.int 1)))) (eTup (aCons (eC (.int 0)) (aCons (eC (.int 1)) aNil))) (eCall g__law_number (aCons (eVar 0) aNil)))) aNil))))))
  (sRet (eCallB pTuple (aCons (eVar 2) aNil)))))
def N__law_told_at : List Str := ["box", "numbers", "worth", "parts", "last", "row", "number", "item", "k"]
noncomputable def g__law_told_at : List D → M D := fnD N__law_told_at.length 3 (sSeq (sSet 3 (lockE 1 (eLc (itSeqK (eVar 1)) (gNm 6) bTrue (eBin pIx (eLst (aCons (eC (.int 0)) (aCons (eC (.int 1)) (aCons (eNeg (eC (.int 1))) (aCons (eC (.int 0)) (aCons (eC (.int 2)) (aCons (eNeg (eC (.int 3))) (aCons (eC (.int 0)) (aCons (eC (.int 1)) aNil))))))))) (eCall g__law_take (aCons (eVar 0) (aCons (eC (.int 8)) aNil)))) [6])))
  (sSeq (sIf (bAnd (asB (eBin pNe (eVar 1) (eTup aNil))) (asB (eBin pEq (lockE 3 (eLc (itSeqK (eVar 3)) (gNm 7) (asB (eBin pNe (eVar 7) (eC (.int 0)))) (eC (.int 1)) [7])) (eLst aNil)))) (sAsg (eBin pSub (eC (.int 1)) (eBin pMul (eC (.int 2)) (eCall g__law_take (aCons (eVar 0) (aCons (eC (.int 2)) aNil))))) (gSubD (eVar 3) (eCall g__law_take (aCons (eVar 0) (aCons (eCallB pLen (aCons (eVar 1) aNil)) aNil))))) sNext)
  (sSeq (sSet 4 (eBin pSub (eVar 2) (eCallB pSum (aCons (eLc (itRange (aCons (eCallB pLen (aCons (eVar 1) aNil)) aNil)) (gNm 8) bTrue (eBin pMul (eBin pIx (eVar 3) (eVar 8)) (eBin pIx (eBin pIx (eVar 1) (eVar 8)) (eC (.int 0)))) [8]) aNil))))
  (sSeq (sSet 5 (eBin pAdd (eCallB pTuple (aCons (eLc (itRange (aCons (eCallB pLen (aCons (eVar 1) aNil)) aNil)) (gNm 8) bTrue (eBin pMul (eBin pIx (eVar 3) (eVar 8)) (eBin pIx (eBin pIx (eVar 1) (eVar 8)) (eC (.int 1)))) [8]) aNil)) (eTup (aCons (eVar 4) aNil))))
  (sRet (eIf (asB (eBin pNe (lockE 5 (eLc (itSeqK (eVar 5)) (gNm 7) (asB (eBin pNe (eVar 7) (eC (.int 0)))) (eC (.int 1)) [7])) (eLst aNil))) (eVar 5) (eTup (aCons (eBin pSub (eC (.int 1)) (eBin pMul (eC (.int 2)) (eCall g__law_take (aCons (eVar 0) (aCons (eC (.int 2)) aNil))))) aNil))))))))
def N__law_drawn : List Str := ["box", "numbers", "some", "others", "way", "k"]
noncomputable def g__law_drawn : List D → M D := fnD N__law_drawn.length 2 (sSeq (sSet 2 (eLc (itRange (aCons (eCall g__law_take (aCons (eVar 0) (aCons (eC (.int 4)) aNil))) aNil)) (gNm 5) bTrue (eCall g__law_told_at (aCons (eVar 0) (aCons (eVar 1) (aCons (eC (.int 0)) aNil)))) [5]))
  (sSeq (sSet 3 (eLc (itRange (aCons (eCall g__law_take (aCons (eVar 0) (aCons (eC (.int 5)) aNil))) aNil)) (gNm 5) bTrue (eCall g__law_told_at (aCons (eVar 0) (aCons (eVar 1) (aCons (eBin pIx (eLst (aCons (eC (.int 0)) (aCons (eC (.int 0)) (aCons (eC (.int 1)) (aCons (eC (.int 5)) (aCons (eBin pPow (eC (.int 10)) (eC (.int 9))) aNil)))))) (eCall g__law_take (aCons (eVar 0) (aCons (eC (.int 5)) aNil)))) aNil)))) [5]))
  (sSeq (sSet 4 (eCall g__law_take (aCons (eVar 0) (aCons (eC (.int 3)) aNil))))
  (sSeq (sIf (asB (eBin pEq (eVar 4) (eC (.int 0)))) (sExpr (eMthL pInsert (eVar 3) (aCons (eCall g__law_take (aCons (eVar 0) (aCons (eBin pAdd (eCallB pLen (aCons (eVar 3) aNil)) (eC (.int 1))) aNil))) (aCons (eCall g__law_told_at (aCons (eVar 0) (aCons (eVar 1) (aCons (eBin pIx (eLst (aCons (eNeg (eC (.int 1))) (aCons (eNeg (eC (.int 1))) (aCons (eNeg (eBin pPow (eC (.int 10)) (eC (.int 9)))) aNil)))) (eCall g__law_take (aCons (eVar 0) (aCons (eC (.int 3)) aNil)))) aNil)))) aNil)))) sNext)
  (sSeq (sIf (bAnd (asB (eBin pEq (eVar 4) (eC (.int 1)))) (asB (eBin pEq (eCall g__law_take (aCons (eVar 0) (aCons (eC (.int 2)) aNil))) (eC (.int 0))))) (sExpr (eMthL pInsert (eVar 2) (aCons (eCall g__law_take (aCons (eVar 0) (aCons (eBin pAdd (eCallB pLen (aCons (eVar 2) aNil)) (eC (.int 1))) aNil))) (aCons (eCall g__law_told_at (aCons (eVar 0) (aCons (eVar 1) (aCons (eBin pIx (eLst (aCons (eC (.int 1)) (aCons (eNeg (eC (.int 1))) (aCons (eBin pPow (eC (.int 10)) (eC (.int 9))) aNil)))) (eCall g__law_take (aCons (eVar 0) (aCons (eC (.int 3)) aNil)))) aNil)))) aNil)))) sNext)
  (sRet (eTup (aCons (eCallB pLen (aCons (eVar 1) aNil)) (aCons (eCallB pTuple (aCons (eVar 2) aNil)) (aCons (eCallB pTuple (aCons (eVar 3) aNil)) aNil))))))))))
def N__law_told_drawn : List Str := ["box", "n", "row", "factor", "k", "item"]
noncomputable def g__law_told_drawn : List D → M D := fnD N__law_told_drawn.length 2 (sSeq (sSet 2 (eLc (itRange (aCons (eBin pAdd (eVar 1) (eC (.int 1))) aNil)) (gNm 4) bTrue (eBin pIx (eLst (aCons (eC (.int 0)) (aCons (eC (.int 0)) (aCons (eC (.int 1)) (aCons (eNeg (eC (.int 1))) (aCons (eC (.int 2)) (aCons (eNeg (eC (.int 3))) (aCons (eC (.int 4)) (aCons (eNeg (eC (.int 6))) aNil))))))))) (eCall g__law_take (aCons (eVar 0) (aCons (eC (.int 8)) aNil)))) [4]))
  (sSeq (sIf (asB (eBin pEq (eCall g__law_take (aCons (eVar 0) (aCons (eC (.int 4)) aNil))) (eC (.int 0)))) (sAsg (eBin pMul (eBin pAdd (eBin pPow (eC (.int 10)) (eC (.int 18))) (eCall g__law_take (aCons (eVar 0) (aCons (eBin pPow (eC (.int 10)) (eC (.int 7))) aNil)))) (eBin pSub (eC (.int 1)) (eBin pMul (eC (.int 2)) (eCall g__law_take (aCons (eVar 0) (aCons (eC (.int 2)) aNil)))))) (gSubD (eVar 2) (eCall g__law_take (aCons (eVar 0) (aCons (eBin pAdd (eVar 1) (eC (.int 1))) aNil))))) sNext)
  (sSeq (sIf (asB (eBin pEq (lockE 2 (eLc (itSeqK (eVar 2)) (gNm 5) (asB (eBin pNe (eVar 5) (eC (.int 0)))) (eC (.int 1)) [5])) (eLst aNil))) (sAsg (eBin pIx (eLst (aCons (eC (.int 1)) (aCons (eNeg (eC (.int 1))) (aCons (eC (.int 4)) (aCons (eNeg (eC (.int 9))) aNil))))) (eCall g__law_take (aCons (eVar 0) (aCons (eC (.int 4)) aNil)))) (gSubD (eVar 2) (eCall g__law_take (aCons (eVar 0) (aCons (eBin pAdd (eVar 1) (eC (.int 1))) aNil))))) sNext)
  (sSeq (sSet 3 (eBin pIx (eLst (aCons (eC (.int 1)) (aCons (eC (.int 1)) (aCons (eC (.int 2)) (aCons (eC (.int 6)) (aCons (eC (.int 35)) aNil)))))) (eCall g__law_take (aCons (eVar 0) (aCons (eC (.int 5)) aNil)))))
  (sRet (eCallB pTuple (aCons (lockE 2 (eLc (itSeqK (eVar 2)) (gNm 5) bTrue (eBin pMul (eVar 3) (eVar 5)) [5])) aNil)))))))
def N__law_divided : List Str := ["row", "found", "item", "one", "other"]
noncomputable def g__law_divided : List D → M D := fnD N__law_divided.length 1 (sSeq (sSet 1 (eC (.int 0)))
  (sSeq (sFor (itSeqK (eVar 0)) (gNm 2) (sSeq (sPar 3 4 (aCons (eCallB pAbs (aCons (eVar 2) aNil)) (aCons (eVar 1) aNil)))
  (sSeq (sWhile (asB (eBin pNe (eVar 4) (eC (.int 0)))) (sPar 3 4 (aCons (eVar 4) (aCons (eBin pMod (eCallB pInt (aCons (eVar 3) aNil)) (eVar 4)) aNil))))
  (sSet 1 (eVar 3)))))
  (sRet (eCallB pTuple (aCons (lockE 0 (eLc (itSeqK (eVar 0)) (gNm 2) bTrue (eBin pDiv (eVar 2) (eVar 1)) [2])) aNil)))))
def N__law_turned : List Str := ["row", "item"]
noncomputable def g__law_turned : List D → M D := fnD N__law_turned.length 1 (sSeq (sSet 0 (eCall g__law_divided (aCons (eVar 0) aNil)))
  (sRet (eIf (asB (eBin pGt (eBin pIx (lockE 0 (eLc (itSeqK (eVar 0)) (gNm 1) (asB (eBin pNe (eVar 1) (eC (.int 0)))) (eVar 1) [1])) (eC (.int 0))) (eC (.int 0)))) (eVar 0) (eCallB pTuple (aCons (lockE 0 (eLc (itSeqK (eVar 0)) (gNm 1) bTrue (eBin pSub (eC (.int 0)) (eVar 1)) [1])) aNil)))))
def N__law_call : List Str := ["word", "a", "named", "e"]
noncomputable def g__law_call : List D → M D := fnD N__law_call.length 3 (sTry Tb (sSeq (sIf (asB (eBin pEq (eVar 0) (eC (.str "is")))) (sRet (eLst (aCons (eC (.str "told")) (aCons (eIf (eTru (eVar 2)) (eCallKw g_is_system [0] (aCons (eBin pIx (eVar 1) (eC (.int 0))) aNil)) (eCall g_is_system (aCons (eBin pIx (eVar 1) (eC (.int 0))) aNil))) aNil)))) sNext)
  (sSeq (sIf (asB (eBin pEq (eVar 0) (eC (.str "holds")))) (sRet (eLst (aCons (eC (.str "told")) (aCons (eIf (eTru (eVar 2)) (eCallKw g_holds_at [1, 0] (aCons (eBin pIx (eVar 1) (eC (.int 1))) (aCons (eBin pIx (eVar 1) (eC (.int 0))) aNil))) (eCall g_holds_at (aCons (eBin pIx (eVar 1) (eC (.int 0))) (aCons (eBin pIx (eVar 1) (eC (.int 1))) aNil)))) aNil)))) sNext)
  (sSeq (sIf (asB (eBin pEq (eVar 0) (eC (.str "tidy")))) (sRet (eLst (aCons (eC (.str "told")) (aCons (eIf (eTru (eVar 2)) (eCallKw g_tidy [0] (aCons (eBin pIx (eVar 1) (eC (.int 0))) aNil)) (eCall g_tidy (aCons (eBin pIx (eVar 1) (eC (.int 0))) aNil))) aNil)))) sNext)
  (sRet (eLst (aCons (eC (.str "told")) (aCons (eIf (eTru (eVar 2)) (eCallKw g_tidy_equation [0] (aCons (eBin pIx (eVar 1) (eC (.int 0))) aNil)) (eCall g_tidy_equation (aCons (eBin pIx (eVar 1) (eC (.int 0))) aNil))) aNil))))))) [⟨2, 3, (sRet (eLst (aCons (eC (.str "system")) (aCons (eAtt Tb ("given" : Str) (eVar 3)) aNil))))⟩, ⟨1, 3, (sRet (eLst (aCons (eC (.str "row")) (aCons (eAtt Tb ("given" : Str) (eVar 3)) aNil))))⟩, ⟨3, 3, (sRet (eLst (aCons (eC (.str "no told")) (aCons (eAtt Tb ("given" : Str) (eVar 3)) aNil))))⟩])
def N__law_bad_told : List Str := ["box", "row", "odd", "values", "way", "at"]
noncomputable def g__law_bad_told : List D → M D := fnD N__law_bad_told.length 2 (sSeq (sPar 4 5 (aCons (eCall g__law_take (aCons (eVar 0) (aCons (eC (.int 12)) aNil))) (aCons (eCall g__law_take (aCons (eVar 0) (aCons (eCallB pLen (aCons (eVar 1) aNil)) aNil))) aNil)))
  (sSeq (sSet 2 (eBin pIx (eLst (aCons (eC (.bl true)) (aCons (eC .non) (aCons (eC (.str "1")) (aCons (eTup (aCons (eBin pIx (eVar 1) (eVar 5)) (aCons (eC (.int 1)) aNil))) (aCons (eLst (aCons (eBin pIx (eVar 1) (eVar 5)) aNil)) (aCons (eC (.bl false)) aNil))))))) (eCall g__law_take (aCons (eVar 0) (aCons (eC (.int 6)) aNil)))))
  (sSeq (sIf (asB (eBin pLt (eVar 4) (eC (.int 3)))) (sRet (eBin pAdd (eBin pAdd (eSl (eVar 1) oNone (oSome (eVar 5))) (eTup (aCons (eVar 2) aNil))) (eSl (eVar 1) (oSome (eBin pAdd (eVar 5) (eC (.int 1)))) oNone))) sNext)
  (sSeq (sSet 3 (eLst (aCons (eBin pMulT (eTup (aCons (eC (.int 0)) aNil)) (eCallB pLen (aCons (eVar 1) aNil))) (aCons (eBin pAdd (eVar 1) (eTup (aCons (eC (.int 0)) aNil))) (aCons (eSl (eVar 1) oNone (oSome (eNeg (eC (.int 1))))) (aCons (eCallB pList (aCons (eVar 1) aNil)) (aCons (eBin pAdd (eVar 1) (eTup (aCons (eC (.int 1)) aNil))) (aCons (eBin pAdd (eTup (aCons (eC (.int 0)) aNil)) (eVar 1)) (aCons (eC (.int 5)) (aCons (eC .non) (aCons (eTup (aCons (eVar 1) aNil)) aNil)))))))))))
  (sRet (eBin pIx (eVar 3) (eBin pSub (eVar 4) (eC (.int 3)))))))))
def N__law_spoilt : List Str := ["box", "system", "way", "values", "n", "some", "others", "rows", "at", "told"]
noncomputable def g__law_spoilt : List D → M D := fnD N__law_spoilt.length 2 (sSeq (sAsg (eVar 1) (gTupD 3 (gsCons (gNm 4) (gsCons (gNm 5) (gsCons (gNm 6) gsNil)))))
  (sSeq (sSet 2 (eCall g__law_take (aCons (eVar 0) (aCons (eC (.int 14)) aNil))))
  (sSeq (sIf (asB (eBin pLt (eVar 2) (eC (.int 6)))) (sSeq (sSet 7 (eBin pIx (eLst (aCons (eVar 5) (aCons (eVar 6) aNil))) (eBin pMod (eCallB pInt (aCons (eVar 2) aNil)) (eC (.int 2)))))
  (sSeq (sSet 8 (eCall g__law_take (aCons (eVar 0) (aCons (eBin pAdd (eCallB pLen (aCons (eVar 7) aNil)) (eC (.int 1))) aNil))))
  (sSeq (sSet 9 (eIf (asB (eBin pLt (eVar 8) (eCallB pLen (aCons (eVar 7) aNil)))) (eBin pIx (eVar 7) (eVar 8)) (eCall g__law_told_drawn (aCons (eVar 0) (aCons (eVar 4) aNil)))))
  (sSeq (sSet 7 (eBin pAdd (eBin pAdd (eSl (eVar 7) oNone (oSome (eVar 8))) (eTup (aCons (eCall g__law_bad_told (aCons (eVar 0) (aCons (eVar 9) aNil))) aNil))) (eSl (eVar 7) (oSome (eBin pAdd (eVar 8) (eC (.int 1)))) oNone)))
  (sRet (eIf (asB (eBin pEq (eBin pMod (eCallB pInt (aCons (eVar 2) aNil)) (eC (.int 2))) (eC (.int 0)))) (eTup (aCons (eVar 4) (aCons (eVar 7) (aCons (eVar 6) aNil)))) (eTup (aCons (eVar 4) (aCons (eVar 5) (aCons (eVar 7) aNil)))))))))) sNext)
  (sSeq (sSet 3 (eLst (aCons (eLst (aCons (eVar 4) (aCons (eVar 5) (aCons (eVar 6) aNil)))) (aCons (eTup (aCons (eVar 4) (aCons (eVar 5) aNil))) (aCons (eTup (aCons (eVar 4) (aCons (eVar 5) (aCons (eVar 6) (aCons (eTup aNil) aNil))))) (aCons (eTup (aCons (eVar 4) (aCons (eCallB pList (aCons (eVar 5) aNil)) (aCons (eVar 6) aNil)))) (aCons (eTup (aCons (eVar 4) (aCons (eVar 5) (aCons (eCallB pList (aCons (eVar 6) aNil)) aNil)))) (aCons (eTup (aCons (eBin pEq (eVar 4) (eC (.int 1))) (aCons (eVar 5) (aCons (eVar 6) aNil)))) aNil))))))))
  (sRet (eBin pIx (eBin pAdd (eVar 3) (eLst (aCons (eTup (aCons (eBin pAdd (eVar 4) (eC (.int 1))) (aCons (eVar 5) (aCons (eVar 6) aNil)))) (aCons (eTup (aCons (eBin pSub (eC (.int 0)) (eVar 4)) (aCons (eVar 5) (aCons (eVar 6) aNil)))) aNil)))) (eBin pSub (eVar 2) (eC (.int 6)))))))))
def N__law_any : List Str := ["box"]
noncomputable def g__law_any : List D → M D := fnD N__law_any.length 1 (sRet (eBin pIx (eLst (aCons (eC .non) (aCons (eC (.bl true)) (aCons (eC (.int 5)) (aCons (eC (.str "system")) (aCons (eLst aNil) (aCons (eDct [.inr ("a" : Str)] (aCons (eC (.int 1)) aNil)) (aCons (eTup aNil) (aCons (eTup (aCons (eC (.int 0)) (aCons (eC (.int 0)) (aCons (eC (.int 0)) aNil)))) (aCons (eTup (aCons (eC (.str "0")) (aCons (eTup aNil) (aCons (eTup aNil) aNil)))) (aCons (eTup (aCons (eNeg (eC (.int 1))) (aCons (eTup aNil) (aCons (eTup aNil) aNil)))) (aCons (eTup (aCons (eC .non) (aCons (eTup aNil) (aCons (eTup aNil) aNil)))) (aCons (eTup (aCons (eTup aNil) (aCons (eTup aNil) (aCons (eTup aNil) aNil)))) (aCons (eTup (aCons (eC (.int 1)) (aCons (eC .non) (aCons (eTup aNil) aNil)))) (aCons (eTup (aCons (eC (.int 1)) (aCons (eTup aNil) (aCons (eDct [.inr ("a" : Str)] (aCons (eC (.int 1)) aNil)) aNil)))) aNil))))))))))))))) (eCall g__law_take (aCons (eVar 0) (aCons (eC (.int 14)) aNil)))))
def N__law_great_right : List Str := ["box", "named", "row", "zeros", "many", "over", "at", "last", "system", "due", "k"]
noncomputable def g__law_great_right : List D → M D := fnD N__law_great_right.length 2 (sSeq (sAsg (eTup (aCons (eCall g__law_take (aCons (eVar 0) (aCons (eC (.int 80)) aNil))) (aCons (eBin pSub (eCall g__law_take (aCons (eVar 0) (aCons (eC (.int 9)) aNil))) (eC (.int 4))) aNil))) (gTupD 2 (gsCons (gNm 6) (gsCons (gNm 7) gsNil))))
  (sSeq (sSet 2 (eBin pAdd (eCallB pTuple (aCons (eLc (itRange (aCons (eC (.int 80)) aNil)) (gNm 10) bTrue (eIf (asB (eBin pEq (eVar 10) (eVar 6))) (eC (.int 1)) (eC (.int 0))) [10]) aNil)) (eTup (aCons (eVar 7) aNil))))
  (sSeq (sSet 3 (eBin pMulT (eTup (aCons (eTup (aCons (eC (.int 0)) (aCons (eC (.int 1)) aNil))) aNil)) (eC (.int 80))))
  (sSeq (sFor (itSeq (eLst (aCons (eC (.int 120)) (aCons (eC (.int 121)) aNil)))) (gNm 4) (sFor (itSeq (eLst (aCons (eTup (aCons (eC (.int 80)) (aCons (eBin pMulT (eTup (aCons (eVar 2) aNil)) (eVar 4)) (aCons (eTup (aCons (eVar 2) aNil)) aNil)))) (aCons (eTup (aCons (eC (.int 80)) (aCons (eTup aNil) (aCons (eBin pMulT (eTup (aCons (eVar 2) aNil)) (eVar 4)) aNil)))) aNil)))) (gNm 8) (sSeq (sIf (bNot (eTru (eCall (g__law_same 12) (aCons (eCall g__law_call (aCons (eC (.str "is")) (aCons (eLst (aCons (eVar 8) aNil)) (aCons (eVar 1) aNil)))) (aCons (eLst (aCons (eC (.str "told")) (aCons (eBin pEq (eVar 4) (eC (.int 120))) aNil))) aNil))))) (sRet (eC (.bl false))) sNext)
  (sSeq (sSet 1 (eNot (eVar 1)))
  (sSeq (sSet 9 (eIf (asB (eBin pEq (eVar 4) (eC (.int 120)))) (eLst (aCons (eC (.str "told")) (aCons (eOr (eBin pEq (eVar 7) (eC (.int 0))) (eAnd (eBin pGt (eVar 7) (eC (.int 0))) (eBin pEq (eBin pIx (eVar 8) (eC (.int 1))) (eTup aNil)))) aNil))) (eLst (aCons (eC (.str "system")) (aCons (eVar 8) aNil)))))
  (sIf (bNot (eTru (eCall (g__law_same 12) (aCons (eCall g__law_call (aCons (eC (.str "holds")) (aCons (eLst (aCons (eVar 8) (aCons (eVar 3) aNil))) (aCons (eVar 1) aNil)))) (aCons (eVar 9) aNil))))) (sRet (eC (.bl false))) sNext))))))
  (sSeq (sSet 5 (eTup (aCons (eC (.int 81)) (aCons (eTup aNil) (aCons (eTup (aCons (eBin pAdd (eTup (aCons (eC (.int 1)) aNil)) (eVar 2)) aNil)) aNil)))))
  (sRet (eCall (g__law_same 12) (aCons (eLst (aCons (eCall g__law_call (aCons (eC (.str "is")) (aCons (eLst (aCons (eVar 5) aNil)) (aCons (eVar 1) aNil)))) (aCons (eCall g__law_call (aCons (eC (.str "holds")) (aCons (eLst (aCons (eVar 5) (aCons (eBin pAdd (eVar 3) (eTup (aCons (eTup (aCons (eC (.int 0)) (aCons (eC (.int 1)) aNil))) aNil))) aNil))) (aCons (eVar 1) aNil)))) aNil))) (aCons (eLst (aCons (eLst (aCons (eC (.str "told")) (aCons (eC (.bl false)) aNil))) (aCons (eLst (aCons (eC (.str "system")) (aCons (eVar 5) aNil))) aNil))) aNil)))))))))
def N__law_holds_right : List Str := ["box", "named", "numbers", "turn", "system", "row", "value", "due", "one"]
noncomputable def g__law_holds_right : List D → M D := fnD N__law_holds_right.length 2 (sSeq (sSet 2 (eCall g__law_tops (aCons (eVar 0) (aCons (eBin pIx (eLst (aCons (eC (.int 0)) (aCons (eC (.int 1)) (aCons (eC (.int 2)) (aCons (eC (.int 3)) (aCons (eC (.int 4)) (aCons (eC (.int 5)) (aCons (eC (.int 2)) (aCons (eC (.int 3)) aNil))))))))) (eCall g__law_take (aCons (eVar 0) (aCons (eC (.int 8)) aNil)))) aNil))))
  (sSeq (sFor (itRange (aCons (eC (.int 3)) aNil)) (gNm 3) (sSeq (sSet 4 (eCall g__law_drawn (aCons (eVar 0) (aCons (eVar 2) aNil))))
  (sSeq (sFor (itSeq (eLst (aCons (eVar 2) (aCons (eCall g__law_tops (aCons (eVar 0) (aCons (eCallB pLen (aCons (eVar 2) aNil)) aNil))) aNil)))) (gNm 5) (sSeq (sSet 7 (eAnd (eBin pEq (eLc (itSeq (eBin pIx (eVar 4) (eC (.int 1)))) (gNm 8) (asB (eBin pNe (eBin pIx (eCall g__law_worth (aCons (eVar 8) (aCons (eVar 5) aNil))) (eC (.int 0))) (eC (.int 0)))) (eC (.int 1)) [8]) (eLst aNil)) (eBin pEq (eLc (itSeq (eBin pIx (eVar 4) (eC (.int 2)))) (gNm 8) (asB (eBin pLt (eBin pIx (eCall g__law_worth (aCons (eVar 8) (aCons (eVar 5) aNil))) (eC (.int 0))) (eC (.int 0)))) (eC (.int 1)) [8]) (eLst aNil))))
  (sSeq (sIf (bNot (eTru (eCall (g__law_same 12) (aCons (eCall g__law_call (aCons (eC (.str "holds")) (aCons (eLst (aCons (eVar 4) (aCons (eVar 5) aNil))) (aCons (eVar 1) aNil)))) (aCons (eLst (aCons (eC (.str "told")) (aCons (eVar 7) aNil))) aNil))))) (sRet (eC (.bl false))) sNext)
  (sSet 1 (eNot (eVar 1))))))
  (sFor (itSeq (eLst (aCons (eVar 4) (aCons (eCall g__law_spoilt (aCons (eVar 0) (aCons (eVar 4) aNil))) (aCons (eCall g__law_spoilt (aCons (eVar 0) (aCons (eVar 4) aNil))) (aCons (eCall g__law_spoilt (aCons (eVar 0) (aCons (eVar 4) aNil))) (aCons (eCall g__law_any (aCons (eVar 0) aNil)) (aCons (eVar 4) aNil)))))))) (gNm 6) (sSeq (sSet 7 (eCall g__law_is_system (aCons (eVar 6) aNil)))
  (sSeq (sIf (bNot (eTru (eCall (g__law_same 12) (aCons (eCall g__law_call (aCons (eC (.str "is")) (aCons (eLst (aCons (eVar 6) aNil)) (aCons (eVar 1) aNil)))) (aCons (eLst (aCons (eC (.str "told")) (aCons (eVar 7) aNil))) aNil))))) (sRet (eC (.bl false))) sNext)
  (sSet 1 (eNot (eVar 1)))))))))
  (sRet (eC (.bl true)))))
def N__law_tidy_right : List Str := ["box", "named", "turn", "row", "word", "due"]
noncomputable def g__law_tidy_right : List D → M D := fnD N__law_tidy_right.length 2 (sSeq (sFor (itRange (aCons (eC (.int 6)) aNil)) (gNm 2) (sSeq (sSet 3 (eCall g__law_told_drawn (aCons (eVar 0) (aCons (eIf (bAnd (asB (eBin pEq (eVar 2) (eC (.int 0)))) (asB (eBin pEq (eCall g__law_take (aCons (eVar 0) (aCons (eC (.int 4)) aNil))) (eC (.int 0))))) (eC (.int 80)) (eCall g__law_take (aCons (eVar 0) (aCons (eC (.int 6)) aNil)))) aNil))))
  (sFor (itSeq (eLst (aCons (eTup (aCons (eC (.str "tidy")) (aCons (eCall g__law_divided (aCons (eVar 3) aNil)) aNil))) (aCons (eTup (aCons (eC (.str "turn")) (aCons (eCall g__law_turned (aCons (eVar 3) aNil)) aNil))) (aCons (eTup (aCons (eC (.str "tidy")) (aCons (eCall g__law_divided (aCons (eVar 3) aNil)) aNil))) aNil))))) (gTupD 2 (gsCons (gNm 4) (gsCons (gNm 5) gsNil))) (sSeq (sIf (bNot (eTru (eCall (g__law_same 12) (aCons (eCall g__law_call (aCons (eVar 4) (aCons (eLst (aCons (eVar 3) aNil)) (aCons (eVar 1) aNil)))) (aCons (eLst (aCons (eC (.str "told")) (aCons (eVar 5) aNil))) aNil))))) (sRet (eC (.bl false))) sNext)
  (sSet 1 (eNot (eVar 1)))))))
  (sRet (eC (.bl true))))
def N__law_refused_right : List Str := ["box", "named", "numbers", "ways", "bad", "odds", "rows", "values", "word", "system", "at", "top", "base", "ask", "kind", "place", "told", "value", "item", "odd"]
noncomputable def g__law_refused_right : List D → M D := fnD N__law_refused_right.length 2 (sSeq (sSet 2 (eCall g__law_tops (aCons (eVar 0) (aCons (eBin pAdd (eC (.int 1)) (eCall g__law_take (aCons (eVar 0) (aCons (eC (.int 3)) aNil)))) aNil))))
  (sSeq (sPar 9 10 (aCons (eCall g__law_drawn (aCons (eVar 0) (aCons (eVar 2) aNil))) (aCons (eCall g__law_take (aCons (eVar 0) (aCons (eCallB pLen (aCons (eVar 2) aNil)) aNil))) aNil)))
  (sSeq (sAsg (eBin pIx (eVar 2) (eVar 10)) (gTupD 2 (gsCons (gNm 11) (gsCons (gNm 12) gsNil))))
  (sSeq (sSet 3 (eLst (aCons (eTup (aCons (eBin pMul (eC (.int 2)) (eVar 11)) (aCons (eBin pMul (eC (.int 2)) (eVar 12)) aNil))) (aCons (eTup (aCons (eVar 11) (aCons (eC (.int 0)) aNil))) (aCons (eLst (aCons (eVar 11) (aCons (eVar 12) aNil))) (aCons (eVar 11) (aCons (eTup (aCons (eVar 11) (aCons (eC (.bl true)) aNil))) (aCons (eTup (aCons (eBin pSub (eC (.int 0)) (eVar 11)) (aCons (eBin pSub (eC (.int 0)) (eVar 12)) aNil))) (aCons (eTup (aCons (eVar 11) (aCons (eVar 12) (aCons (eC (.int 1)) aNil)))) (aCons (eC .non) (aCons (eC (.str "1")) aNil)))))))))))
  (sSeq (sSet 4 (eBin pAdd (eBin pAdd (eSl (eVar 2) oNone (oSome (eVar 10))) (eTup (aCons (eBin pIx (eVar 3) (eCall g__law_take (aCons (eVar 0) (aCons (eC (.int 9)) aNil)))) aNil))) (eSl (eVar 2) (oSome (eBin pAdd (eVar 10) (eC (.int 1)))) oNone)))
  (sSeq (sSet 4 (eBin pIx (eLst (aCons (eVar 4) (aCons (eVar 4) (aCons (eCallB pList (aCons (eVar 2) aNil)) (aCons (eBin pAdd (eVar 2) (eTup (aCons (eTup (aCons (eC (.int 0)) (aCons (eC (.int 1)) aNil))) aNil))) (aCons (eSl (eVar 2) oNone (oSome (eNeg (eC (.int 1))))) (aCons (eC .non) (aCons (eC (.int 5)) (aCons (eDct [.inr ("a" : Str)] (aCons (eC (.int 1)) aNil)) aNil))))))))) (eCall g__law_take (aCons (eVar 0) (aCons (eC (.int 8)) aNil)))))
  (sSeq (sSet 5 (eLc (itSeq (eLst (aCons (eCall g__law_any (aCons (eVar 0) aNil)) (aCons (eCall g__law_spoilt (aCons (eVar 0) (aCons (eVar 9) aNil))) (aCons (eCall g__law_spoilt (aCons (eVar 0) (aCons (eVar 9) aNil))) (aCons (eLst (aCons (eC (.str "system")) aNil)) aNil)))))) (gNm 17) (bNot (eTru (eCall g__law_is_system (aCons (eVar 17) aNil)))) (eVar 17) [17]))
  (sSeq (sSet 6 (eBin pAdd (eBin pAdd (lockE 5 (eLc (itSeqK (eVar 5)) (gNm 19) bTrue (eLst (aCons (eC (.str "holds")) (aCons (eLst (aCons (eVar 19) (aCons (eVar 4) aNil))) (aCons (eC (.str "system")) (aCons (eC (.int 0)) aNil))))) [19])) (lockE 5 (eLc (itSeqK (eVar 5)) (gNm 19) bTrue (eLst (aCons (eC (.str "holds")) (aCons (eLst (aCons (eVar 19) (aCons (eVar 2) aNil))) (aCons (eC (.str "system")) (aCons (eC (.int 0)) aNil))))) [19]))) (eLst (aCons (eLst (aCons (eC (.str "holds")) (aCons (eLst (aCons (eVar 9) (aCons (eVar 4) aNil))) (aCons (eC (.str "row")) (aCons (eC (.int 1)) aNil))))) aNil))))
  (sSeq (sSet 7 (eLst (aCons (eTup aNil) (aCons (eTup (aCons (eC (.int 0)) aNil)) (aCons (eTup (aCons (eC (.int 0)) (aCons (eC (.int 0)) aNil))) (aCons (eLst (aCons (eC (.int 1)) (aCons (eC (.int 2)) aNil))) (aCons (eC .non) (aCons (eC (.str "ab")) (aCons (eC (.int 5)) (aCons (eTup (aCons (eC (.int 1)) (aCons (eC (.bl true)) aNil))) (aCons (eTup (aCons (eC (.int 1)) (aCons (eTup (aCons (eC (.int 1)) (aCons (eC (.int 1)) aNil))) aNil))) (aCons (eTup (aCons (eC (.int 1)) (aCons (eC .non) aNil))) (aCons (eDct [.inr ("a" : Str)] (aCons (eC (.int 1)) aNil)) (aCons (eTup (aCons (eC (.int 0)) (aCons (eC (.int 0)) (aCons (eC (.bl false)) aNil)))) (aCons (eTup (aCons (eTup (aCons (eC (.int 1)) (aCons (eC (.int 2)) aNil))) aNil)) (aCons (eLst (aCons (eC (.int 0)) aNil)) (aCons (eTup (aCons (eC (.str "1")) (aCons (eC (.int 2)) aNil))) (aCons (eTup (aCons (eC (.int 0)) (aCons (eC (.int 0)) (aCons (eC (.int 0)) (aCons (eC (.int 0)) aNil))))) aNil))))))))))))))))))
  (sSeq (sFor (itSeq (eLst (aCons (eC (.str "tidy")) (aCons (eC (.str "turn")) aNil)))) (gNm 8) (sSeq (sExpr (eMthL pAppend (eVar 6) (aCons (eLst (aCons (eVar 8) (aCons (eLst (aCons (eBin pIx (eVar 7) (eCall g__law_take (aCons (eVar 0) (aCons (eC (.int 16)) aNil)))) aNil)) (aCons (eC (.str "no told")) (aCons (eC (.int 0)) aNil))))) aNil)))
  (sExpr (eMthL pAppend (eVar 6) (aCons (eLst (aCons (eVar 8) (aCons (eLst (aCons (eBin pIx (eVar 7) (eCall g__law_take (aCons (eVar 0) (aCons (eC (.int 16)) aNil)))) aNil)) (aCons (eC (.str "no told")) (aCons (eC (.int 0)) aNil))))) aNil)))))
  (sSeq (sFor (itSeqK (eVar 6)) (gTupD 4 (gsCons (gNm 8) (gsCons (gNm 13) (gsCons (gNm 14) (gsCons (gNm 15) gsNil))))) (sSeq (sSet 13 (eLc (itSeq (eVar 13)) (gNm 18) bTrue (eCall g__law_copy (aCons (eVar 18) aNil)) [18]))
  (sSeq (sSet 16 (eCall g__law_call (aCons (eVar 8) (aCons (eVar 13) (aCons (eVar 1) aNil)))))
  (sSeq (sIf (bOr (asB (eBin pNe (eBin pIx (eVar 16) (eC (.int 0))) (eVar 14))) (bNot (eTru (eCall g__law_blamed (aCons (eBin pIx (eVar 16) (eC (.int 1))) (aCons (eBin pIx (eVar 13) (eVar 15)) aNil)))))) (sRet (eC (.bl false))) sNext)
  (sSet 1 (eNot (eVar 1)))))))
  (sRet (eC (.bl true))))))))))))))
def N_law : List Str := ["script", "k", "box", "way", "named"]
noncomputable def g_law : List D → M D := fnD N_law.length 1 (sSeq (sFor (itRange (aCons (eCallB pMax2 (aCons (eC (.int 2)) (aCons (eCallB pMin2 (aCons (eC (.int 5)) (aCons (eCallB pLen (aCons (eVar 0) aNil)) aNil))) aNil))) aNil)) (gNm 1) (sSeq (sSet 2 (eCall g__law_box (aCons (eCall g__law_cell (aCons (eVar 0) (aCons (eVar 1) aNil))) aNil)))
  (sSeq (sPar 3 4 (aCons (eCall g__law_take (aCons (eVar 2) (aCons (eC (.int 8)) aNil))) (aCons (eBin pEq (eCall g__law_take (aCons (eVar 2) (aCons (eC (.int 2)) aNil))) (eC (.int 0))) aNil)))
  (sSeq (sIf (bAnd (asB (eBin pEq (eVar 3) (eC (.int 0)))) (bNot (eTru (eCall g__law_great_right (aCons (eVar 2) (aCons (eVar 4) aNil)))))) (sRet (eC (.bl false))) sNext)
  (sIf (bOr (bNot (eTru (eCall g__law_holds_right (aCons (eVar 2) (aCons (eVar 4) aNil))))) (bOr (bNot (eTru (eCall g__law_tidy_right (aCons (eVar 2) (aCons (eNot (eVar 4)) aNil))))) (bNot (eTru (eCall g__law_refused_right (aCons (eVar 2) (aCons (eVar 4) aNil))))))) (sRet (eC (.bl false))) sNext)))))
  (sRet (eC (.bl true))))
end Kk12
end Lay

set_option Elab.async false
set_option linter.all false
set_option maxRecDepth 100000
set_option maxHeartbeats 4000000
/-! the derivations -/
namespace Lay
namespace Kk12
open PySem PySem.Spec PyProof.Rows L2
section
variable {P : Program} {w : World} {K : PySem.W.Frag} {mg : Str → Option Value} {base : Heap}
abbrev ZF (K : PySem.W.Frag) (mg : Str → Option Value) (base : Heap) : Prop := PF fa fn ex K mg base
theorem exAt (Z : ZF K mg base) (i : Nat) {b : Bool} (h : (exs K)[i]? = some b := by rfl) : b = true := by
  have z := List.all_eq_true.mp (show (exs K).all id = true from Z.x) b (List.mem_of_getElem? h)
  exact z
theorem xc (Z : ZF K mg base) : XcAll ⟨K, Tb⟩ := xcAllB_ok (exAt Z 0)
theorem fld (Z : ZF K mg base) : FldAll ⟨K, Tb⟩ := fldB_ok (exAt Z 1)
theorem ini (Z : ZF K mg base) : IniOk K (He.ga K "SayError") := iniB_ok (exAt Z 2)
theorem exm_all (Z : ZF K mg base) : ∀ c ∈ [1, 2, 3], exmB ⟨K, Tb⟩ c = true := fun c hc => List.all_eq_true.mp (exAt Z 4) c hc
theorem exm_of {l : List HdD} (Z : ZF K mg base) (h : (l.all fun h => [1, 2, 3].contains h.c) = true := by rfl) : ∀ h ∈ l, exmB ⟨K, Tb⟩ h.c = true := fun x hx => exm_all Z x.c (by simpa using List.all_eq_true.mp h x hx)
theorem isi_0 (Z : ZF K mg base) : isi1B ⟨K, Tb⟩ (.ty "int") = true := exAt Z 5
theorem isi_1 (Z : ZF K mg base) : isi1B ⟨K, Tb⟩ (.ty "bool") = true := exAt Z 6
theorem isi_2 (Z : ZF K mg base) : isi1B ⟨K, Tb⟩ (.ty "tuple") = true := exAt Z 7
theorem isi_3 (Z : ZF K mg base) : isi1B ⟨K, Tb⟩ (.ty "str") = true := exAt Z 8
theorem isi_4 (Z : ZF K mg base) : isi1B ⟨K, Tb⟩ (.ty "dict") = true := exAt Z 9
theorem isi_5 (Z : ZF K mg base) : isiB ⟨K, Tb⟩ [.ty "list", .ty "tuple"] = true := exAt Z 10
theorem isi_6 (Z : ZF K mg base) : isi1B ⟨K, Tb⟩ (.ty "list") = true := exAt Z 11
theorem isi_7 (Z : ZF K mg base) : isiB ⟨K, Tb⟩ [.ty "int", .ty "str", .ty "list", .ty "tuple", .ty "dict"] = true := exAt Z 12
theorem con_MOST_ROWS (Z : ZF K mg base) : ∃ v, mg "MOST_ROWS" = some v ∧ gvB K c_MOST_ROWS v = true := gc_ok Z.X Z.G (exAt Z 13)
theorem con_MOST_PLACES (Z : ZF K mg base) : ∃ v, mg "MOST_PLACES" = some v ∧ gvB K c_MOST_PLACES v = true := gc_ok Z.X Z.G (exAt Z 14)
theorem sc_1 : FnScope ["self", "given"] ["self", "given"] (defScope si_1) := ⟨rfl, rfl, rfl, by decide +kernel, rfl, by decide +kernel, by decide +kernel⟩
theorem mk_1 (Z : ZF K mg base) : MkOk P w K mg base Tb 1 1 := by
  have D := Z.fun_ 54 (p := ("InvalidRow", some "__init__")) (qual := "InvalidRow.__init__") (st := si_1) rfl
  exact mkB_ok (List.all_eq_true.mp (exAt Z 3) 1 (by decide)) rfl (exi1_ok (ini Z) (Z.glo 73) (fun_of D) sc_1 (by kernel_rfl) (by kernel_rfl) (by kernel_rfl) rfl rfl rfl (fun _ _ _ => iniEq_of rfl rfl) rfl) (D.bindsN fun _ _ _ _ _ _ us hl => match us, hl with | [_, _], _ => by kernel_rfl)
theorem sc_2 : FnScope ["self", "given"] ["self", "given"] (defScope si_2) := ⟨rfl, rfl, rfl, by decide +kernel, rfl, by decide +kernel, by decide +kernel⟩
theorem mk_2 (Z : ZF K mg base) : MkOk P w K mg base Tb 1 2 := by
  have D := Z.fun_ 55 (p := ("InvalidSystem", some "__init__")) (qual := "InvalidSystem.__init__") (st := si_2) rfl
  exact mkB_ok (List.all_eq_true.mp (exAt Z 3) 2 (by decide)) rfl (exi1_ok (ini Z) (Z.glo 73) (fun_of D) sc_2 (by kernel_rfl) (by kernel_rfl) (by kernel_rfl) rfl rfl rfl (fun _ _ _ => iniEq_of rfl rfl) rfl) (D.bindsN fun _ _ _ _ _ _ us hl => match us, hl with | [_, _], _ => by kernel_rfl)
theorem sc_3 : FnScope ["self", "given"] ["self", "given"] (defScope si_3) := ⟨rfl, rfl, rfl, by decide +kernel, rfl, by decide +kernel, by decide +kernel⟩
theorem mk_3 (Z : ZF K mg base) : MkOk P w K mg base Tb 1 3 := by
  have D := Z.fun_ 56 (p := ("InvalidTold", some "__init__")) (qual := "InvalidTold.__init__") (st := si_3) rfl
  exact mkB_ok (List.all_eq_true.mp (exAt Z 3) 3 (by decide)) rfl (exi1_ok (ini Z) (Z.glo 73) (fun_of D) sc_3 (by kernel_rfl) (by kernel_rfl) (by kernel_rfl) rfl rfl rfl (fun _ _ _ => iniEq_of rfl rfl) rfl) (D.bindsN fun _ _ _ _ _ _ us hl => match us, hl with | [_, _], _ => by kernel_rfl)
theorem kb_is_system_value (Z : ZF K mg base) : ∀ (s : Shared) (ws : List Value), K.In s.heap → (permA [0] ws).length = (["value"] : List Str).length → BindsTo s (fdOf K ("is_system", none)) ⟨[], (["value"] : List Str).zip ws⟩ ((["value"] : List Str).zip (permA [0] ws)) :=
  kwBinds (Z.fun_ 13 (p := ("is_system", none)) (qual := "is_system") (st := st_is_system) rfl) fun _ _ _ _ _ _ ws hl => by
    rcases ws with _ | ⟨_, _⟩
    all_goals first
      | (exfalso; simp [permA] at hl; done)
      | kernel_rfl
theorem kb_holds_at_row_system (Z : ZF K mg base) : ∀ (s : Shared) (ws : List Value), K.In s.heap → (permA [1, 0] ws).length = (["system", "row"] : List Str).length → BindsTo s (fdOf K ("holds_at", none)) ⟨[], (["row", "system"] : List Str).zip ws⟩ ((["system", "row"] : List Str).zip (permA [1, 0] ws)) :=
  kwBinds (Z.fun_ 17 (p := ("holds_at", none)) (qual := "holds_at") (st := st_holds_at) rfl) fun _ _ _ _ _ _ ws hl => by
    rcases ws with _ | ⟨_, _ | ⟨_, _⟩⟩
    all_goals first
      | (exfalso; simp [permA] at hl; done)
      | kernel_rfl
theorem kb_tidy_row (Z : ZF K mg base) : ∀ (s : Shared) (ws : List Value), K.In s.heap → (permA [0] ws).length = (["row"] : List Str).length → BindsTo s (fdOf K ("tidy", none)) ⟨[], (["row"] : List Str).zip ws⟩ ((["row"] : List Str).zip (permA [0] ws)) :=
  kwBinds (Z.fun_ 20 (p := ("tidy", none)) (qual := "tidy") (st := st_tidy) rfl) fun _ _ _ _ _ _ ws hl => by
    rcases ws with _ | ⟨_, _⟩
    all_goals first
      | (exfalso; simp [permA] at hl; done)
      | kernel_rfl
theorem kb_tidy_equation_row (Z : ZF K mg base) : ∀ (s : Shared) (ws : List Value), K.In s.heap → (permA [0] ws).length = (["row"] : List Str).length → BindsTo s (fdOf K ("tidy_equation", none)) ⟨[], (["row"] : List Str).zip ws⟩ ((["row"] : List Str).zip (permA [0] ws)) :=
  kwBinds (Z.fun_ 21 (p := ("tidy_equation", none)) (qual := "tidy_equation") (st := st_tidy_equation) rfl) fun _ _ _ _ _ _ ws hl => by
    rcases ws with _ | ⟨_, _⟩
    all_goals first
      | (exfalso; simp [permA] at hl; done)
      | kernel_rfl
theorem sc_is_integer : FnScope N_is_integer ["value"] (defScope st_is_integer) := ⟨rfl, rfl, rfl, by decide +kernel, rfl, by decide +kernel, by decide +kernel⟩
theorem co_is_integer (Z : ZF K mg base) : CO P w K mg base Tb "is_integer" 1 ["value"] g_is_integer := by
  have S := sc_is_integer
  exact Z.co 0 19 rfl rfl S (fun _ _ _ _ _ _ us hl => match us, hl with | [_], _ => by kernel_rfl) fun cdv A outer s H E hr => (ss_one (s_ret (e_and (e_isi1 (t := .ty "int") (xc Z) (isi_0 Z) (gl_ (by kernel_rfl)) (Z.free 0) (e_v 0 (by kernel_rfl)) (n_ty (gl_ (by kernel_rfl)) (Z.free 1) PyProof.Rows.Boot.«int»)) (pe_one (e_not (e_isi1 (t := .ty "bool") (xc Z) (isi_1 Z) (gl_ (by kernel_rfl)) (Z.free 0) (e_v 0 (by kernel_rfl)) (n_ty (gl_ (by kernel_rfl)) (Z.free 2) PyProof.Rows.Boot.«bool»)))))))
theorem sc_is_between : FnScope N_is_between ["value", "least", "greatest"] (defScope st_is_between) := ⟨rfl, rfl, rfl, by decide +kernel, rfl, by decide +kernel, by decide +kernel⟩
theorem co_is_between (Z : ZF K mg base) : CO P w K mg base Tb "is_between" 2 ["value", "least", "greatest"] g_is_between := by
  have S := sc_is_between
  exact Z.co 1 20 rfl rfl S (fun _ _ _ _ _ _ us hl => match us, hl with | [_, _, _], _ => by kernel_rfl) fun cdv A outer s H E hr => (ss_one (s_ret (e_and (e_callZ (co_is_integer Z) takesB (hr.mono (by omega)) (gl_ (by kernel_rfl)) (a_cons (e_v 0 (by kernel_rfl)) a_nil) rfl) (pe_one (e_chain op_pLe op_pLe (e_v 1 (by kernel_rfl)) (e_v 0 (by kernel_rfl)) (e_v 2 (by kernel_rfl)) (by with_unfolding_all rfl))))))
theorem sc_is_tuple : FnScope N_is_tuple ["value", "size"] (defScope st_is_tuple) := ⟨rfl, rfl, rfl, by decide +kernel, rfl, by decide +kernel, by decide +kernel⟩
theorem co_is_tuple (Z : ZF K mg base) : CO P w K mg base Tb "is_tuple" 1 ["value", "size"] g_is_tuple := by
  have S := sc_is_tuple
  exact Z.co 2 21 rfl rfl S (fun _ _ _ _ _ _ us hl => match us, hl with | [_, _], _ => by kernel_rfl) fun cdv A outer s H E hr => (ss_one (s_ret (e_and (e_isi1 (t := .ty "tuple") (xc Z) (isi_2 Z) (gl_ (by kernel_rfl)) (Z.free 0) (e_v 0 (by kernel_rfl)) (n_ty (gl_ (by kernel_rfl)) (Z.free 3) PyProof.Rows.Boot.«tuple»)) (pe_one (e_cmp (op_pEq hr.units) (e_callB call_pLen (gl_ (by kernel_rfl)) (Z.free 4) PyProof.Rows.Boot.«len» (a_cons (e_v 0 (by kernel_rfl)) a_nil)) (e_v 1 (by kernel_rfl)) (nomark _))))))
theorem sc_divisor : FnScope N_divisor ["one", "other"] (defScope st_divisor) := ⟨rfl, rfl, rfl, by decide +kernel, rfl, by decide +kernel, by decide +kernel⟩
theorem co_divisor (Z : ZF K mg base) : CO P w K mg base Tb "divisor" 1 ["one", "other"] g_divisor := by
  have S := sc_divisor
  exact Z.co 3 22 rfl rfl S (fun _ _ _ _ _ _ us hl => match us, hl with | [_, _], _ => by kernel_rfl) fun cdv A outer s H E hr => (ss_cons (s_while passB (t_cmp (op_pNe hr.units) (e_v 1 (by kernel_rfl)) e_int (nomark _)) (ss_one (s_par (i := 0) (j := 1) rfl S.nd rfl rfl (by decide) (by kernel_rfl) (by kernel_rfl) (a_cons (e_v 1 (by kernel_rfl)) (a_cons (e_bin op_pMod (e_v 0 (by kernel_rfl)) (e_v 1 (by kernel_rfl))) a_nil)) (by rfl))))
  (ss_one (s_ret (e_v 0 (by kernel_rfl)))))
theorem sc_divisor_of : FnScope N_divisor_of ["items"] (defScope st_divisor_of) := ⟨rfl, rfl, rfl, by decide +kernel, rfl, by decide +kernel, by decide +kernel⟩
theorem co_divisor_of (Z : ZF K mg base) : CO P w K mg base Tb "divisor_of" 2 ["items"] g_divisor_of := by
  have S := sc_divisor_of
  exact Z.co 4 23 rfl rfl S (fun _ _ _ _ _ _ us hl => match us, hl with | [_], _ => by kernel_rfl) fun cdv A outer s H E hr => (ss_cons (s_setV 1 S.nd (by kernel_rfl) e_int rfl)
  (ss_cons (s_for passB rfl (i_seqK (e_v 0 (by kernel_rfl))) (g_nameV 2 S.nd (by kernel_rfl) (.inl rfl)) (ss_one (s_setV 1 S.nd (by kernel_rfl) (e_callZ (co_divisor Z) takesB (hr.mono (by omega)) (gl_ (by kernel_rfl)) (a_cons (e_v 1 (by kernel_rfl)) (a_cons (e_callB call_pAbs (gl_ (by kernel_rfl)) (Z.free 5) PyProof.Rows.Boot.«abs» (a_cons (e_v 2 (by kernel_rfl)) a_nil)) a_nil)) rfl) rfl)))
  (ss_one (s_ret (e_v 1 (by kernel_rfl))))))
theorem sc_lowest : FnScope N_lowest ["top", "base"] (defScope st_lowest) := ⟨rfl, rfl, rfl, by decide +kernel, rfl, by decide +kernel, by decide +kernel⟩
theorem co_lowest (Z : ZF K mg base) : CO P w K mg base Tb "lowest" 2 ["top", "base"] g_lowest := by
  have S := sc_lowest
  exact Z.co 5 24 rfl rfl S (fun _ _ _ _ _ _ us hl => match us, hl with | [_, _], _ => by kernel_rfl) fun cdv A outer s H E hr => (ss_cons (s_setV 2 S.nd (by kernel_rfl) (e_callZ (co_divisor Z) takesB (hr.mono (by omega)) (gl_ (by kernel_rfl)) (a_cons (e_callB call_pAbs (gl_ (by kernel_rfl)) (Z.free 5) PyProof.Rows.Boot.«abs» (a_cons (e_v 0 (by kernel_rfl)) a_nil)) (a_cons (e_callB call_pAbs (gl_ (by kernel_rfl)) (Z.free 5) PyProof.Rows.Boot.«abs» (a_cons (e_v 1 (by kernel_rfl)) a_nil)) a_nil)) rfl) rfl)
  (ss_cons (s_setV 3 S.nd (by kernel_rfl) (e_if (t_cmp op_pGt (e_v 1 (by kernel_rfl)) e_int (nomark _)) e_int (e_neg e_int)) rfl)
  (ss_one (s_ret (e_tup (a_cons (e_bin op_pDiv (e_bin op_pMul (e_v 3 (by kernel_rfl)) (e_v 0 (by kernel_rfl))) (e_v 2 (by kernel_rfl))) (a_cons (e_bin op_pDiv (e_bin op_pMul (e_v 3 (by kernel_rfl)) (e_v 1 (by kernel_rfl))) (e_v 2 (by kernel_rfl))) a_nil)))))))
theorem sc_is_number : FnScope N_is_number ["value"] (defScope st_is_number) := ⟨rfl, rfl, rfl, by decide +kernel, rfl, by decide +kernel, by decide +kernel⟩
theorem co_is_number (Z : ZF K mg base) : CO P w K mg base Tb "is_number" 2 ["value"] g_is_number := by
  have S := sc_is_number
  exact Z.co 6 25 rfl rfl S (fun _ _ _ _ _ _ us hl => match us, hl with | [_], _ => by kernel_rfl) fun cdv A outer s H E hr => (ss_cons (s_if (PW.pt (t_or (t_not (t_tru (e_callZ (co_is_tuple Z) takesB (hr.mono (by omega)) (gl_ (by kernel_rfl)) (a_cons (e_v 0 (by kernel_rfl)) (a_cons e_int a_nil)) rfl) (fun _ => rfl))) (t_or (t_not (t_tru (e_callZ (co_is_integer Z) takesB (hr.mono (by omega)) (gl_ (by kernel_rfl)) (a_cons (e_ix (e_v 0 (by kernel_rfl)) e_int (fun _ _ => rfl)) a_nil) rfl) (fun _ => rfl))) (pw_or1 (t_not (t_tru (e_callZ (co_is_integer Z) takesB (hr.mono (by omega)) (gl_ (by kernel_rfl)) (a_cons (e_ix (e_v 0 (by kernel_rfl)) e_int (fun _ _ => rfl)) a_nil) rfl) (fun _ => rfl))))))) (ss_one (s_ret e_bl)) ss_nil)
  (ss_one (s_ret (e_and (e_cmp op_pGt (e_ix (e_v 0 (by kernel_rfl)) e_int (fun _ _ => rfl)) e_int (nomark _)) (pe_one (e_cmp (op_pEq hr.units) (e_callZ (co_divisor Z) takesB (hr.mono (by omega)) (gl_ (by kernel_rfl)) (a_cons (e_callB call_pAbs (gl_ (by kernel_rfl)) (Z.free 5) PyProof.Rows.Boot.«abs» (a_cons (e_ix (e_v 0 (by kernel_rfl)) e_int (fun _ _ => rfl)) a_nil)) (a_cons (e_ix (e_v 0 (by kernel_rfl)) e_int (fun _ _ => rfl)) a_nil)) rfl) e_int (nomark _)))))))
theorem sc_is_row : FnScope N_is_row ["value"] (defScope st_is_row) := ⟨rfl, rfl, rfl, by decide +kernel, rfl, by decide +kernel, by decide +kernel⟩
theorem co_is_row (Z : ZF K mg base) : CO P w K mg base Tb "is_row" 3 ["value"] g_is_row := by
  have S := sc_is_row
  exact Z.co 7 26 rfl rfl S (fun _ _ _ _ _ _ us hl => match us, hl with | [_], _ => by kernel_rfl) fun cdv A outer s H E hr => (ss_one (s_ret (e_and (e_isi1 (t := .ty "tuple") (xc Z) (isi_2 Z) (gl_ (by kernel_rfl)) (Z.free 0) (e_v 0 (by kernel_rfl)) (n_ty (gl_ (by kernel_rfl)) (Z.free 3) PyProof.Rows.Boot.«tuple»)) (pe_one (e_callB (call_pAll rfl) (gl_ (by kernel_rfl)) (Z.free 6) PyProof.Rows.Boot.«all» (a_cons (e_lock (i := 0) (e_lc (own := [(("item" : Str), 1)]) rfl S.nd (i_seqK (e_v 0 (by kernel_rfl))) (blk_of (by kernel_rfl)) (fun _ _ _ _ _ => (g_nameV 1 S.nd (by kernel_rfl) (by first | exact .inl rfl | exact .inr rfl))) (fun _ _ _ _ _ => ts_nil) (fun _ _ _ _ _ => (e_callZ (co_is_number Z) takesN (hr.mono (by omega)) (gl_ (by kernel_rfl)) (a_cons (e_v 1 (by kernel_rfl)) a_nil) rfl)))) a_nil))))))
theorem sc_is_row_of : FnScope N_is_row_of ["value", "count"] (defScope st_is_row_of) := ⟨rfl, rfl, rfl, by decide +kernel, rfl, by decide +kernel, by decide +kernel⟩
theorem co_is_row_of (Z : ZF K mg base) : CO P w K mg base Tb "is_row_of" 4 ["value", "count"] g_is_row_of := by
  have S := sc_is_row_of
  exact Z.co 8 27 rfl rfl S (fun _ _ _ _ _ _ us hl => match us, hl with | [_, _], _ => by kernel_rfl) fun cdv A outer s H E hr => (ss_one (s_ret (e_and (e_callZ (co_is_row Z) takesB (hr.mono (by omega)) (gl_ (by kernel_rfl)) (a_cons (e_v 0 (by kernel_rfl)) a_nil) rfl) (pe_one (e_cmp (op_pEq hr.units) (e_callB call_pLen (gl_ (by kernel_rfl)) (Z.free 4) PyProof.Rows.Boot.«len» (a_cons (e_v 0 (by kernel_rfl)) a_nil)) (e_v 1 (by kernel_rfl)) (nomark _))))))
theorem sc_sum_of : FnScope N_sum_of ["one", "other"] (defScope st_sum_of) := ⟨rfl, rfl, rfl, by decide +kernel, rfl, by decide +kernel, by decide +kernel⟩
theorem co_sum_of (Z : ZF K mg base) : CO P w K mg base Tb "sum_of" 3 ["one", "other"] g_sum_of := by
  have S := sc_sum_of
  exact Z.co 9 28 rfl rfl S (fun _ _ _ _ _ _ us hl => match us, hl with | [_, _], _ => by kernel_rfl) fun cdv A outer s H E hr => (ss_one (s_ret (e_callZ (co_lowest Z) takesB (hr.mono (by omega)) (gl_ (by kernel_rfl)) (a_cons (e_bin op_pAdd (e_bin op_pMul (e_ix (e_v 0 (by kernel_rfl)) e_int (fun _ _ => rfl)) (e_ix (e_v 1 (by kernel_rfl)) e_int (fun _ _ => rfl))) (e_bin op_pMul (e_ix (e_v 1 (by kernel_rfl)) e_int (fun _ _ => rfl)) (e_ix (e_v 0 (by kernel_rfl)) e_int (fun _ _ => rfl)))) (a_cons (e_bin op_pMul (e_ix (e_v 0 (by kernel_rfl)) e_int (fun _ _ => rfl)) (e_ix (e_v 1 (by kernel_rfl)) e_int (fun _ _ => rfl))) a_nil)) rfl)))
theorem sc_product_of : FnScope N_product_of ["one", "other"] (defScope st_product_of) := ⟨rfl, rfl, rfl, by decide +kernel, rfl, by decide +kernel, by decide +kernel⟩
theorem co_product_of (Z : ZF K mg base) : CO P w K mg base Tb "product_of" 3 ["one", "other"] g_product_of := by
  have S := sc_product_of
  exact Z.co 10 29 rfl rfl S (fun _ _ _ _ _ _ us hl => match us, hl with | [_, _], _ => by kernel_rfl) fun cdv A outer s H E hr => (ss_one (s_ret (e_callZ (co_lowest Z) takesB (hr.mono (by omega)) (gl_ (by kernel_rfl)) (a_cons (e_bin op_pMul (e_ix (e_v 0 (by kernel_rfl)) e_int (fun _ _ => rfl)) (e_ix (e_v 1 (by kernel_rfl)) e_int (fun _ _ => rfl))) (a_cons (e_bin op_pMul (e_ix (e_v 0 (by kernel_rfl)) e_int (fun _ _ => rfl)) (e_ix (e_v 1 (by kernel_rfl)) e_int (fun _ _ => rfl))) a_nil)) rfl)))
theorem sc_is_told : FnScope N_is_told ["value", "count"] (defScope st_is_told) := ⟨rfl, rfl, rfl, by decide +kernel, rfl, by decide +kernel, by decide +kernel⟩
theorem co_is_told (Z : ZF K mg base) : CO P w K mg base Tb "is_told" 2 ["value", "count"] g_is_told := by
  have S := sc_is_told
  exact Z.co 11 30 rfl rfl S (fun _ _ _ _ _ _ us hl => match us, hl with | [_, _], _ => by kernel_rfl) fun cdv A outer s H E hr => (ss_cons (s_if (PW.pt (t_or (t_not (t_tru (e_callZ (co_is_tuple Z) takesB (hr.mono (by omega)) (gl_ (by kernel_rfl)) (a_cons (e_v 0 (by kernel_rfl)) (a_cons (e_bin op_pAdd (e_v 1 (by kernel_rfl)) e_int) a_nil)) rfl) (fun _ => rfl))) (pw_or1 (t_not (t_tru (e_callB (call_pAll rfl) (gl_ (by kernel_rfl)) (Z.free 6) PyProof.Rows.Boot.«all» (a_cons (e_lock (i := 0) (e_lc (own := [(("item" : Str), 2)]) rfl S.nd (i_seqK (e_v 0 (by kernel_rfl))) (blk_of (by kernel_rfl)) (fun _ _ _ _ _ => (g_nameV 2 S.nd (by kernel_rfl) (by first | exact .inl rfl | exact .inr rfl))) (fun _ _ _ _ _ => ts_nil) (fun _ _ _ _ _ => (e_callZ (co_is_integer Z) takesN (hr.mono (by omega)) (gl_ (by kernel_rfl)) (a_cons (e_v 2 (by kernel_rfl)) a_nil) rfl)))) a_nil)) (fun _ => rfl)))))) (ss_one (s_ret e_bl)) ss_nil)
  (ss_one (s_ret (e_callB (call_pAny rfl) (gl_ (by kernel_rfl)) (Z.free 7) PyProof.Rows.Boot.«any» (a_cons (e_lock (i := 0) (e_lc (own := [(("item" : Str), 2)]) rfl S.nd (i_seqK (e_v 0 (by kernel_rfl))) (blk_of (by kernel_rfl)) (fun _ _ _ _ _ => (g_nameV 2 S.nd (by kernel_rfl) (by first | exact .inl rfl | exact .inr rfl))) (fun _ _ _ _ _ => ts_nil) (fun _ _ _ _ _ => (e_cmp (op_pNe hr.units) (e_v 2 (by kernel_rfl)) e_int (nomark _))))) a_nil)))))
theorem sc_are_rows_of : FnScope N_are_rows_of ["value", "count"] (defScope st_are_rows_of) := ⟨rfl, rfl, rfl, by decide +kernel, rfl, by decide +kernel, by decide +kernel⟩
theorem co_are_rows_of (Z : ZF K mg base) : CO P w K mg base Tb "are_rows_of" 3 ["value", "count"] g_are_rows_of := by
  have S := sc_are_rows_of
  exact Z.co 12 31 rfl rfl S (fun _ _ _ _ _ _ us hl => match us, hl with | [_, _], _ => by kernel_rfl) fun cdv A outer s H E hr => (ss_cons (s_if (PW.pt (t_or (t_not (t_tru (e_isi1 (t := .ty "tuple") (xc Z) (isi_2 Z) (gl_ (by kernel_rfl)) (Z.free 0) (e_v 0 (by kernel_rfl)) (n_ty (gl_ (by kernel_rfl)) (Z.free 3) PyProof.Rows.Boot.«tuple»)) (fun _ => rfl))) (pw_or1 (t_cmp op_pGt (e_callB call_pLen (gl_ (by kernel_rfl)) (Z.free 4) PyProof.Rows.Boot.«len» (a_cons (e_v 0 (by kernel_rfl)) a_nil)) (e_con (gl_ (by kernel_rfl)) (con_MOST_ROWS Z)) (nomark _))))) (ss_one (s_ret e_bl)) ss_nil)
  (ss_one (s_ret (e_callB (call_pAll rfl) (gl_ (by kernel_rfl)) (Z.free 6) PyProof.Rows.Boot.«all» (a_cons (e_lock (i := 0) (e_lc (own := [(("item" : Str), 2)]) rfl S.nd (i_seqK (e_v 0 (by kernel_rfl))) (blk_of (by kernel_rfl)) (fun _ _ _ _ _ => (g_nameV 2 S.nd (by kernel_rfl) (by first | exact .inl rfl | exact .inr rfl))) (fun _ _ _ _ _ => ts_nil) (fun _ _ _ _ _ => (e_callZ (co_is_told Z) takesN (hr.mono (by omega)) (gl_ (by kernel_rfl)) (a_cons (e_v 2 (by kernel_rfl)) (a_cons (e_v 1 (by kernel_rfl)) a_nil)) rfl)))) a_nil)))))
theorem sc_is_system : FnScope N_is_system ["value"] (defScope st_is_system) := ⟨rfl, rfl, rfl, by decide +kernel, rfl, by decide +kernel, by decide +kernel⟩
theorem co_is_system (Z : ZF K mg base) : CO P w K mg base Tb "is_system" 4 ["value"] g_is_system := by
  have S := sc_is_system
  exact Z.co 13 32 rfl rfl S (fun _ _ _ _ _ _ us hl => match us, hl with | [_], _ => by kernel_rfl) fun cdv A outer s H E hr => (ss_cons (s_if (PW.pt (t_or (t_not (t_tru (e_callZ (co_is_tuple Z) takesB (hr.mono (by omega)) (gl_ (by kernel_rfl)) (a_cons (e_v 0 (by kernel_rfl)) (a_cons e_int a_nil)) rfl) (fun _ => rfl))) (pw_or1 (t_not (t_tru (e_callZ (co_is_between Z) takesB (hr.mono (by omega)) (gl_ (by kernel_rfl)) (a_cons (e_ix (e_v 0 (by kernel_rfl)) e_int (fun _ _ => rfl)) (a_cons e_int (a_cons (e_con (gl_ (by kernel_rfl)) (con_MOST_PLACES Z)) a_nil))) rfl) (fun _ => rfl)))))) (ss_one (s_ret e_bl)) ss_nil)
  (ss_one (s_ret (e_and (e_callZ (co_are_rows_of Z) takesB (hr.mono (by omega)) (gl_ (by kernel_rfl)) (a_cons (e_ix (e_v 0 (by kernel_rfl)) e_int (fun _ _ => rfl)) (a_cons (e_ix (e_v 0 (by kernel_rfl)) e_int (fun _ _ => rfl)) a_nil)) rfl) (pe_one (e_callZ (co_are_rows_of Z) takesB (hr.mono (by omega)) (gl_ (by kernel_rfl)) (a_cons (e_ix (e_v 0 (by kernel_rfl)) e_int (fun _ _ => rfl)) (a_cons (e_ix (e_v 0 (by kernel_rfl)) e_int (fun _ _ => rfl)) a_nil)) rfl))))))
theorem sc_check_system : FnScope N_check_system ["system"] (defScope st_check_system) := ⟨rfl, rfl, rfl, by decide +kernel, rfl, by decide +kernel, by decide +kernel⟩
theorem co_check_system (Z : ZF K mg base) : CO P w K mg base Tb "check_system" 5 ["system"] g_check_system := by
  have S := sc_check_system
  exact Z.co 14 33 rfl rfl S (fun _ _ _ _ _ _ us hl => match us, hl with | [_], _ => by kernel_rfl) fun cdv A outer s H E hr => (ss_one (s_if (t_not (t_tru (e_callZ (co_is_system Z) takesB (hr.mono (by omega)) (gl_ (by kernel_rfl)) (a_cons (e_v 0 (by kernel_rfl)) a_nil) rfl) (fun _ => rfl))) (ss_one (s_raise rfl takesB (mk_2 Z) (hr.mono (by omega)) (gl_ (by kernel_rfl)) (Z.glo 8) (n := 0) rfl (by decide) (a_cons (e_v 0 (by kernel_rfl)) a_nil))) ss_nil))
theorem sc_value_at : FnScope N_value_at ["told", "row"] (defScope st_value_at) := ⟨rfl, rfl, rfl, by decide +kernel, rfl, by decide +kernel, by decide +kernel⟩
theorem co_value_at (Z : ZF K mg base) : CO P w K mg base Tb "value_at" 4 ["told", "row"] g_value_at := by
  have S := sc_value_at
  exact Z.co 15 34 rfl rfl S (fun _ _ _ _ _ _ us hl => match us, hl with | [_, _], _ => by kernel_rfl) fun cdv A outer s H E hr => (ss_cons (s_setV 2 S.nd (by kernel_rfl) (e_tup (a_cons (e_ix (e_v 0 (by kernel_rfl)) (e_neg e_int) (fun _ _ => rfl)) (a_cons e_int a_nil))) rfl)
  (ss_cons (s_for passB rfl (i_zip (gl_ (by kernel_rfl)) (Z.free 9) (a_cons (e_v 0 (by kernel_rfl)) (a_cons (e_v 1 (by kernel_rfl)) a_nil))) (g_tupZ rfl (gs_cons (g_nameV 3 S.nd (by kernel_rfl) (.inl rfl)) (gs_cons (g_nameV 4 S.nd (by kernel_rfl) (.inl rfl)) gs_nil))) (ss_one (s_setV 2 S.nd (by kernel_rfl) (e_callZ (co_sum_of Z) takesB (hr.mono (by omega)) (gl_ (by kernel_rfl)) (a_cons (e_v 2 (by kernel_rfl)) (a_cons (e_callZ (co_product_of Z) takesB (hr.mono (by omega)) (gl_ (by kernel_rfl)) (a_cons (e_tup (a_cons (e_v 3 (by kernel_rfl)) (a_cons e_int a_nil))) (a_cons (e_v 4 (by kernel_rfl)) a_nil)) rfl) a_nil)) rfl) rfl)))
  (ss_one (s_ret (e_v 2 (by kernel_rfl))))))
theorem sc_holds_in : FnScope N_holds_in ["system", "row"] (defScope st_holds_in) := ⟨rfl, rfl, rfl, by decide +kernel, rfl, by decide +kernel, by decide +kernel⟩
theorem co_holds_in (Z : ZF K mg base) : CO P w K mg base Tb "holds_in" 5 ["system", "row"] g_holds_in := by
  have S := sc_holds_in
  exact Z.co 16 35 rfl rfl S (fun _ _ _ _ _ _ us hl => match us, hl with | [_, _], _ => by kernel_rfl) fun cdv A outer s H E hr => (ss_cons (s_if (t_tru (e_callB (call_pAny rfl) (gl_ (by kernel_rfl)) (Z.free 7) PyProof.Rows.Boot.«any» (a_cons (e_lc (own := [(("told" : Str), 2)]) rfl S.nd (i_seq (e_ix (e_v 0 (by kernel_rfl)) e_int (fun _ _ => rfl))) (blk_of (by kernel_rfl)) (fun _ _ _ _ _ => (g_nameV 2 S.nd (by kernel_rfl) (by first | exact .inl rfl | exact .inr rfl))) (fun _ _ _ _ _ => ts_nil) (fun _ _ _ _ _ => (e_cmp (op_pNe hr.units) (e_ix (e_callZ (co_value_at Z) takesN (hr.mono (by omega)) (gl_ (by kernel_rfl)) (a_cons (e_v 2 (by kernel_rfl)) (a_cons (e_v 1 (by kernel_rfl)) a_nil)) rfl) e_int (fun _ _ => rfl)) e_int (nomark _)))) a_nil)) (fun _ => rfl)) (ss_one (s_ret e_bl)) ss_nil)
  (ss_one (s_ret (e_callB (call_pAll rfl) (gl_ (by kernel_rfl)) (Z.free 6) PyProof.Rows.Boot.«all» (a_cons (e_lc (own := [(("told" : Str), 2)]) rfl S.nd (i_seq (e_ix (e_v 0 (by kernel_rfl)) e_int (fun _ _ => rfl))) (blk_of (by kernel_rfl)) (fun _ _ _ _ _ => (g_nameV 2 S.nd (by kernel_rfl) (by first | exact .inl rfl | exact .inr rfl))) (fun _ _ _ _ _ => ts_nil) (fun _ _ _ _ _ => (e_cmp op_pGe (e_ix (e_callZ (co_value_at Z) takesN (hr.mono (by omega)) (gl_ (by kernel_rfl)) (a_cons (e_v 2 (by kernel_rfl)) (a_cons (e_v 1 (by kernel_rfl)) a_nil)) rfl) e_int (fun _ _ => rfl)) e_int (nomark _)))) a_nil)))))
theorem sc_holds_at : FnScope N_holds_at ["system", "row"] (defScope st_holds_at) := ⟨rfl, rfl, rfl, by decide +kernel, rfl, by decide +kernel, by decide +kernel⟩
theorem co_holds_at (Z : ZF K mg base) : CO P w K mg base Tb "holds_at" 6 ["system", "row"] g_holds_at := by
  have S := sc_holds_at
  exact Z.co 17 36 rfl rfl S (fun _ _ _ _ _ _ us hl => match us, hl with | [_, _], _ => by kernel_rfl) fun cdv A outer s H E hr => (ss_cons (s_expr (e_callZ (co_check_system Z) takesB (hr.mono (by omega)) (gl_ (by kernel_rfl)) (a_cons (e_v 0 (by kernel_rfl)) a_nil) rfl))
  (ss_cons (s_if (t_not (t_tru (e_callZ (co_is_row_of Z) takesB (hr.mono (by omega)) (gl_ (by kernel_rfl)) (a_cons (e_v 1 (by kernel_rfl)) (a_cons (e_ix (e_v 0 (by kernel_rfl)) e_int (fun _ _ => rfl)) a_nil)) rfl) (fun _ => rfl))) (ss_one (s_raise rfl takesB (mk_1 Z) (hr.mono (by omega)) (gl_ (by kernel_rfl)) (Z.glo 10) (n := 0) rfl (by decide) (a_cons (e_v 1 (by kernel_rfl)) a_nil))) ss_nil)
  (ss_one (s_ret (e_callZ (co_holds_in Z) takesB (hr.mono (by omega)) (gl_ (by kernel_rfl)) (a_cons (e_v 0 (by kernel_rfl)) (a_cons (e_v 1 (by kernel_rfl)) a_nil)) rfl)))))
theorem sc_tidy_in : FnScope N_tidy_in ["told", "is_equation"] (defScope st_tidy_in) := ⟨rfl, rfl, rfl, by decide +kernel, rfl, by decide +kernel, by decide +kernel⟩
theorem co_tidy_in (Z : ZF K mg base) : CO P w K mg base Tb "tidy_in" 3 ["told", "is_equation"] g_tidy_in := by
  have S := sc_tidy_in
  exact Z.co 18 37 rfl rfl S (fun _ _ _ _ _ _ us hl => match us, hl with | [_, _], _ => by kernel_rfl) fun cdv A outer s H E hr => (ss_cons (s_setV 2 S.nd (by kernel_rfl) (e_ix (e_lock (i := 0) (e_lc (own := [(("item" : Str), 4)]) rfl S.nd (i_seqK (e_v 0 (by kernel_rfl))) (blk_of (by kernel_rfl)) (fun _ _ _ _ _ => (g_nameV 4 S.nd (by kernel_rfl) (by first | exact .inl rfl | exact .inr rfl))) (fun _ _ _ _ _ => (ts_one (t_cmp (op_pNe hr.units) (e_v 4 (by kernel_rfl)) e_int (nomark _)))) (fun _ _ _ _ _ => (e_v 4 (by kernel_rfl))))) e_int (fun _ _ => rfl)) rfl)
  (ss_cons (s_setV 3 S.nd (by kernel_rfl) (e_if (PW.pt (t_and (t_tru (e_v 1 (by kernel_rfl)) (fun _ => rfl)) (pw_and1 (t_cmp op_pLt (e_v 2 (by kernel_rfl)) e_int (nomark _))))) (e_neg (e_callZ (co_divisor_of Z) takesB (hr.mono (by omega)) (gl_ (by kernel_rfl)) (a_cons (e_v 0 (by kernel_rfl)) a_nil) rfl)) (e_callZ (co_divisor_of Z) takesB (hr.mono (by omega)) (gl_ (by kernel_rfl)) (a_cons (e_v 0 (by kernel_rfl)) a_nil) rfl)) rfl)
  (ss_one (s_ret (e_callTy call_pTuple (gl_ (by kernel_rfl)) (Z.free 3) PyProof.Rows.Boot.«tuple» (a_cons (e_lock (i := 0) (e_lc (own := [(("item" : Str), 4)]) rfl S.nd (i_seqK (e_v 0 (by kernel_rfl))) (blk_of (by kernel_rfl)) (fun _ _ _ _ _ => (g_nameV 4 S.nd (by kernel_rfl) (by first | exact .inl rfl | exact .inr rfl))) (fun _ _ _ _ _ => ts_nil) (fun _ _ _ _ _ => (e_bin op_pDivN (e_v 4 (by kernel_rfl)) (e_v 3 (by kernel_rfl)))))) a_nil))))))
theorem sc_check_told : FnScope N_check_told ["row"] (defScope st_check_told) := ⟨rfl, rfl, rfl, by decide +kernel, rfl, by decide +kernel, by decide +kernel⟩
theorem co_check_told (Z : ZF K mg base) : CO P w K mg base Tb "check_told" 3 ["row"] g_check_told := by
  have S := sc_check_told
  exact Z.co 19 38 rfl rfl S (fun _ _ _ _ _ _ us hl => match us, hl with | [_], _ => by kernel_rfl) fun cdv A outer s H E hr => (ss_one (s_if (PW.pt (t_or (t_not (t_tru (e_isi1 (t := .ty "tuple") (xc Z) (isi_2 Z) (gl_ (by kernel_rfl)) (Z.free 0) (e_v 0 (by kernel_rfl)) (n_ty (gl_ (by kernel_rfl)) (Z.free 3) PyProof.Rows.Boot.«tuple»)) (fun _ => rfl))) (pw_or1 (t_not (t_tru (e_callZ (co_is_told Z) takesB (hr.mono (by omega)) (gl_ (by kernel_rfl)) (a_cons (e_v 0 (by kernel_rfl)) (a_cons (e_bin op_pSub (e_callB call_pLen (gl_ (by kernel_rfl)) (Z.free 4) PyProof.Rows.Boot.«len» (a_cons (e_v 0 (by kernel_rfl)) a_nil)) e_int) a_nil)) rfl) (fun _ => rfl)))))) (ss_one (s_raise rfl takesB (mk_3 Z) (hr.mono (by omega)) (gl_ (by kernel_rfl)) (Z.glo 11) (n := 0) rfl (by decide) (a_cons (e_v 0 (by kernel_rfl)) a_nil))) ss_nil))
theorem sc_tidy : FnScope N_tidy ["row"] (defScope st_tidy) := ⟨rfl, rfl, rfl, by decide +kernel, rfl, by decide +kernel, by decide +kernel⟩
theorem co_tidy (Z : ZF K mg base) : CO P w K mg base Tb "tidy" 4 ["row"] g_tidy := by
  have S := sc_tidy
  exact Z.co 20 39 rfl rfl S (fun _ _ _ _ _ _ us hl => match us, hl with | [_], _ => by kernel_rfl) fun cdv A outer s H E hr => (ss_cons (s_expr (e_callZ (co_check_told Z) takesB (hr.mono (by omega)) (gl_ (by kernel_rfl)) (a_cons (e_v 0 (by kernel_rfl)) a_nil) rfl))
  (ss_one (s_ret (e_callZ (co_tidy_in Z) takesB (hr.mono (by omega)) (gl_ (by kernel_rfl)) (a_cons (e_v 0 (by kernel_rfl)) (a_cons e_bl a_nil)) rfl))))
theorem sc_tidy_equation : FnScope N_tidy_equation ["row"] (defScope st_tidy_equation) := ⟨rfl, rfl, rfl, by decide +kernel, rfl, by decide +kernel, by decide +kernel⟩
theorem co_tidy_equation (Z : ZF K mg base) : CO P w K mg base Tb "tidy_equation" 4 ["row"] g_tidy_equation := by
  have S := sc_tidy_equation
  exact Z.co 21 40 rfl rfl S (fun _ _ _ _ _ _ us hl => match us, hl with | [_], _ => by kernel_rfl) fun cdv A outer s H E hr => (ss_cons (s_expr (e_callZ (co_check_told Z) takesB (hr.mono (by omega)) (gl_ (by kernel_rfl)) (a_cons (e_v 0 (by kernel_rfl)) a_nil) rfl))
  (ss_one (s_ret (e_callZ (co_tidy_in Z) takesB (hr.mono (by omega)) (gl_ (by kernel_rfl)) (a_cons (e_v 0 (by kernel_rfl)) (a_cons e_bl a_nil)) rfl))))
theorem sc__law_cell : FnScope N__law_cell ["script", "k"] (defScope st__law_cell) := ⟨rfl, rfl, rfl, by decide +kernel, rfl, by decide +kernel, by decide +kernel⟩
theorem co__law_cell (Z : ZF K mg base) : CO P w K mg base Tb "_law_cell" 1 ["script", "k"] g__law_cell := by
  have S := sc__law_cell
  exact Z.co 22 41 rfl rfl S (fun _ _ _ _ _ _ us hl => match us, hl with | [_, _], _ => by kernel_rfl) fun cdv A outer s H E hr => (ss_one (s_ret (e_if (t_cmp op_pLt (e_v 1 (by kernel_rfl)) (e_callB call_pLen (gl_ (by kernel_rfl)) (Z.free 4) PyProof.Rows.Boot.«len» (a_cons (e_v 0 (by kernel_rfl)) a_nil)) (nomark _)) (e_ix (e_v 0 (by kernel_rfl)) (e_v 1 (by kernel_rfl)) (fun _ _ => rfl)) (e_bin op_pAdd (e_bin op_pMul e_int (e_v 1 (by kernel_rfl))) (e_bin op_pMod (e_callTy call_pInt (gl_ (by kernel_rfl)) (Z.free 1) PyProof.Rows.Boot.«int» (a_cons (e_callB (call_pSum rfl) (gl_ (by kernel_rfl)) (Z.free 12) PyProof.Rows.Boot.«sum» (a_cons (e_sl (e_v 0 (by kernel_rfl)) o_none (o_some e_int)) a_nil)) a_nil)) e_int)))))
theorem sc__law_box : FnScope N__law_box ["great"] (defScope st__law_box) := ⟨rfl, rfl, rfl, by decide +kernel, rfl, by decide +kernel, by decide +kernel⟩
theorem co__law_box (Z : ZF K mg base) : CO P w K mg base Tb "_law_box" 1 ["great"] g__law_box := by
  have S := sc__law_box
  exact Z.co 23 42 rfl rfl S (fun _ _ _ _ _ _ us hl => match us, hl with | [_], _ => by kernel_rfl) fun cdv A outer s H E hr => (ss_one (s_ret (e_lst (a_cons (e_callB call_pAbs (gl_ (by kernel_rfl)) (Z.free 5) PyProof.Rows.Boot.«abs» (a_cons (e_v 0 (by kernel_rfl)) a_nil)) (a_cons (e_cmp op_pGe (e_callB call_pAbs (gl_ (by kernel_rfl)) (Z.free 5) PyProof.Rows.Boot.«abs» (a_cons (e_v 0 (by kernel_rfl)) a_nil)) (e_bin op_pPow e_int e_int) (nomark _)) (a_cons (e_bin op_pMod (e_callTy call_pInt (gl_ (by kernel_rfl)) (Z.free 1) PyProof.Rows.Boot.«int» (a_cons (e_callB call_pAbs (gl_ (by kernel_rfl)) (Z.free 5) PyProof.Rows.Boot.«abs» (a_cons (e_v 0 (by kernel_rfl)) a_nil)) a_nil)) e_int) (a_cons e_int a_nil)))))))
theorem sc__law_take : FnScope N__law_take ["box", "many"] (defScope st__law_take) := ⟨rfl, rfl, rfl, by decide +kernel, rfl, by decide +kernel, by decide +kernel⟩
theorem co__law_take (Z : ZF K mg base) : CO P w K mg base Tb "_law_take" 1 ["box", "many"] g__law_take := by
  have S := sc__law_take
  exact Z.co 24 43 rfl rfl S (fun _ _ _ _ _ _ us hl => match us, hl with | [_, _], _ => by kernel_rfl) fun cdv A outer s H E hr => (ss_cons (s_if (PW.pt (t_and (t_tru (e_ix (e_v 0 (by kernel_rfl)) e_int (fun _ _ => rfl)) (fun _ => rfl)) (pw_and1 (t_cmp op_pGt (e_ix (e_v 0 (by kernel_rfl)) e_int (fun _ _ => rfl)) e_int (nomark _))))) (ss_cons (s_setV 3 S.nd (by kernel_rfl) (e_bin op_pMod (e_callTy call_pInt (gl_ (by kernel_rfl)) (Z.free 1) PyProof.Rows.Boot.«int» (a_cons (e_ix (e_v 0 (by kernel_rfl)) e_int (fun _ _ => rfl)) a_nil)) (e_v 1 (by kernel_rfl))) rfl)
  (ss_cons (s_asg (e_bin op_pDiv (e_ix (e_v 0 (by kernel_rfl)) e_int (fun _ _ => rfl)) (e_v 1 (by kernel_rfl))) (g_sub (W := WN) (e_v 0 (by kernel_rfl)) e_int))
  (ss_one (s_ret (e_v 3 (by kernel_rfl)))))) ss_nil)
  (ss_cons (s_asg (e_bin op_pAdd (e_ix (e_v 0 (by kernel_rfl)) e_int (fun _ _ => rfl)) e_int) (g_sub (W := WN) (e_v 0 (by kernel_rfl)) e_int))
  (ss_cons (s_setV 2 S.nd (by kernel_rfl) (e_bin op_pMod (e_callTy call_pInt (gl_ (by kernel_rfl)) (Z.free 1) PyProof.Rows.Boot.«int» (a_cons (e_bin op_pPow (e_bin op_pAdd (e_bin op_pAdd (e_ix (e_v 0 (by kernel_rfl)) e_int (fun _ _ => rfl)) (e_bin op_pMul e_int (e_ix (e_v 0 (by kernel_rfl)) e_int (fun _ _ => rfl)))) e_int) e_int) a_nil)) e_int) rfl)
  (ss_one (s_ret (e_bin op_pMod (e_callTy call_pInt (gl_ (by kernel_rfl)) (Z.free 1) PyProof.Rows.Boot.«int» (a_cons (e_bin op_pDiv (e_bin op_pMod (e_callTy call_pInt (gl_ (by kernel_rfl)) (Z.free 1) PyProof.Rows.Boot.«int» (a_cons (e_bin op_pPow (e_bin op_pAdd (e_bin op_pMul (e_v 2 (by kernel_rfl)) e_int) (e_bin op_pMul e_int (e_ix (e_v 0 (by kernel_rfl)) e_int (fun _ _ => rfl)))) e_int) a_nil)) e_int) e_int) a_nil)) (e_v 1 (by kernel_rfl))))))))
theorem sc__law_same : FnScope N__law_same ["told", "due"] (defScope st__law_same) := ⟨rfl, rfl, rfl, by decide +kernel, rfl, by decide +kernel, by decide +kernel⟩
theorem co__law_same (Z : ZF K mg base) : ∀ n, CO P w K mg base Tb "_law_same" (1 + n) ["told", "due"] (g__law_same n)
  | 0 => ⟨⟨fun vs H Q E ⟨ds, ρ, S, _, _, h⟩ => h.elim, fun A outer s H args us vs Q E _ _ _ _ ⟨ds, ρ, S, _, _, h⟩ => h.elim⟩, Z.glo 44, (Z.fun_ 25 (p := ("_law_same", none)) (qual := "_law_same") (st := st__law_same) rfl).kp, (Z.fun_ 25 (p := ("_law_same", none)) (qual := "_law_same") (st := st__law_same) rfl).bindsN (fun _ _ _ _ _ _ us hl => match us, hl with | [_, _], _ => by kernel_rfl)⟩
  | n + 1 => by
    have S := sc__law_same
    have IH := co__law_same Z n
    exact Z.co 25 44 rfl rfl S (fun _ _ _ _ _ _ us hl => match us, hl with | [_, _], _ => by kernel_rfl) fun cdv A outer s H E hr => (ss_cons (s_if (PW.pt (t_or (t_cmp op_pIs (e_v 1 (by kernel_rfl)) e_non (nomark _)) (pw_or1 (t_tru (e_isi1 (t := .ty "bool") (xc Z) (isi_1 Z) (gl_ (by kernel_rfl)) (Z.free 0) (e_v 1 (by kernel_rfl)) (n_ty (gl_ (by kernel_rfl)) (Z.free 2) PyProof.Rows.Boot.«bool»)) (fun _ => rfl))))) (ss_one (s_ret (e_if (t_cmp op_pIs (e_v 1 (by kernel_rfl)) e_non (nomark _)) (e_cmp op_pIs (e_v 0 (by kernel_rfl)) e_non (nomark _)) (e_and (e_isi1 (t := .ty "bool") (xc Z) (isi_1 Z) (gl_ (by kernel_rfl)) (Z.free 0) (e_v 0 (by kernel_rfl)) (n_ty (gl_ (by kernel_rfl)) (Z.free 2) PyProof.Rows.Boot.«bool»)) (pe_one (e_cmp (op_pEq hr.units) (e_cmp op_pIs (e_v 0 (by kernel_rfl)) e_bl (nomark _)) (e_cmp op_pIs (e_v 1 (by kernel_rfl)) e_bl (nomark _)) (nomark _))))))) ss_nil)
  (ss_cons (s_if (t_tru (e_isi1 (t := .ty "int") (xc Z) (isi_0 Z) (gl_ (by kernel_rfl)) (Z.free 0) (e_v 1 (by kernel_rfl)) (n_ty (gl_ (by kernel_rfl)) (Z.free 1) PyProof.Rows.Boot.«int»)) (fun _ => rfl)) (ss_one (s_ret (e_and (e_isi1 (t := .ty "int") (xc Z) (isi_0 Z) (gl_ (by kernel_rfl)) (Z.free 0) (e_v 0 (by kernel_rfl)) (n_ty (gl_ (by kernel_rfl)) (Z.free 1) PyProof.Rows.Boot.«int»)) (e_and (e_not (e_isi1 (t := .ty "bool") (xc Z) (isi_1 Z) (gl_ (by kernel_rfl)) (Z.free 0) (e_v 0 (by kernel_rfl)) (n_ty (gl_ (by kernel_rfl)) (Z.free 2) PyProof.Rows.Boot.«bool»))) (pe_one (e_cmp (op_pEq hr.units) (e_v 0 (by kernel_rfl)) (e_v 1 (by kernel_rfl)) (nomark _))))))) ss_nil)
  (ss_cons (s_if (t_tru (e_isi1 (t := .ty "str") (xc Z) (isi_3 Z) (gl_ (by kernel_rfl)) (Z.free 0) (e_v 1 (by kernel_rfl)) (n_ty (gl_ (by kernel_rfl)) (Z.free 13) PyProof.Rows.Boot.«str»)) (fun _ => rfl)) (ss_one (s_ret (e_and (e_isi1 (t := .ty "str") (xc Z) (isi_3 Z) (gl_ (by kernel_rfl)) (Z.free 0) (e_v 0 (by kernel_rfl)) (n_ty (gl_ (by kernel_rfl)) (Z.free 13) PyProof.Rows.Boot.«str»)) (pe_one (e_cmp (op_pEq hr.units) (e_v 0 (by kernel_rfl)) (e_v 1 (by kernel_rfl)) (nomark _)))))) ss_nil)
  (ss_cons (s_if (t_tru (e_isi1 (t := .ty "dict") (xc Z) (isi_4 Z) (gl_ (by kernel_rfl)) (Z.free 0) (e_v 1 (by kernel_rfl)) (n_ty (gl_ (by kernel_rfl)) (Z.free 14) PyProof.Rows.Boot.«dict»)) (fun _ => rfl)) (ss_cons (s_if (PW.pt (t_or (t_not (t_tru (e_isi1 (t := .ty "dict") (xc Z) (isi_4 Z) (gl_ (by kernel_rfl)) (Z.free 0) (e_v 0 (by kernel_rfl)) (n_ty (gl_ (by kernel_rfl)) (Z.free 14) PyProof.Rows.Boot.«dict»)) (fun _ => rfl))) (pw_or1 (t_cmp (op_pNe hr.units) (e_callB call_pLen (gl_ (by kernel_rfl)) (Z.free 4) PyProof.Rows.Boot.«len» (a_cons (e_v 0 (by kernel_rfl)) a_nil)) (e_callB call_pLen (gl_ (by kernel_rfl)) (Z.free 4) PyProof.Rows.Boot.«len» (a_cons (e_v 1 (by kernel_rfl)) a_nil)) (nomark _))))) (ss_one (s_ret e_bl)) ss_nil)
  (ss_one (s_ret (e_cmp (op_pEq hr.units) (e_lock (i := 1) (e_lc (own := [(("key" : Str), 2)]) rfl S.nd (i_seqK (e_v 1 (by kernel_rfl))) (blk_of (by kernel_rfl)) (fun _ _ _ _ _ => (g_nameV 2 S.nd (by kernel_rfl) (by first | exact .inl rfl | exact .inr rfl))) (fun _ _ _ _ _ => (ts_one (PW.pt (t_or (t_cmp (op_pIn (neg := true) rfl (hu_of hr)) (e_v 2 (by kernel_rfl)) (e_v 0 (by kernel_rfl)) (by with_unfolding_all rfl)) (pw_or1 (t_not (t_tru (e_callZ IH takesN hr (gl_ (by kernel_rfl)) (a_cons (e_ixA (hu_of hr) (e_v 0 (by kernel_rfl)) (e_v 2 (by kernel_rfl)) (fun _ _ => rfl)) (a_cons (e_ixA (hu_of hr) (e_v 1 (by kernel_rfl)) (e_v 2 (by kernel_rfl)) (fun _ _ => rfl)) a_nil)) rfl) (fun _ => rfl)))))))) (fun _ _ _ _ _ => (e_v 2 (by kernel_rfl))))) (e_lst a_nil) (nomark _))))) ss_nil)
  (ss_cons (s_if (t_tru (e_isiN (ts := [.ty "list", .ty "tuple"]) (xc Z) (isi_5 Z) (by decide) (gl_ (by kernel_rfl)) (Z.free 0) (e_v 1 (by kernel_rfl)) (cn_cons (n_ty (gl_ (by kernel_rfl)) (Z.free 15) PyProof.Rows.Boot.«list») (cn_cons (n_ty (gl_ (by kernel_rfl)) (Z.free 3) PyProof.Rows.Boot.«tuple») cn_nil))) (fun _ => rfl)) (ss_cons (s_if (PW.pt (t_or (t_not (t_tru (e_isiN (ts := [.ty "list", .ty "tuple"]) (xc Z) (isi_5 Z) (by decide) (gl_ (by kernel_rfl)) (Z.free 0) (e_v 0 (by kernel_rfl)) (cn_cons (n_ty (gl_ (by kernel_rfl)) (Z.free 15) PyProof.Rows.Boot.«list») (cn_cons (n_ty (gl_ (by kernel_rfl)) (Z.free 3) PyProof.Rows.Boot.«tuple») cn_nil))) (fun _ => rfl))) (t_or (t_cmp (op_pNe hr.units) (e_isi1 (t := .ty "list") (xc Z) (isi_6 Z) (gl_ (by kernel_rfl)) (Z.free 0) (e_v 0 (by kernel_rfl)) (n_ty (gl_ (by kernel_rfl)) (Z.free 15) PyProof.Rows.Boot.«list»)) (e_isi1 (t := .ty "list") (xc Z) (isi_6 Z) (gl_ (by kernel_rfl)) (Z.free 0) (e_v 1 (by kernel_rfl)) (n_ty (gl_ (by kernel_rfl)) (Z.free 15) PyProof.Rows.Boot.«list»)) (nomark _)) (pw_or1 (t_cmp (op_pNe hr.units) (e_callB call_pLen (gl_ (by kernel_rfl)) (Z.free 4) PyProof.Rows.Boot.«len» (a_cons (e_v 0 (by kernel_rfl)) a_nil)) (e_callB call_pLen (gl_ (by kernel_rfl)) (Z.free 4) PyProof.Rows.Boot.«len» (a_cons (e_v 1 (by kernel_rfl)) a_nil)) (nomark _)))))) (ss_one (s_ret e_bl)) ss_nil)
  (ss_one (s_ret (e_cmp (op_pEq hr.units) (e_lc (own := [(("k" : Str), 3)]) rfl S.nd (i_range1 (gl_ (by kernel_rfl)) (Z.free 16) (a_cons (e_callB call_pLen (gl_ (by kernel_rfl)) (Z.free 4) PyProof.Rows.Boot.«len» (a_cons (e_v 1 (by kernel_rfl)) a_nil)) a_nil)) (blk_of (by kernel_rfl)) (fun _ _ _ _ _ => (g_nameV 3 S.nd (by kernel_rfl) (by first | exact .inl rfl | exact .inr rfl))) (fun _ _ _ _ _ => (ts_one (t_not (t_tru (e_callZ IH takesN hr (gl_ (by kernel_rfl)) (a_cons (e_ix (e_v 0 (by kernel_rfl)) (e_v 3 (by kernel_rfl)) (fun _ _ => rfl)) (a_cons (e_ix (e_v 1 (by kernel_rfl)) (e_v 3 (by kernel_rfl)) (fun _ _ => rfl)) a_nil)) rfl) (fun _ => rfl))))) (fun _ _ _ _ _ => (e_v 3 (by kernel_rfl)))) (e_lst a_nil) (nomark _))))) ss_nil)
  (ss_one (s_ret (e_and (e_cmp op_pIsNot (e_v 0 (by kernel_rfl)) e_non (nomark _)) (pe_one (e_not (e_isiN (ts := [.ty "int", .ty "str", .ty "list", .ty "tuple", .ty "dict"]) (xc Z) (isi_7 Z) (by decide) (gl_ (by kernel_rfl)) (Z.free 0) (e_v 0 (by kernel_rfl)) (cn_cons (n_ty (gl_ (by kernel_rfl)) (Z.free 1) PyProof.Rows.Boot.«int») (cn_cons (n_ty (gl_ (by kernel_rfl)) (Z.free 13) PyProof.Rows.Boot.«str») (cn_cons (n_ty (gl_ (by kernel_rfl)) (Z.free 15) PyProof.Rows.Boot.«list») (cn_cons (n_ty (gl_ (by kernel_rfl)) (Z.free 3) PyProof.Rows.Boot.«tuple») (cn_cons (n_ty (gl_ (by kernel_rfl)) (Z.free 14) PyProof.Rows.Boot.«dict») cn_nil))))))))))))))))
theorem sc__law_whole : FnScope N__law_whole ["value"] (defScope st__law_whole) := ⟨rfl, rfl, rfl, by decide +kernel, rfl, by decide +kernel, by decide +kernel⟩
theorem co__law_whole (Z : ZF K mg base) : CO P w K mg base Tb "_law_whole" 1 ["value"] g__law_whole := by
  have S := sc__law_whole
  exact Z.co 26 45 rfl rfl S (fun _ _ _ _ _ _ us hl => match us, hl with | [_], _ => by kernel_rfl) fun cdv A outer s H E hr => (ss_one (s_ret (e_and (e_isi1 (t := .ty "int") (xc Z) (isi_0 Z) (gl_ (by kernel_rfl)) (Z.free 0) (e_v 0 (by kernel_rfl)) (n_ty (gl_ (by kernel_rfl)) (Z.free 1) PyProof.Rows.Boot.«int»)) (pe_one (e_not (e_isi1 (t := .ty "bool") (xc Z) (isi_1 Z) (gl_ (by kernel_rfl)) (Z.free 0) (e_v 0 (by kernel_rfl)) (n_ty (gl_ (by kernel_rfl)) (Z.free 2) PyProof.Rows.Boot.«bool»)))))))
theorem sc__law_copy : FnScope N__law_copy ["value"] (defScope st__law_copy) := ⟨rfl, rfl, rfl, by decide +kernel, rfl, by decide +kernel, by decide +kernel⟩
theorem co__law_copy (Z : ZF K mg base) : CO P w K mg base Tb "_law_copy" 1 ["value"] g__law_copy := by
  have S := sc__law_copy
  exact Z.co 27 46 rfl rfl S (fun _ _ _ _ _ _ us hl => match us, hl with | [_], _ => by kernel_rfl) fun cdv A outer s H E hr => (ss_one (s_ret (e_if (t_tru (e_isi1 (t := .ty "list") (xc Z) (isi_6 Z) (gl_ (by kernel_rfl)) (Z.free 0) (e_v 0 (by kernel_rfl)) (n_ty (gl_ (by kernel_rfl)) (Z.free 15) PyProof.Rows.Boot.«list»)) (fun _ => rfl)) (e_callTy call_pList (gl_ (by kernel_rfl)) (Z.free 15) PyProof.Rows.Boot.«list» (a_cons (e_v 0 (by kernel_rfl)) a_nil)) (e_v 0 (by kernel_rfl)))))
theorem sc__law_blamed : FnScope N__law_blamed ["given", "value"] (defScope st__law_blamed) := ⟨rfl, rfl, rfl, by decide +kernel, rfl, by decide +kernel, by decide +kernel⟩
theorem co__law_blamed (Z : ZF K mg base) : CO P w K mg base Tb "_law_blamed" 14 ["given", "value"] g__law_blamed := by
  have S := sc__law_blamed
  exact Z.co 28 47 rfl rfl S (fun _ _ _ _ _ _ us hl => match us, hl with | [_, _], _ => by kernel_rfl) fun cdv A outer s H E hr => (ss_cons (s_if (t_not (t_tru (e_callZ (co__law_same Z 12) takesB (hr.mono (by omega)) (gl_ (by kernel_rfl)) (a_cons (e_v 0 (by kernel_rfl)) (a_cons (e_v 1 (by kernel_rfl)) a_nil)) rfl) (fun _ => rfl))) (ss_one (s_ret e_bl)) ss_nil)
  (ss_cons (s_if (t_tru (e_isi1 (t := .ty "list") (xc Z) (isi_6 Z) (gl_ (by kernel_rfl)) (Z.free 0) (e_v 1 (by kernel_rfl)) (n_ty (gl_ (by kernel_rfl)) (Z.free 15) PyProof.Rows.Boot.«list»)) (fun _ => rfl)) (ss_one (s_expr (e_mthL PySem.F.slot_list_append rfl mt_pAppend (e_v 1 (by kernel_rfl)) (a_cons e_int a_nil)))) ss_nil)
  (ss_one (s_ret (e_callZ (co__law_same Z 12) takesB (hr.mono (by omega)) (gl_ (by kernel_rfl)) (a_cons (e_v 0 (by kernel_rfl)) (a_cons (e_v 1 (by kernel_rfl)) a_nil)) rfl)))))
theorem sc__law_low : FnScope N__law_low ["top", "base"] (defScope st__law_low) := ⟨rfl, rfl, rfl, by decide +kernel, rfl, by decide +kernel, by decide +kernel⟩
theorem co__law_low (Z : ZF K mg base) : CO P w K mg base Tb "_law_low" 1 ["top", "base"] g__law_low := by
  have S := sc__law_low
  exact Z.co 29 48 rfl rfl S (fun _ _ _ _ _ _ us hl => match us, hl with | [_, _], _ => by kernel_rfl) fun cdv A outer s H E hr => (ss_cons (s_par (i := 3) (j := 4) rfl S.nd rfl rfl (by decide) (by kernel_rfl) (by kernel_rfl) (a_cons (e_callB call_pAbs (gl_ (by kernel_rfl)) (Z.free 5) PyProof.Rows.Boot.«abs» (a_cons (e_v 0 (by kernel_rfl)) a_nil)) (a_cons (e_callB call_pAbs (gl_ (by kernel_rfl)) (Z.free 5) PyProof.Rows.Boot.«abs» (a_cons (e_v 1 (by kernel_rfl)) a_nil)) a_nil)) (by rfl))
  (ss_cons (s_while passB (t_cmp (op_pNe hr.units) (e_v 4 (by kernel_rfl)) e_int (nomark _)) (ss_one (s_par (i := 3) (j := 4) rfl S.nd rfl rfl (by decide) (by kernel_rfl) (by kernel_rfl) (a_cons (e_v 4 (by kernel_rfl)) (a_cons (e_bin op_pMod (e_callTy call_pInt (gl_ (by kernel_rfl)) (Z.free 1) PyProof.Rows.Boot.«int» (a_cons (e_v 3 (by kernel_rfl)) a_nil)) (e_v 4 (by kernel_rfl))) a_nil)) (by rfl))))
  (ss_cons (s_setV 2 S.nd (by kernel_rfl) (e_if (t_cmp op_pGt (e_v 1 (by kernel_rfl)) e_int (nomark _)) e_int (e_neg e_int)) rfl)
  (ss_one (s_ret (e_tup (a_cons (e_bin op_pDiv (e_bin op_pMul (e_v 2 (by kernel_rfl)) (e_v 0 (by kernel_rfl))) (e_v 3 (by kernel_rfl))) (a_cons (e_bin op_pDiv (e_bin op_pMul (e_v 2 (by kernel_rfl)) (e_v 1 (by kernel_rfl))) (e_v 3 (by kernel_rfl))) a_nil))))))))
theorem sc__law_plus : FnScope N__law_plus ["one", "other"] (defScope st__law_plus) := ⟨rfl, rfl, rfl, by decide +kernel, rfl, by decide +kernel, by decide +kernel⟩
theorem co__law_plus (Z : ZF K mg base) : CO P w K mg base Tb "_law_plus" 2 ["one", "other"] g__law_plus := by
  have S := sc__law_plus
  exact Z.co 30 49 rfl rfl S (fun _ _ _ _ _ _ us hl => match us, hl with | [_, _], _ => by kernel_rfl) fun cdv A outer s H E hr => (ss_one (s_ret (e_callZ (co__law_low Z) takesB (hr.mono (by omega)) (gl_ (by kernel_rfl)) (a_cons (e_bin op_pAdd (e_bin op_pMul (e_ix (e_v 0 (by kernel_rfl)) e_int (fun _ _ => rfl)) (e_ix (e_v 1 (by kernel_rfl)) e_int (fun _ _ => rfl))) (e_bin op_pMul (e_ix (e_v 1 (by kernel_rfl)) e_int (fun _ _ => rfl)) (e_ix (e_v 0 (by kernel_rfl)) e_int (fun _ _ => rfl)))) (a_cons (e_bin op_pMul (e_ix (e_v 0 (by kernel_rfl)) e_int (fun _ _ => rfl)) (e_ix (e_v 1 (by kernel_rfl)) e_int (fun _ _ => rfl))) a_nil)) rfl)))
theorem sc__law_times : FnScope N__law_times ["one", "other"] (defScope st__law_times) := ⟨rfl, rfl, rfl, by decide +kernel, rfl, by decide +kernel, by decide +kernel⟩
theorem co__law_times (Z : ZF K mg base) : CO P w K mg base Tb "_law_times" 2 ["one", "other"] g__law_times := by
  have S := sc__law_times
  exact Z.co 31 50 rfl rfl S (fun _ _ _ _ _ _ us hl => match us, hl with | [_, _], _ => by kernel_rfl) fun cdv A outer s H E hr => (ss_one (s_ret (e_callZ (co__law_low Z) takesB (hr.mono (by omega)) (gl_ (by kernel_rfl)) (a_cons (e_bin op_pMul (e_ix (e_v 0 (by kernel_rfl)) e_int (fun _ _ => rfl)) (e_ix (e_v 1 (by kernel_rfl)) e_int (fun _ _ => rfl))) (a_cons (e_bin op_pMul (e_ix (e_v 0 (by kernel_rfl)) e_int (fun _ _ => rfl)) (e_ix (e_v 1 (by kernel_rfl)) e_int (fun _ _ => rfl))) a_nil)) rfl)))
theorem sc__law_less : FnScope N__law_less ["one", "other"] (defScope st__law_less) := ⟨rfl, rfl, rfl, by decide +kernel, rfl, by decide +kernel, by decide +kernel⟩
theorem co__law_less (Z : ZF K mg base) : CO P w K mg base Tb "_law_less" 1 ["one", "other"] g__law_less := by
  have S := sc__law_less
  exact Z.co 32 51 rfl rfl S (fun _ _ _ _ _ _ us hl => match us, hl with | [_, _], _ => by kernel_rfl) fun cdv A outer s H E hr => (ss_one (s_ret (e_cmp op_pLt (e_bin op_pMul (e_ix (e_v 0 (by kernel_rfl)) e_int (fun _ _ => rfl)) (e_ix (e_v 1 (by kernel_rfl)) e_int (fun _ _ => rfl))) (e_bin op_pMul (e_ix (e_v 1 (by kernel_rfl)) e_int (fun _ _ => rfl)) (e_ix (e_v 0 (by kernel_rfl)) e_int (fun _ _ => rfl))) (nomark _))))
theorem sc__law_number : FnScope N__law_number ["box"] (defScope st__law_number) := ⟨rfl, rfl, rfl, by decide +kernel, rfl, by decide +kernel, by decide +kernel⟩
theorem co__law_number (Z : ZF K mg base) : CO P w K mg base Tb "_law_number" 2 ["box"] g__law_number := by
  have S := sc__law_number
  exact Z.co 33 52 rfl rfl S (fun _ _ _ _ _ _ us hl => match us, hl with | [_], _ => by kernel_rfl) fun cdv A outer s H E hr => (ss_one (s_ret (e_callZ (co__law_low Z) takesB (hr.mono (by omega)) (gl_ (by kernel_rfl)) (a_cons (e_ix (e_lst (a_cons e_int (a_cons e_int (a_cons (e_neg e_int) (a_cons e_int (a_cons e_int (a_cons (e_neg e_int) (a_cons e_int (a_cons e_int (a_cons (e_neg e_int) (a_cons e_int a_nil))))))))))) (e_callZ (co__law_take Z) takesB (hr.mono (by omega)) (gl_ (by kernel_rfl)) (a_cons (e_v 0 (by kernel_rfl)) (a_cons e_int a_nil)) rfl) (fun _ _ => rfl)) (a_cons (e_ix (e_lst (a_cons e_int (a_cons e_int (a_cons e_int (a_cons e_int (a_cons e_int (a_cons e_int a_nil))))))) (e_callZ (co__law_take Z) takesB (hr.mono (by omega)) (gl_ (by kernel_rfl)) (a_cons (e_v 0 (by kernel_rfl)) (a_cons e_int a_nil)) rfl) (fun _ _ => rfl)) a_nil)) rfl)))
theorem sc__law_is_number : FnScope N__law_is_number ["value"] (defScope st__law_is_number) := ⟨rfl, rfl, rfl, by decide +kernel, rfl, by decide +kernel, by decide +kernel⟩
theorem co__law_is_number (Z : ZF K mg base) : CO P w K mg base Tb "_law_is_number" 2 ["value"] g__law_is_number := by
  have S := sc__law_is_number
  exact Z.co 34 53 rfl rfl S (fun _ _ _ _ _ _ us hl => match us, hl with | [_], _ => by kernel_rfl) fun cdv A outer s H E hr => (ss_cons (s_if (PW.pt (t_or (t_not (t_tru (e_isi1 (t := .ty "tuple") (xc Z) (isi_2 Z) (gl_ (by kernel_rfl)) (Z.free 0) (e_v 0 (by kernel_rfl)) (n_ty (gl_ (by kernel_rfl)) (Z.free 3) PyProof.Rows.Boot.«tuple»)) (fun _ => rfl))) (t_or (t_cmp (op_pNe hr.units) (e_callB call_pLen (gl_ (by kernel_rfl)) (Z.free 4) PyProof.Rows.Boot.«len» (a_cons (e_v 0 (by kernel_rfl)) a_nil)) e_int (nomark _)) (t_or (t_not (t_tru (e_callZ (co__law_whole Z) takesB (hr.mono (by omega)) (gl_ (by kernel_rfl)) (a_cons (e_ix (e_v 0 (by kernel_rfl)) e_int (fun _ _ => rfl)) a_nil) rfl) (fun _ => rfl))) (t_or (t_not (t_tru (e_callZ (co__law_whole Z) takesB (hr.mono (by omega)) (gl_ (by kernel_rfl)) (a_cons (e_ix (e_v 0 (by kernel_rfl)) e_int (fun _ _ => rfl)) a_nil) rfl) (fun _ => rfl))) (pw_or1 (t_cmp op_pLt (e_ix (e_v 0 (by kernel_rfl)) e_int (fun _ _ => rfl)) e_int (nomark _)))))))) (ss_one (s_ret e_bl)) ss_nil)
  (ss_one (s_ret (e_cmp (op_pEq hr.units) (e_callZ (co__law_low Z) takesB (hr.mono (by omega)) (gl_ (by kernel_rfl)) (a_cons (e_ix (e_v 0 (by kernel_rfl)) e_int (fun _ _ => rfl)) (a_cons (e_ix (e_v 0 (by kernel_rfl)) e_int (fun _ _ => rfl)) a_nil)) rfl) (e_v 0 (by kernel_rfl)) (nomark _)))))
theorem sc__law_is_row : FnScope N__law_is_row ["value", "count"] (defScope st__law_is_row) := ⟨rfl, rfl, rfl, by decide +kernel, rfl, by decide +kernel, by decide +kernel⟩
theorem co__law_is_row (Z : ZF K mg base) : CO P w K mg base Tb "_law_is_row" 3 ["value", "count"] g__law_is_row := by
  have S := sc__law_is_row
  exact Z.co 35 54 rfl rfl S (fun _ _ _ _ _ _ us hl => match us, hl with | [_, _], _ => by kernel_rfl) fun cdv A outer s H E hr => (ss_one (s_ret (e_and (e_isi1 (t := .ty "tuple") (xc Z) (isi_2 Z) (gl_ (by kernel_rfl)) (Z.free 0) (e_v 0 (by kernel_rfl)) (n_ty (gl_ (by kernel_rfl)) (Z.free 3) PyProof.Rows.Boot.«tuple»)) (e_and (e_cmp (op_pEq hr.units) (e_callB call_pLen (gl_ (by kernel_rfl)) (Z.free 4) PyProof.Rows.Boot.«len» (a_cons (e_v 0 (by kernel_rfl)) a_nil)) (e_v 1 (by kernel_rfl)) (nomark _)) (pe_one (e_cmp (op_pEq hr.units) (e_lock (i := 0) (e_lc (own := [(("item" : Str), 2)]) rfl S.nd (i_seqK (e_v 0 (by kernel_rfl))) (blk_of (by kernel_rfl)) (fun _ _ _ _ _ => (g_nameV 2 S.nd (by kernel_rfl) (by first | exact .inl rfl | exact .inr rfl))) (fun _ _ _ _ _ => (ts_one (t_not (t_tru (e_callZ (co__law_is_number Z) takesN (hr.mono (by omega)) (gl_ (by kernel_rfl)) (a_cons (e_v 2 (by kernel_rfl)) a_nil) rfl) (fun _ => rfl))))) (fun _ _ _ _ _ => e_int))) (e_lst a_nil) (nomark _)))))))
theorem sc__law_is_told : FnScope N__law_is_told ["value", "n"] (defScope st__law_is_told) := ⟨rfl, rfl, rfl, by decide +kernel, rfl, by decide +kernel, by decide +kernel⟩
theorem co__law_is_told (Z : ZF K mg base) : CO P w K mg base Tb "_law_is_told" 2 ["value", "n"] g__law_is_told := by
  have S := sc__law_is_told
  exact Z.co 36 55 rfl rfl S (fun _ _ _ _ _ _ us hl => match us, hl with | [_, _], _ => by kernel_rfl) fun cdv A outer s H E hr => (ss_cons (s_if (PW.pt (t_or (t_not (t_tru (e_isi1 (t := .ty "tuple") (xc Z) (isi_2 Z) (gl_ (by kernel_rfl)) (Z.free 0) (e_v 0 (by kernel_rfl)) (n_ty (gl_ (by kernel_rfl)) (Z.free 3) PyProof.Rows.Boot.«tuple»)) (fun _ => rfl))) (t_or (t_cmp (op_pNe hr.units) (e_callB call_pLen (gl_ (by kernel_rfl)) (Z.free 4) PyProof.Rows.Boot.«len» (a_cons (e_v 0 (by kernel_rfl)) a_nil)) (e_bin op_pAdd (e_v 1 (by kernel_rfl)) e_int) (nomark _)) (pw_or1 (t_cmp (op_pNe hr.units) (e_lock (i := 0) (e_lc (own := [(("item" : Str), 2)]) rfl S.nd (i_seqK (e_v 0 (by kernel_rfl))) (blk_of (by kernel_rfl)) (fun _ _ _ _ _ => (g_nameV 2 S.nd (by kernel_rfl) (by first | exact .inl rfl | exact .inr rfl))) (fun _ _ _ _ _ => (ts_one (t_not (t_tru (e_callZ (co__law_whole Z) takesN (hr.mono (by omega)) (gl_ (by kernel_rfl)) (a_cons (e_v 2 (by kernel_rfl)) a_nil) rfl) (fun _ => rfl))))) (fun _ _ _ _ _ => e_int))) (e_lst a_nil) (nomark _)))))) (ss_one (s_ret e_bl)) ss_nil)
  (ss_one (s_ret (e_cmp (op_pNe hr.units) (e_lock (i := 0) (e_lc (own := [(("item" : Str), 2)]) rfl S.nd (i_seqK (e_v 0 (by kernel_rfl))) (blk_of (by kernel_rfl)) (fun _ _ _ _ _ => (g_nameV 2 S.nd (by kernel_rfl) (by first | exact .inl rfl | exact .inr rfl))) (fun _ _ _ _ _ => (ts_one (t_cmp (op_pNe hr.units) (e_v 2 (by kernel_rfl)) e_int (nomark _)))) (fun _ _ _ _ _ => e_int))) (e_lst a_nil) (nomark _)))))
theorem sc__law_is_system : FnScope N__law_is_system ["value"] (defScope st__law_is_system) := ⟨rfl, rfl, rfl, by decide +kernel, rfl, by decide +kernel, by decide +kernel⟩
theorem co__law_is_system (Z : ZF K mg base) : CO P w K mg base Tb "_law_is_system" 3 ["value"] g__law_is_system := by
  have S := sc__law_is_system
  exact Z.co 37 56 rfl rfl S (fun _ _ _ _ _ _ us hl => match us, hl with | [_], _ => by kernel_rfl) fun cdv A outer s H E hr => (ss_cons (s_if (PW.pt (t_or (t_not (t_tru (e_isi1 (t := .ty "tuple") (xc Z) (isi_2 Z) (gl_ (by kernel_rfl)) (Z.free 0) (e_v 0 (by kernel_rfl)) (n_ty (gl_ (by kernel_rfl)) (Z.free 3) PyProof.Rows.Boot.«tuple»)) (fun _ => rfl))) (t_or (t_cmp (op_pNe hr.units) (e_callB call_pLen (gl_ (by kernel_rfl)) (Z.free 4) PyProof.Rows.Boot.«len» (a_cons (e_v 0 (by kernel_rfl)) a_nil)) e_int (nomark _)) (t_or (t_not (t_tru (e_callZ (co__law_whole Z) takesB (hr.mono (by omega)) (gl_ (by kernel_rfl)) (a_cons (e_ix (e_v 0 (by kernel_rfl)) e_int (fun _ _ => rfl)) a_nil) rfl) (fun _ => rfl))) (pw_or1 (t_not (t_chain op_pLe op_pLe e_int (e_ix (e_v 0 (by kernel_rfl)) e_int (fun _ _ => rfl)) e_int (by with_unfolding_all rfl)))))))) (ss_one (s_ret e_bl)) ss_nil)
  (ss_cons (s_for passB rfl (i_seq (e_sl (e_v 0 (by kernel_rfl)) (o_some e_int) o_none)) (g_nameV 1 S.nd (by kernel_rfl) (.inl rfl)) (ss_one (s_if (PW.pt (t_or (t_not (t_tru (e_isi1 (t := .ty "tuple") (xc Z) (isi_2 Z) (gl_ (by kernel_rfl)) (Z.free 0) (e_v 1 (by kernel_rfl)) (n_ty (gl_ (by kernel_rfl)) (Z.free 3) PyProof.Rows.Boot.«tuple»)) (fun _ => rfl))) (t_or (t_cmp op_pGt (e_callB call_pLen (gl_ (by kernel_rfl)) (Z.free 4) PyProof.Rows.Boot.«len» (a_cons (e_v 1 (by kernel_rfl)) a_nil)) e_int (nomark _)) (pw_or1 (t_cmp (op_pNe hr.units) (e_lock (i := 1) (e_lc (own := [(("row" : Str), 2)]) rfl S.nd (i_seqK (e_v 1 (by kernel_rfl))) (blk_of (by kernel_rfl)) (fun _ _ _ _ _ => (g_nameV 2 S.nd (by kernel_rfl) (by first | exact .inl rfl | exact .inr rfl))) (fun _ _ _ _ _ => (ts_one (t_not (t_tru (e_callZ (co__law_is_told Z) takesN (hr.mono (by omega)) (gl_ (by kernel_rfl)) (a_cons (e_v 2 (by kernel_rfl)) (a_cons (e_ix (e_v 0 (by kernel_rfl)) e_int (fun _ _ => rfl)) a_nil)) rfl) (fun _ => rfl))))) (fun _ _ _ _ _ => e_int))) (e_lst a_nil) (nomark _)))))) (ss_one (s_ret e_bl)) ss_nil)))
  (ss_one (s_ret e_bl))))
theorem sc__law_worth : FnScope N__law_worth ["row", "numbers"] (defScope st__law_worth) := ⟨rfl, rfl, rfl, by decide +kernel, rfl, by decide +kernel, by decide +kernel⟩
theorem co__law_worth (Z : ZF K mg base) : CO P w K mg base Tb "_law_worth" 3 ["row", "numbers"] g__law_worth := by
  have S := sc__law_worth
  exact Z.co 38 57 rfl rfl S (fun _ _ _ _ _ _ us hl => match us, hl with | [_, _], _ => by kernel_rfl) fun cdv A outer s H E hr => (ss_cons (s_setV 2 S.nd (by kernel_rfl) (e_tup (a_cons (e_ix (e_v 0 (by kernel_rfl)) (e_neg e_int) (fun _ _ => rfl)) (a_cons e_int a_nil))) rfl)
  (ss_cons (s_for passB rfl (i_range1 (gl_ (by kernel_rfl)) (Z.free 16) (a_cons (e_callB call_pLen (gl_ (by kernel_rfl)) (Z.free 4) PyProof.Rows.Boot.«len» (a_cons (e_v 1 (by kernel_rfl)) a_nil)) a_nil)) (g_nameV 3 S.nd (by kernel_rfl) (.inl rfl)) (ss_one (s_if (t_cmp (op_pNe hr.units) (e_ix (e_v 0 (by kernel_rfl)) (e_v 3 (by kernel_rfl)) (fun _ _ => rfl)) e_int (nomark _)) (ss_one (s_setV 2 S.nd (by kernel_rfl) (e_callZ (co__law_plus Z) takesB (hr.mono (by omega)) (gl_ (by kernel_rfl)) (a_cons (e_v 2 (by kernel_rfl)) (a_cons (e_callZ (co__law_low Z) takesB (hr.mono (by omega)) (gl_ (by kernel_rfl)) (a_cons (e_bin op_pMul (e_ix (e_v 0 (by kernel_rfl)) (e_v 3 (by kernel_rfl)) (fun _ _ => rfl)) (e_ix (e_ix (e_v 1 (by kernel_rfl)) (e_v 3 (by kernel_rfl)) (fun _ _ => rfl)) e_int (fun _ _ => rfl))) (a_cons (e_ix (e_ix (e_v 1 (by kernel_rfl)) (e_v 3 (by kernel_rfl)) (fun _ _ => rfl)) e_int (fun _ _ => rfl)) a_nil)) rfl) a_nil)) rfl) rfl)) ss_nil)))
  (ss_one (s_ret (e_v 2 (by kernel_rfl))))))
theorem sc__law_tops : FnScope N__law_tops ["box", "n"] (defScope st__law_tops) := ⟨rfl, rfl, rfl, by decide +kernel, rfl, by decide +kernel, by decide +kernel⟩
theorem co__law_tops (Z : ZF K mg base) : CO P w K mg base Tb "_law_tops" 3 ["box", "n"] g__law_tops := by
  have S := sc__law_tops
  exact Z.co 39 58 rfl rfl S (fun _ _ _ _ _ _ us hl => match us, hl with | [_, _], _ => by kernel_rfl) fun cdv A outer s H E hr => (ss_cons (s_setV 2 S.nd (by kernel_rfl) (e_lst a_nil) rfl)
  (ss_cons (s_for passB rfl (i_range1 (gl_ (by kernel_rfl)) (Z.free 16) (a_cons (e_v 1 (by kernel_rfl)) a_nil)) (g_nameV 3 S.nd (by kernel_rfl) (.inl rfl)) (ss_cons (s_setV 4 S.nd (by kernel_rfl) (e_callZ (co__law_take Z) takesB (hr.mono (by omega)) (gl_ (by kernel_rfl)) (a_cons (e_v 0 (by kernel_rfl)) (a_cons e_int a_nil)) rfl) rfl)
  (ss_cons (s_setV 5 S.nd (by kernel_rfl) (e_callZ (co__law_low Z) takesB (hr.mono (by omega)) (gl_ (by kernel_rfl)) (a_cons (e_bin op_pSub (e_bin op_pMul (e_callZ (co__law_take Z) takesB (hr.mono (by omega)) (gl_ (by kernel_rfl)) (a_cons (e_v 0 (by kernel_rfl)) (a_cons (e_bin op_pPow e_int e_int) a_nil)) rfl) e_int) (e_bin op_pPow e_int e_int)) (a_cons (e_bin op_pAdd e_int (e_callZ (co__law_take Z) takesB (hr.mono (by omega)) (gl_ (by kernel_rfl)) (a_cons (e_v 0 (by kernel_rfl)) (a_cons (e_bin op_pPow e_int e_int) a_nil)) rfl)) a_nil)) rfl) rfl)
  (ss_one (s_expr (e_mthL PySem.F.slot_list_append rfl mt_pAppend (e_v 2 (by kernel_rfl)) (a_cons (e_if (t_cmp (op_pEq hr.units) (e_v 4 (by kernel_rfl)) e_int (nomark _)) (e_v 5 (by kernel_rfl)) (e_if (t_cmp (op_pEq hr.units) (e_v 4 (by kernel_rfl)) e_int (nomark _)) (e_tup (a_cons e_int (a_cons e_int a_nil))) (e_callZ (co__law_number Z) takesB (hr.mono (by omega)) (gl_ (by kernel_rfl)) (a_cons (e_v 0 (by kernel_rfl)) a_nil) rfl))) a_nil)))))))
  (ss_one (s_ret (e_callTy call_pTuple (gl_ (by kernel_rfl)) (Z.free 3) PyProof.Rows.Boot.«tuple» (a_cons (e_v 2 (by kernel_rfl)) a_nil))))))
theorem sc__law_told_at : FnScope N__law_told_at ["box", "numbers", "worth"] (defScope st__law_told_at) := ⟨rfl, rfl, rfl, by decide +kernel, rfl, by decide +kernel, by decide +kernel⟩
theorem co__law_told_at (Z : ZF K mg base) : CO P w K mg base Tb "_law_told_at" 2 ["box", "numbers", "worth"] g__law_told_at := by
  have S := sc__law_told_at
  exact Z.co 40 59 rfl rfl S (fun _ _ _ _ _ _ us hl => match us, hl with | [_, _, _], _ => by kernel_rfl) fun cdv A outer s H E hr => (ss_cons (s_setV 3 S.nd (by kernel_rfl) (e_lock (i := 1) (e_lc (own := [(("number" : Str), 6)]) rfl S.nd (i_seqK (e_v 1 (by kernel_rfl))) (blk_of (by kernel_rfl)) (fun _ _ _ _ _ => (g_nameV 6 S.nd (by kernel_rfl) (by first | exact .inl rfl | exact .inr rfl))) (fun _ _ _ _ _ => ts_nil) (fun _ _ _ _ _ => (e_ix (e_lst (a_cons e_int (a_cons e_int (a_cons (e_neg e_int) (a_cons e_int (a_cons e_int (a_cons (e_neg e_int) (a_cons e_int (a_cons e_int a_nil))))))))) (e_callZ (co__law_take Z) takesN (hr.mono (by omega)) (gl_ (by kernel_rfl)) (a_cons (e_v 0 (by kernel_rfl)) (a_cons e_int a_nil)) rfl) (fun _ _ => rfl))))) rfl)
  (ss_cons (s_if (PW.pt (t_and (t_cmp (op_pNe hr.units) (e_v 1 (by kernel_rfl)) (e_tup a_nil) (nomark _)) (pw_and1 (t_cmp (op_pEq hr.units) (e_lock (i := 3) (e_lc (own := [(("item" : Str), 7)]) rfl S.nd (i_seqK (e_v 3 (by kernel_rfl))) (blk_of (by kernel_rfl)) (fun _ _ _ _ _ => (g_nameV 7 S.nd (by kernel_rfl) (by first | exact .inl rfl | exact .inr rfl))) (fun _ _ _ _ _ => (ts_one (t_cmp (op_pNe hr.units) (e_v 7 (by kernel_rfl)) e_int (nomark _)))) (fun _ _ _ _ _ => e_int))) (e_lst a_nil) (nomark _))))) (ss_one (s_asg (e_bin op_pSub e_int (e_bin op_pMul e_int (e_callZ (co__law_take Z) takesB (hr.mono (by omega)) (gl_ (by kernel_rfl)) (a_cons (e_v 0 (by kernel_rfl)) (a_cons e_int a_nil)) rfl))) (g_sub (W := WN) (e_v 3 (by kernel_rfl)) (e_callZ (co__law_take Z) takesN (hr.mono (by omega)) (gl_ (by kernel_rfl)) (a_cons (e_v 0 (by kernel_rfl)) (a_cons (e_callB call_pLen (gl_ (by kernel_rfl)) (Z.free 4) PyProof.Rows.Boot.«len» (a_cons (e_v 1 (by kernel_rfl)) a_nil)) a_nil)) rfl)))) ss_nil)
  (ss_cons (s_setV 4 S.nd (by kernel_rfl) (e_bin op_pSub (e_v 2 (by kernel_rfl)) (e_callB (call_pSum rfl) (gl_ (by kernel_rfl)) (Z.free 12) PyProof.Rows.Boot.«sum» (a_cons (e_lc (own := [(("k" : Str), 8)]) rfl S.nd (i_range1 (gl_ (by kernel_rfl)) (Z.free 16) (a_cons (e_callB call_pLen (gl_ (by kernel_rfl)) (Z.free 4) PyProof.Rows.Boot.«len» (a_cons (e_v 1 (by kernel_rfl)) a_nil)) a_nil)) (blk_of (by kernel_rfl)) (fun _ _ _ _ _ => (g_nameV 8 S.nd (by kernel_rfl) (by first | exact .inl rfl | exact .inr rfl))) (fun _ _ _ _ _ => ts_nil) (fun _ _ _ _ _ => (e_bin op_pMul (e_ix (e_v 3 (by kernel_rfl)) (e_v 8 (by kernel_rfl)) (fun _ _ => rfl)) (e_ix (e_ix (e_v 1 (by kernel_rfl)) (e_v 8 (by kernel_rfl)) (fun _ _ => rfl)) e_int (fun _ _ => rfl))))) a_nil))) rfl)
  (ss_cons (s_setV 5 S.nd (by kernel_rfl) (e_bin op_pAdd (e_callTy call_pTuple (gl_ (by kernel_rfl)) (Z.free 3) PyProof.Rows.Boot.«tuple» (a_cons (e_lc (own := [(("k" : Str), 8)]) rfl S.nd (i_range1 (gl_ (by kernel_rfl)) (Z.free 16) (a_cons (e_callB call_pLen (gl_ (by kernel_rfl)) (Z.free 4) PyProof.Rows.Boot.«len» (a_cons (e_v 1 (by kernel_rfl)) a_nil)) a_nil)) (blk_of (by kernel_rfl)) (fun _ _ _ _ _ => (g_nameV 8 S.nd (by kernel_rfl) (by first | exact .inl rfl | exact .inr rfl))) (fun _ _ _ _ _ => ts_nil) (fun _ _ _ _ _ => (e_bin op_pMul (e_ix (e_v 3 (by kernel_rfl)) (e_v 8 (by kernel_rfl)) (fun _ _ => rfl)) (e_ix (e_ix (e_v 1 (by kernel_rfl)) (e_v 8 (by kernel_rfl)) (fun _ _ => rfl)) e_int (fun _ _ => rfl))))) a_nil)) (e_tup (a_cons (e_v 4 (by kernel_rfl)) a_nil))) rfl)
  (ss_one (s_ret (e_if (t_cmp (op_pNe hr.units) (e_lock (i := 5) (e_lc (own := [(("item" : Str), 7)]) rfl S.nd (i_seqK (e_v 5 (by kernel_rfl))) (blk_of (by kernel_rfl)) (fun _ _ _ _ _ => (g_nameV 7 S.nd (by kernel_rfl) (by first | exact .inl rfl | exact .inr rfl))) (fun _ _ _ _ _ => (ts_one (t_cmp (op_pNe hr.units) (e_v 7 (by kernel_rfl)) e_int (nomark _)))) (fun _ _ _ _ _ => e_int))) (e_lst a_nil) (nomark _)) (e_v 5 (by kernel_rfl)) (e_tup (a_cons (e_bin op_pSub e_int (e_bin op_pMul e_int (e_callZ (co__law_take Z) takesB (hr.mono (by omega)) (gl_ (by kernel_rfl)) (a_cons (e_v 0 (by kernel_rfl)) (a_cons e_int a_nil)) rfl))) a_nil)))))))))
theorem sc__law_drawn : FnScope N__law_drawn ["box", "numbers"] (defScope st__law_drawn) := ⟨rfl, rfl, rfl, by decide +kernel, rfl, by decide +kernel, by decide +kernel⟩
theorem co__law_drawn (Z : ZF K mg base) : CO P w K mg base Tb "_law_drawn" 3 ["box", "numbers"] g__law_drawn := by
  have S := sc__law_drawn
  exact Z.co 41 60 rfl rfl S (fun _ _ _ _ _ _ us hl => match us, hl with | [_, _], _ => by kernel_rfl) fun cdv A outer s H E hr => (ss_cons (s_setLc (i := 2) (own := [(("k" : Str), 5)]) rfl S.nd rfl (by kernel_rfl) (by rfl) (i_range1 (gl_ (by kernel_rfl)) (Z.free 16) (a_cons (e_callZ (co__law_take Z) takesB (hr.mono (by omega)) (gl_ (by kernel_rfl)) (a_cons (e_v 0 (by kernel_rfl)) (a_cons e_int a_nil)) rfl) a_nil)) (blk_of (by kernel_rfl)) (fun _ _ _ _ _ => (g_nameV 5 S.nd (by kernel_rfl) (by first | exact .inl rfl | exact .inr rfl))) (fun _ _ _ _ _ => ts_nil) (fun _ _ _ _ _ => (e_callZ (co__law_told_at Z) takesN (hr.mono (by omega)) (gl_ (by kernel_rfl)) (a_cons (e_v 0 (by kernel_rfl)) (a_cons (e_v 1 (by kernel_rfl)) (a_cons e_int a_nil))) rfl)))
  (ss_cons (s_setLc (i := 3) (own := [(("k" : Str), 5)]) rfl S.nd rfl (by kernel_rfl) (by rfl) (i_range1 (gl_ (by kernel_rfl)) (Z.free 16) (a_cons (e_callZ (co__law_take Z) takesB (hr.mono (by omega)) (gl_ (by kernel_rfl)) (a_cons (e_v 0 (by kernel_rfl)) (a_cons e_int a_nil)) rfl) a_nil)) (blk_of (by kernel_rfl)) (fun _ _ _ _ _ => (g_nameV 5 S.nd (by kernel_rfl) (by first | exact .inl rfl | exact .inr rfl))) (fun _ _ _ _ _ => ts_nil) (fun _ _ _ _ _ => (e_callZ (co__law_told_at Z) takesN (hr.mono (by omega)) (gl_ (by kernel_rfl)) (a_cons (e_v 0 (by kernel_rfl)) (a_cons (e_v 1 (by kernel_rfl)) (a_cons (e_ix (e_lst (a_cons e_int (a_cons e_int (a_cons e_int (a_cons e_int (a_cons (e_bin op_pPow e_int e_int) a_nil)))))) (e_callZ (co__law_take Z) takesN (hr.mono (by omega)) (gl_ (by kernel_rfl)) (a_cons (e_v 0 (by kernel_rfl)) (a_cons e_int a_nil)) rfl) (fun _ _ => rfl)) a_nil))) rfl)))
  (ss_cons (s_setV 4 S.nd (by kernel_rfl) (e_callZ (co__law_take Z) takesB (hr.mono (by omega)) (gl_ (by kernel_rfl)) (a_cons (e_v 0 (by kernel_rfl)) (a_cons e_int a_nil)) rfl) rfl)
  (ss_cons (s_if (t_cmp (op_pEq hr.units) (e_v 4 (by kernel_rfl)) e_int (nomark _)) (ss_one (s_expr (e_mthL PySem.F.slot_list_insert rfl mt_pInsert (e_v 3 (by kernel_rfl)) (a_cons (e_callZ (co__law_take Z) takesB (hr.mono (by omega)) (gl_ (by kernel_rfl)) (a_cons (e_v 0 (by kernel_rfl)) (a_cons (e_bin op_pAdd (e_callB call_pLen (gl_ (by kernel_rfl)) (Z.free 4) PyProof.Rows.Boot.«len» (a_cons (e_v 3 (by kernel_rfl)) a_nil)) e_int) a_nil)) rfl) (a_cons (e_callZ (co__law_told_at Z) takesB (hr.mono (by omega)) (gl_ (by kernel_rfl)) (a_cons (e_v 0 (by kernel_rfl)) (a_cons (e_v 1 (by kernel_rfl)) (a_cons (e_ix (e_lst (a_cons (e_neg e_int) (a_cons (e_neg e_int) (a_cons (e_neg (e_bin op_pPow e_int e_int)) a_nil)))) (e_callZ (co__law_take Z) takesB (hr.mono (by omega)) (gl_ (by kernel_rfl)) (a_cons (e_v 0 (by kernel_rfl)) (a_cons e_int a_nil)) rfl) (fun _ _ => rfl)) a_nil))) rfl) a_nil))))) ss_nil)
  (ss_cons (s_if (PW.pt (t_and (t_cmp (op_pEq hr.units) (e_v 4 (by kernel_rfl)) e_int (nomark _)) (pw_and1 (t_cmp (op_pEq hr.units) (e_callZ (co__law_take Z) takesB (hr.mono (by omega)) (gl_ (by kernel_rfl)) (a_cons (e_v 0 (by kernel_rfl)) (a_cons e_int a_nil)) rfl) e_int (nomark _))))) (ss_one (s_expr (e_mthL PySem.F.slot_list_insert rfl mt_pInsert (e_v 2 (by kernel_rfl)) (a_cons (e_callZ (co__law_take Z) takesB (hr.mono (by omega)) (gl_ (by kernel_rfl)) (a_cons (e_v 0 (by kernel_rfl)) (a_cons (e_bin op_pAdd (e_callB call_pLen (gl_ (by kernel_rfl)) (Z.free 4) PyProof.Rows.Boot.«len» (a_cons (e_v 2 (by kernel_rfl)) a_nil)) e_int) a_nil)) rfl) (a_cons (e_callZ (co__law_told_at Z) takesB (hr.mono (by omega)) (gl_ (by kernel_rfl)) (a_cons (e_v 0 (by kernel_rfl)) (a_cons (e_v 1 (by kernel_rfl)) (a_cons (e_ix (e_lst (a_cons e_int (a_cons (e_neg e_int) (a_cons (e_bin op_pPow e_int e_int) a_nil)))) (e_callZ (co__law_take Z) takesB (hr.mono (by omega)) (gl_ (by kernel_rfl)) (a_cons (e_v 0 (by kernel_rfl)) (a_cons e_int a_nil)) rfl) (fun _ _ => rfl)) a_nil))) rfl) a_nil))))) ss_nil)
  (ss_one (s_ret (e_tup (a_cons (e_callB call_pLen (gl_ (by kernel_rfl)) (Z.free 4) PyProof.Rows.Boot.«len» (a_cons (e_v 1 (by kernel_rfl)) a_nil)) (a_cons (e_callTy call_pTuple (gl_ (by kernel_rfl)) (Z.free 3) PyProof.Rows.Boot.«tuple» (a_cons (e_v 2 (by kernel_rfl)) a_nil)) (a_cons (e_callTy call_pTuple (gl_ (by kernel_rfl)) (Z.free 3) PyProof.Rows.Boot.«tuple» (a_cons (e_v 3 (by kernel_rfl)) a_nil)) a_nil)))))))))))
theorem sc__law_told_drawn : FnScope N__law_told_drawn ["box", "n"] (defScope st__law_told_drawn) := ⟨rfl, rfl, rfl, by decide +kernel, rfl, by decide +kernel, by decide +kernel⟩
theorem co__law_told_drawn (Z : ZF K mg base) : CO P w K mg base Tb "_law_told_drawn" 2 ["box", "n"] g__law_told_drawn := by
  have S := sc__law_told_drawn
  exact Z.co 42 61 rfl rfl S (fun _ _ _ _ _ _ us hl => match us, hl with | [_, _], _ => by kernel_rfl) fun cdv A outer s H E hr => (ss_cons (s_setLc (i := 2) (own := [(("k" : Str), 4)]) rfl S.nd rfl (by kernel_rfl) (by rfl) (i_range1 (gl_ (by kernel_rfl)) (Z.free 16) (a_cons (e_bin op_pAdd (e_v 1 (by kernel_rfl)) e_int) a_nil)) (blk_of (by kernel_rfl)) (fun _ _ _ _ _ => (g_nameV 4 S.nd (by kernel_rfl) (by first | exact .inl rfl | exact .inr rfl))) (fun _ _ _ _ _ => ts_nil) (fun _ _ _ _ _ => (e_ix (e_lst (a_cons e_int (a_cons e_int (a_cons e_int (a_cons (e_neg e_int) (a_cons e_int (a_cons (e_neg e_int) (a_cons e_int (a_cons (e_neg e_int) a_nil))))))))) (e_callZ (co__law_take Z) takesN (hr.mono (by omega)) (gl_ (by kernel_rfl)) (a_cons (e_v 0 (by kernel_rfl)) (a_cons e_int a_nil)) rfl) (fun _ _ => rfl))))
  (ss_cons (s_if (t_cmp (op_pEq hr.units) (e_callZ (co__law_take Z) takesB (hr.mono (by omega)) (gl_ (by kernel_rfl)) (a_cons (e_v 0 (by kernel_rfl)) (a_cons e_int a_nil)) rfl) e_int (nomark _)) (ss_one (s_asg (e_bin op_pMul (e_bin op_pAdd (e_bin op_pPow e_int e_int) (e_callZ (co__law_take Z) takesB (hr.mono (by omega)) (gl_ (by kernel_rfl)) (a_cons (e_v 0 (by kernel_rfl)) (a_cons (e_bin op_pPow e_int e_int) a_nil)) rfl)) (e_bin op_pSub e_int (e_bin op_pMul e_int (e_callZ (co__law_take Z) takesB (hr.mono (by omega)) (gl_ (by kernel_rfl)) (a_cons (e_v 0 (by kernel_rfl)) (a_cons e_int a_nil)) rfl)))) (g_sub (W := WN) (e_v 2 (by kernel_rfl)) (e_callZ (co__law_take Z) takesN (hr.mono (by omega)) (gl_ (by kernel_rfl)) (a_cons (e_v 0 (by kernel_rfl)) (a_cons (e_bin op_pAdd (e_v 1 (by kernel_rfl)) e_int) a_nil)) rfl)))) ss_nil)
  (ss_cons (s_if (t_cmp (op_pEq hr.units) (e_lock (i := 2) (e_lc (own := [(("item" : Str), 5)]) rfl S.nd (i_seqK (e_v 2 (by kernel_rfl))) (blk_of (by kernel_rfl)) (fun _ _ _ _ _ => (g_nameV 5 S.nd (by kernel_rfl) (by first | exact .inl rfl | exact .inr rfl))) (fun _ _ _ _ _ => (ts_one (t_cmp (op_pNe hr.units) (e_v 5 (by kernel_rfl)) e_int (nomark _)))) (fun _ _ _ _ _ => e_int))) (e_lst a_nil) (nomark _)) (ss_one (s_asg (e_ix (e_lst (a_cons e_int (a_cons (e_neg e_int) (a_cons e_int (a_cons (e_neg e_int) a_nil))))) (e_callZ (co__law_take Z) takesB (hr.mono (by omega)) (gl_ (by kernel_rfl)) (a_cons (e_v 0 (by kernel_rfl)) (a_cons e_int a_nil)) rfl) (fun _ _ => rfl)) (g_sub (W := WN) (e_v 2 (by kernel_rfl)) (e_callZ (co__law_take Z) takesN (hr.mono (by omega)) (gl_ (by kernel_rfl)) (a_cons (e_v 0 (by kernel_rfl)) (a_cons (e_bin op_pAdd (e_v 1 (by kernel_rfl)) e_int) a_nil)) rfl)))) ss_nil)
  (ss_cons (s_setV 3 S.nd (by kernel_rfl) (e_ix (e_lst (a_cons e_int (a_cons e_int (a_cons e_int (a_cons e_int (a_cons e_int a_nil)))))) (e_callZ (co__law_take Z) takesB (hr.mono (by omega)) (gl_ (by kernel_rfl)) (a_cons (e_v 0 (by kernel_rfl)) (a_cons e_int a_nil)) rfl) (fun _ _ => rfl)) rfl)
  (ss_one (s_ret (e_callTy call_pTuple (gl_ (by kernel_rfl)) (Z.free 3) PyProof.Rows.Boot.«tuple» (a_cons (e_lock (i := 2) (e_lc (own := [(("item" : Str), 5)]) rfl S.nd (i_seqK (e_v 2 (by kernel_rfl))) (blk_of (by kernel_rfl)) (fun _ _ _ _ _ => (g_nameV 5 S.nd (by kernel_rfl) (by first | exact .inl rfl | exact .inr rfl))) (fun _ _ _ _ _ => ts_nil) (fun _ _ _ _ _ => (e_bin op_pMul (e_v 3 (by kernel_rfl)) (e_v 5 (by kernel_rfl)))))) a_nil))))))))
theorem sc__law_divided : FnScope N__law_divided ["row"] (defScope st__law_divided) := ⟨rfl, rfl, rfl, by decide +kernel, rfl, by decide +kernel, by decide +kernel⟩
theorem co__law_divided (Z : ZF K mg base) : CO P w K mg base Tb "_law_divided" 1 ["row"] g__law_divided := by
  have S := sc__law_divided
  exact Z.co 43 62 rfl rfl S (fun _ _ _ _ _ _ us hl => match us, hl with | [_], _ => by kernel_rfl) fun cdv A outer s H E hr => (ss_cons (s_setV 1 S.nd (by kernel_rfl) e_int rfl)
  (ss_cons (s_for passB rfl (i_seqK (e_v 0 (by kernel_rfl))) (g_nameV 2 S.nd (by kernel_rfl) (.inl rfl)) (ss_cons (s_par (i := 3) (j := 4) rfl S.nd rfl rfl (by decide) (by kernel_rfl) (by kernel_rfl) (a_cons (e_callB call_pAbs (gl_ (by kernel_rfl)) (Z.free 5) PyProof.Rows.Boot.«abs» (a_cons (e_v 2 (by kernel_rfl)) a_nil)) (a_cons (e_v 1 (by kernel_rfl)) a_nil)) (by rfl))
  (ss_cons (s_while passB (t_cmp (op_pNe hr.units) (e_v 4 (by kernel_rfl)) e_int (nomark _)) (ss_one (s_par (i := 3) (j := 4) rfl S.nd rfl rfl (by decide) (by kernel_rfl) (by kernel_rfl) (a_cons (e_v 4 (by kernel_rfl)) (a_cons (e_bin op_pMod (e_callTy call_pInt (gl_ (by kernel_rfl)) (Z.free 1) PyProof.Rows.Boot.«int» (a_cons (e_v 3 (by kernel_rfl)) a_nil)) (e_v 4 (by kernel_rfl))) a_nil)) (by rfl))))
  (ss_one (s_setV 1 S.nd (by kernel_rfl) (e_v 3 (by kernel_rfl)) rfl)))))
  (ss_one (s_ret (e_callTy call_pTuple (gl_ (by kernel_rfl)) (Z.free 3) PyProof.Rows.Boot.«tuple» (a_cons (e_lock (i := 0) (e_lc (own := [(("item" : Str), 2)]) rfl S.nd (i_seqK (e_v 0 (by kernel_rfl))) (blk_of (by kernel_rfl)) (fun _ _ _ _ _ => (g_nameV 2 S.nd (by kernel_rfl) (by first | exact .inl rfl | exact .inr rfl))) (fun _ _ _ _ _ => ts_nil) (fun _ _ _ _ _ => (e_bin op_pDiv (e_v 2 (by kernel_rfl)) (e_v 1 (by kernel_rfl)))))) a_nil))))))
theorem sc__law_turned : FnScope N__law_turned ["row"] (defScope st__law_turned) := ⟨rfl, rfl, rfl, by decide +kernel, rfl, by decide +kernel, by decide +kernel⟩
theorem co__law_turned (Z : ZF K mg base) : CO P w K mg base Tb "_law_turned" 2 ["row"] g__law_turned := by
  have S := sc__law_turned
  exact Z.co 44 63 rfl rfl S (fun _ _ _ _ _ _ us hl => match us, hl with | [_], _ => by kernel_rfl) fun cdv A outer s H E hr => (ss_cons (s_setV 0 S.nd (by kernel_rfl) (e_callZ (co__law_divided Z) takesB (hr.mono (by omega)) (gl_ (by kernel_rfl)) (a_cons (e_v 0 (by kernel_rfl)) a_nil) rfl) rfl)
  (ss_one (s_ret (e_if (t_cmp op_pGt (e_ix (e_lock (i := 0) (e_lc (own := [(("item" : Str), 1)]) rfl S.nd (i_seqK (e_v 0 (by kernel_rfl))) (blk_of (by kernel_rfl)) (fun _ _ _ _ _ => (g_nameV 1 S.nd (by kernel_rfl) (by first | exact .inl rfl | exact .inr rfl))) (fun _ _ _ _ _ => (ts_one (t_cmp (op_pNe hr.units) (e_v 1 (by kernel_rfl)) e_int (nomark _)))) (fun _ _ _ _ _ => (e_v 1 (by kernel_rfl))))) e_int (fun _ _ => rfl)) e_int (nomark _)) (e_v 0 (by kernel_rfl)) (e_callTy call_pTuple (gl_ (by kernel_rfl)) (Z.free 3) PyProof.Rows.Boot.«tuple» (a_cons (e_lock (i := 0) (e_lc (own := [(("item" : Str), 1)]) rfl S.nd (i_seqK (e_v 0 (by kernel_rfl))) (blk_of (by kernel_rfl)) (fun _ _ _ _ _ => (g_nameV 1 S.nd (by kernel_rfl) (by first | exact .inl rfl | exact .inr rfl))) (fun _ _ _ _ _ => ts_nil) (fun _ _ _ _ _ => (e_bin op_pSub e_int (e_v 1 (by kernel_rfl)))))) a_nil))))))
theorem sc__law_call : FnScope N__law_call ["word", "a", "named"] (defScope st__law_call) := ⟨rfl, rfl, rfl, by decide +kernel, rfl, by decide +kernel, by decide +kernel⟩
theorem co__law_call (Z : ZF K mg base) : CO P w K mg base Tb "_law_call" 7 ["word", "a", "named"] g__law_call := by
  have S := sc__law_call
  exact Z.co 45 64 rfl rfl S (fun _ _ _ _ _ _ us hl => match us, hl with | [_, _, _], _ => by kernel_rfl) fun cdv A outer s H E hr => (ss_one (s_try rfl rfl S.nd rfl takesB (exm_of Z) (fun _ _ _ tk => (ss_cons (s_if (t_cmp (op_pEq hr.units) (e_v 0 (by kernel_rfl)) e_str (nomark _)) (ss_one (s_ret (e_lst (a_cons e_str (a_cons (e_if (t_tru (e_v 2 (by kernel_rfl)) (fun _ => rfl)) (e_callKwZ (ks := ["value"]) (perm := [0]) (co_is_system Z) tk (hr.mono (by omega)) (gl_ (by kernel_rfl)) (kb_is_system_value Z) (k_cons (e_ix (e_v 1 (by kernel_rfl)) e_int (fun _ _ => rfl)) k_nil) rfl) (e_callZ (co_is_system Z) tk (hr.mono (by omega)) (gl_ (by kernel_rfl)) (a_cons (e_ix (e_v 1 (by kernel_rfl)) e_int (fun _ _ => rfl)) a_nil) rfl)) a_nil))))) ss_nil)
  (ss_cons (s_if (t_cmp (op_pEq hr.units) (e_v 0 (by kernel_rfl)) e_str (nomark _)) (ss_one (s_ret (e_lst (a_cons e_str (a_cons (e_if (t_tru (e_v 2 (by kernel_rfl)) (fun _ => rfl)) (e_callKwZ (ks := ["row", "system"]) (perm := [1, 0]) (co_holds_at Z) tk (hr.mono (by omega)) (gl_ (by kernel_rfl)) (kb_holds_at_row_system Z) (k_cons (e_ix (e_v 1 (by kernel_rfl)) e_int (fun _ _ => rfl)) (k_cons (e_ix (e_v 1 (by kernel_rfl)) e_int (fun _ _ => rfl)) k_nil)) rfl) (e_callZ (co_holds_at Z) tk (hr.mono (by omega)) (gl_ (by kernel_rfl)) (a_cons (e_ix (e_v 1 (by kernel_rfl)) e_int (fun _ _ => rfl)) (a_cons (e_ix (e_v 1 (by kernel_rfl)) e_int (fun _ _ => rfl)) a_nil)) rfl)) a_nil))))) ss_nil)
  (ss_cons (s_if (t_cmp (op_pEq hr.units) (e_v 0 (by kernel_rfl)) e_str (nomark _)) (ss_one (s_ret (e_lst (a_cons e_str (a_cons (e_if (t_tru (e_v 2 (by kernel_rfl)) (fun _ => rfl)) (e_callKwZ (ks := ["row"]) (perm := [0]) (co_tidy Z) tk (hr.mono (by omega)) (gl_ (by kernel_rfl)) (kb_tidy_row Z) (k_cons (e_ix (e_v 1 (by kernel_rfl)) e_int (fun _ _ => rfl)) k_nil) rfl) (e_callZ (co_tidy Z) tk (hr.mono (by omega)) (gl_ (by kernel_rfl)) (a_cons (e_ix (e_v 1 (by kernel_rfl)) e_int (fun _ _ => rfl)) a_nil) rfl)) a_nil))))) ss_nil)
  (ss_one (s_ret (e_lst (a_cons e_str (a_cons (e_if (t_tru (e_v 2 (by kernel_rfl)) (fun _ => rfl)) (e_callKwZ (ks := ["row"]) (perm := [0]) (co_tidy_equation Z) tk (hr.mono (by omega)) (gl_ (by kernel_rfl)) (kb_tidy_equation_row Z) (k_cons (e_ix (e_v 1 (by kernel_rfl)) e_int (fun _ _ => rfl)) k_nil) rfl) (e_callZ (co_tidy_equation Z) tk (hr.mono (by omega)) (gl_ (by kernel_rfl)) (a_cons (e_ix (e_v 1 (by kernel_rfl)) e_int (fun _ _ => rfl)) a_nil) rfl)) a_nil))))))))) (.cons (gl_ (by kernel_rfl)) (Z.glo 8) rfl rfl (by kernel_rfl) (fun _ => (ss_one (s_ret (e_lst (a_cons e_str (a_cons (e_att (xc Z) (fld Z) (e_v 3 (by kernel_rfl))) a_nil)))))) (.cons (gl_ (by kernel_rfl)) (Z.glo 10) rfl rfl (by kernel_rfl) (fun _ => (ss_one (s_ret (e_lst (a_cons e_str (a_cons (e_att (xc Z) (fld Z) (e_v 3 (by kernel_rfl))) a_nil)))))) (.cons (gl_ (by kernel_rfl)) (Z.glo 11) rfl rfl (by kernel_rfl) (fun _ => (ss_one (s_ret (e_lst (a_cons e_str (a_cons (e_att (xc Z) (fld Z) (e_v 3 (by kernel_rfl))) a_nil)))))) .nil)))))
theorem sc__law_bad_told : FnScope N__law_bad_told ["box", "row"] (defScope st__law_bad_told) := ⟨rfl, rfl, rfl, by decide +kernel, rfl, by decide +kernel, by decide +kernel⟩
theorem co__law_bad_told (Z : ZF K mg base) : CO P w K mg base Tb "_law_bad_told" 2 ["box", "row"] g__law_bad_told := by
  have S := sc__law_bad_told
  exact Z.co 46 65 rfl rfl S (fun _ _ _ _ _ _ us hl => match us, hl with | [_, _], _ => by kernel_rfl) fun cdv A outer s H E hr => (ss_cons (s_par (i := 4) (j := 5) rfl S.nd rfl rfl (by decide) (by kernel_rfl) (by kernel_rfl) (a_cons (e_callZ (co__law_take Z) takesB (hr.mono (by omega)) (gl_ (by kernel_rfl)) (a_cons (e_v 0 (by kernel_rfl)) (a_cons e_int a_nil)) rfl) (a_cons (e_callZ (co__law_take Z) takesB (hr.mono (by omega)) (gl_ (by kernel_rfl)) (a_cons (e_v 0 (by kernel_rfl)) (a_cons (e_callB call_pLen (gl_ (by kernel_rfl)) (Z.free 4) PyProof.Rows.Boot.«len» (a_cons (e_v 1 (by kernel_rfl)) a_nil)) a_nil)) rfl) a_nil)) (by rfl))
  (ss_cons (s_setV 2 S.nd (by kernel_rfl) (e_ix (e_lst (a_cons e_bl (a_cons e_non (a_cons e_str (a_cons (e_tup (a_cons (e_ix (e_v 1 (by kernel_rfl)) (e_v 5 (by kernel_rfl)) (fun _ _ => rfl)) (a_cons e_int a_nil))) (a_cons (e_lst (a_cons (e_ix (e_v 1 (by kernel_rfl)) (e_v 5 (by kernel_rfl)) (fun _ _ => rfl)) a_nil)) (a_cons e_bl a_nil))))))) (e_callZ (co__law_take Z) takesB (hr.mono (by omega)) (gl_ (by kernel_rfl)) (a_cons (e_v 0 (by kernel_rfl)) (a_cons e_int a_nil)) rfl) (fun _ _ => rfl)) rfl)
  (ss_cons (s_if (t_cmp op_pLt (e_v 4 (by kernel_rfl)) e_int (nomark _)) (ss_one (s_ret (e_bin op_pAdd (e_bin op_pAdd (e_sl (e_v 1 (by kernel_rfl)) o_none (o_some (e_v 5 (by kernel_rfl)))) (e_tup (a_cons (e_v 2 (by kernel_rfl)) a_nil))) (e_sl (e_v 1 (by kernel_rfl)) (o_some (e_bin op_pAdd (e_v 5 (by kernel_rfl)) e_int)) o_none)))) ss_nil)
  (ss_cons (s_setV 3 S.nd (by kernel_rfl) (e_lst (a_cons (e_bin op_pMulT (e_tup (a_cons e_int a_nil)) (e_callB call_pLen (gl_ (by kernel_rfl)) (Z.free 4) PyProof.Rows.Boot.«len» (a_cons (e_v 1 (by kernel_rfl)) a_nil))) (a_cons (e_bin op_pAdd (e_v 1 (by kernel_rfl)) (e_tup (a_cons e_int a_nil))) (a_cons (e_sl (e_v 1 (by kernel_rfl)) o_none (o_some (e_neg e_int))) (a_cons (e_callTy call_pList (gl_ (by kernel_rfl)) (Z.free 15) PyProof.Rows.Boot.«list» (a_cons (e_v 1 (by kernel_rfl)) a_nil)) (a_cons (e_bin op_pAdd (e_v 1 (by kernel_rfl)) (e_tup (a_cons e_int a_nil))) (a_cons (e_bin op_pAdd (e_tup (a_cons e_int a_nil)) (e_v 1 (by kernel_rfl))) (a_cons e_int (a_cons e_non (a_cons (e_tup (a_cons (e_v 1 (by kernel_rfl)) a_nil)) a_nil)))))))))) rfl)
  (ss_one (s_ret (e_ix (e_v 3 (by kernel_rfl)) (e_bin op_pSub (e_v 4 (by kernel_rfl)) e_int) (fun _ _ => rfl))))))))
theorem sc__law_spoilt : FnScope N__law_spoilt ["box", "system"] (defScope st__law_spoilt) := ⟨rfl, rfl, rfl, by decide +kernel, rfl, by decide +kernel, by decide +kernel⟩
theorem co__law_spoilt (Z : ZF K mg base) : CO P w K mg base Tb "_law_spoilt" 3 ["box", "system"] g__law_spoilt := by
  have S := sc__law_spoilt
  exact Z.co 47 66 rfl rfl S (fun _ _ _ _ _ _ us hl => match us, hl with | [_, _], _ => by kernel_rfl) fun cdv A outer s H E hr => (ss_cons (s_asg (e_v 1 (by kernel_rfl)) (g_tupZ rfl (gs_cons (g_nameV 4 S.nd (by kernel_rfl) (.inl rfl)) (gs_cons (g_nameV 5 S.nd (by kernel_rfl) (.inl rfl)) (gs_cons (g_nameV 6 S.nd (by kernel_rfl) (.inl rfl)) gs_nil)))))
  (ss_cons (s_setV 2 S.nd (by kernel_rfl) (e_callZ (co__law_take Z) takesB (hr.mono (by omega)) (gl_ (by kernel_rfl)) (a_cons (e_v 0 (by kernel_rfl)) (a_cons e_int a_nil)) rfl) rfl)
  (ss_cons (s_if (t_cmp op_pLt (e_v 2 (by kernel_rfl)) e_int (nomark _)) (ss_cons (s_setV 7 S.nd (by kernel_rfl) (e_ix (e_lst (a_cons (e_v 5 (by kernel_rfl)) (a_cons (e_v 6 (by kernel_rfl)) a_nil))) (e_bin op_pMod (e_callTy call_pInt (gl_ (by kernel_rfl)) (Z.free 1) PyProof.Rows.Boot.«int» (a_cons (e_v 2 (by kernel_rfl)) a_nil)) e_int) (fun _ _ => rfl)) rfl)
  (ss_cons (s_setV 8 S.nd (by kernel_rfl) (e_callZ (co__law_take Z) takesB (hr.mono (by omega)) (gl_ (by kernel_rfl)) (a_cons (e_v 0 (by kernel_rfl)) (a_cons (e_bin op_pAdd (e_callB call_pLen (gl_ (by kernel_rfl)) (Z.free 4) PyProof.Rows.Boot.«len» (a_cons (e_v 7 (by kernel_rfl)) a_nil)) e_int) a_nil)) rfl) rfl)
  (ss_cons (s_setV 9 S.nd (by kernel_rfl) (e_if (t_cmp op_pLt (e_v 8 (by kernel_rfl)) (e_callB call_pLen (gl_ (by kernel_rfl)) (Z.free 4) PyProof.Rows.Boot.«len» (a_cons (e_v 7 (by kernel_rfl)) a_nil)) (nomark _)) (e_ix (e_v 7 (by kernel_rfl)) (e_v 8 (by kernel_rfl)) (fun _ _ => rfl)) (e_callZ (co__law_told_drawn Z) takesB (hr.mono (by omega)) (gl_ (by kernel_rfl)) (a_cons (e_v 0 (by kernel_rfl)) (a_cons (e_v 4 (by kernel_rfl)) a_nil)) rfl)) rfl)
  (ss_cons (s_setV 7 S.nd (by kernel_rfl) (e_bin op_pAdd (e_bin op_pAdd (e_sl (e_v 7 (by kernel_rfl)) o_none (o_some (e_v 8 (by kernel_rfl)))) (e_tup (a_cons (e_callZ (co__law_bad_told Z) takesB (hr.mono (by omega)) (gl_ (by kernel_rfl)) (a_cons (e_v 0 (by kernel_rfl)) (a_cons (e_v 9 (by kernel_rfl)) a_nil)) rfl) a_nil))) (e_sl (e_v 7 (by kernel_rfl)) (o_some (e_bin op_pAdd (e_v 8 (by kernel_rfl)) e_int)) o_none)) rfl)
  (ss_one (s_ret (e_if (t_cmp (op_pEq hr.units) (e_bin op_pMod (e_callTy call_pInt (gl_ (by kernel_rfl)) (Z.free 1) PyProof.Rows.Boot.«int» (a_cons (e_v 2 (by kernel_rfl)) a_nil)) e_int) e_int (nomark _)) (e_tup (a_cons (e_v 4 (by kernel_rfl)) (a_cons (e_v 7 (by kernel_rfl)) (a_cons (e_v 6 (by kernel_rfl)) a_nil)))) (e_tup (a_cons (e_v 4 (by kernel_rfl)) (a_cons (e_v 5 (by kernel_rfl)) (a_cons (e_v 7 (by kernel_rfl)) a_nil))))))))))) ss_nil)
  (ss_cons (s_setV 3 S.nd (by kernel_rfl) (e_lst (a_cons (e_lst (a_cons (e_v 4 (by kernel_rfl)) (a_cons (e_v 5 (by kernel_rfl)) (a_cons (e_v 6 (by kernel_rfl)) a_nil)))) (a_cons (e_tup (a_cons (e_v 4 (by kernel_rfl)) (a_cons (e_v 5 (by kernel_rfl)) a_nil))) (a_cons (e_tup (a_cons (e_v 4 (by kernel_rfl)) (a_cons (e_v 5 (by kernel_rfl)) (a_cons (e_v 6 (by kernel_rfl)) (a_cons (e_tup a_nil) a_nil))))) (a_cons (e_tup (a_cons (e_v 4 (by kernel_rfl)) (a_cons (e_callTy call_pList (gl_ (by kernel_rfl)) (Z.free 15) PyProof.Rows.Boot.«list» (a_cons (e_v 5 (by kernel_rfl)) a_nil)) (a_cons (e_v 6 (by kernel_rfl)) a_nil)))) (a_cons (e_tup (a_cons (e_v 4 (by kernel_rfl)) (a_cons (e_v 5 (by kernel_rfl)) (a_cons (e_callTy call_pList (gl_ (by kernel_rfl)) (Z.free 15) PyProof.Rows.Boot.«list» (a_cons (e_v 6 (by kernel_rfl)) a_nil)) a_nil)))) (a_cons (e_tup (a_cons (e_cmp (op_pEq hr.units) (e_v 4 (by kernel_rfl)) e_int (nomark _)) (a_cons (e_v 5 (by kernel_rfl)) (a_cons (e_v 6 (by kernel_rfl)) a_nil)))) a_nil))))))) rfl)
  (ss_one (s_ret (e_ix (e_bin op_pAdd (e_v 3 (by kernel_rfl)) (e_lst (a_cons (e_tup (a_cons (e_bin op_pAdd (e_v 4 (by kernel_rfl)) e_int) (a_cons (e_v 5 (by kernel_rfl)) (a_cons (e_v 6 (by kernel_rfl)) a_nil)))) (a_cons (e_tup (a_cons (e_bin op_pSub e_int (e_v 4 (by kernel_rfl))) (a_cons (e_v 5 (by kernel_rfl)) (a_cons (e_v 6 (by kernel_rfl)) a_nil)))) a_nil)))) (e_bin op_pSub (e_v 2 (by kernel_rfl)) e_int) (fun _ _ => rfl))))))))
theorem sc__law_any : FnScope N__law_any ["box"] (defScope st__law_any) := ⟨rfl, rfl, rfl, by decide +kernel, rfl, by decide +kernel, by decide +kernel⟩
theorem co__law_any (Z : ZF K mg base) : CO P w K mg base Tb "_law_any" 2 ["box"] g__law_any := by
  have S := sc__law_any
  exact Z.co 48 67 rfl rfl S (fun _ _ _ _ _ _ us hl => match us, hl with | [_], _ => by kernel_rfl) fun cdv A outer s H E hr => (ss_one (s_ret (e_ix (e_lst (a_cons e_non (a_cons e_bl (a_cons e_int (a_cons e_str (a_cons (e_lst a_nil) (a_cons (e_dct (dp_cons e_int dp_nil) rfl rfl (by simp) (by decide) (by decide) (by decide)) (a_cons (e_tup a_nil) (a_cons (e_tup (a_cons e_int (a_cons e_int (a_cons e_int a_nil)))) (a_cons (e_tup (a_cons e_str (a_cons (e_tup a_nil) (a_cons (e_tup a_nil) a_nil)))) (a_cons (e_tup (a_cons (e_neg e_int) (a_cons (e_tup a_nil) (a_cons (e_tup a_nil) a_nil)))) (a_cons (e_tup (a_cons e_non (a_cons (e_tup a_nil) (a_cons (e_tup a_nil) a_nil)))) (a_cons (e_tup (a_cons (e_tup a_nil) (a_cons (e_tup a_nil) (a_cons (e_tup a_nil) a_nil)))) (a_cons (e_tup (a_cons e_int (a_cons e_non (a_cons (e_tup a_nil) a_nil)))) (a_cons (e_tup (a_cons e_int (a_cons (e_tup a_nil) (a_cons (e_dct (dp_cons e_int dp_nil) rfl rfl (by simp) (by decide) (by decide) (by decide)) a_nil)))) a_nil))))))))))))))) (e_callZ (co__law_take Z) takesB (hr.mono (by omega)) (gl_ (by kernel_rfl)) (a_cons (e_v 0 (by kernel_rfl)) (a_cons e_int a_nil)) rfl) (fun _ _ => rfl))))
theorem sc__law_great_right : FnScope N__law_great_right ["box", "named"] (defScope st__law_great_right) := ⟨rfl, rfl, rfl, by decide +kernel, rfl, by decide +kernel, by decide +kernel⟩
theorem co__law_great_right (Z : ZF K mg base) : CO P w K mg base Tb "_law_great_right" 14 ["box", "named"] g__law_great_right := by
  have S := sc__law_great_right
  exact Z.co 49 68 rfl rfl S (fun _ _ _ _ _ _ us hl => match us, hl with | [_, _], _ => by kernel_rfl) fun cdv A outer s H E hr => (ss_cons (s_asg (e_tup (a_cons (e_callZ (co__law_take Z) takesB (hr.mono (by omega)) (gl_ (by kernel_rfl)) (a_cons (e_v 0 (by kernel_rfl)) (a_cons e_int a_nil)) rfl) (a_cons (e_bin op_pSub (e_callZ (co__law_take Z) takesB (hr.mono (by omega)) (gl_ (by kernel_rfl)) (a_cons (e_v 0 (by kernel_rfl)) (a_cons e_int a_nil)) rfl) e_int) a_nil))) (g_tupZ rfl (gs_cons (g_nameV 6 S.nd (by kernel_rfl) (.inl rfl)) (gs_cons (g_nameV 7 S.nd (by kernel_rfl) (.inl rfl)) gs_nil))))
  (ss_cons (s_setV 2 S.nd (by kernel_rfl) (e_bin op_pAdd (e_callTy call_pTuple (gl_ (by kernel_rfl)) (Z.free 3) PyProof.Rows.Boot.«tuple» (a_cons (e_lc (own := [(("k" : Str), 10)]) rfl S.nd (i_range1 (gl_ (by kernel_rfl)) (Z.free 16) (a_cons e_int a_nil)) (blk_of (by kernel_rfl)) (fun _ _ _ _ _ => (g_nameV 10 S.nd (by kernel_rfl) (by first | exact .inl rfl | exact .inr rfl))) (fun _ _ _ _ _ => ts_nil) (fun _ _ _ _ _ => (e_if (t_cmp (op_pEq hr.units) (e_v 10 (by kernel_rfl)) (e_v 6 (by kernel_rfl)) (nomark _)) e_int e_int))) a_nil)) (e_tup (a_cons (e_v 7 (by kernel_rfl)) a_nil))) rfl)
  (ss_cons (s_setV 3 S.nd (by kernel_rfl) (e_bin op_pMulT (e_tup (a_cons (e_tup (a_cons e_int (a_cons e_int a_nil))) a_nil)) e_int) rfl)
  (ss_cons (s_for passB rfl (i_seq (e_lst (a_cons e_int (a_cons e_int a_nil)))) (g_nameV 4 S.nd (by kernel_rfl) (.inl rfl)) (ss_one (s_for passB rfl (i_seq (e_lst (a_cons (e_tup (a_cons e_int (a_cons (e_bin op_pMulT (e_tup (a_cons (e_v 2 (by kernel_rfl)) a_nil)) (e_v 4 (by kernel_rfl))) (a_cons (e_tup (a_cons (e_v 2 (by kernel_rfl)) a_nil)) a_nil)))) (a_cons (e_tup (a_cons e_int (a_cons (e_tup a_nil) (a_cons (e_bin op_pMulT (e_tup (a_cons (e_v 2 (by kernel_rfl)) a_nil)) (e_v 4 (by kernel_rfl))) a_nil)))) a_nil)))) (g_nameV 8 S.nd (by kernel_rfl) (.inl rfl)) (ss_cons (s_if (t_not (t_tru (e_callZ (co__law_same Z 12) takesB (hr.mono (by omega)) (gl_ (by kernel_rfl)) (a_cons (e_callZ (co__law_call Z) takesB (hr.mono (by omega)) (gl_ (by kernel_rfl)) (a_cons e_str (a_cons (e_lst (a_cons (e_v 8 (by kernel_rfl)) a_nil)) (a_cons (e_v 1 (by kernel_rfl)) a_nil))) rfl) (a_cons (e_lst (a_cons e_str (a_cons (e_cmp (op_pEq hr.units) (e_v 4 (by kernel_rfl)) e_int (nomark _)) a_nil))) a_nil)) rfl) (fun _ => rfl))) (ss_one (s_ret e_bl)) ss_nil)
  (ss_cons (s_setV 1 S.nd (by kernel_rfl) (e_not (e_v 1 (by kernel_rfl))) rfl)
  (ss_cons (s_setV 9 S.nd (by kernel_rfl) (e_if (t_cmp (op_pEq hr.units) (e_v 4 (by kernel_rfl)) e_int (nomark _)) (e_lst (a_cons e_str (a_cons (e_or (e_cmp (op_pEq hr.units) (e_v 7 (by kernel_rfl)) e_int (nomark _)) (pe_one (e_and (e_cmp op_pGt (e_v 7 (by kernel_rfl)) e_int (nomark _)) (pe_one (e_cmp (op_pEq hr.units) (e_ix (e_v 8 (by kernel_rfl)) e_int (fun _ _ => rfl)) (e_tup a_nil) (nomark _)))))) a_nil))) (e_lst (a_cons e_str (a_cons (e_v 8 (by kernel_rfl)) a_nil)))) rfl)
  (ss_one (s_if (t_not (t_tru (e_callZ (co__law_same Z 12) takesB (hr.mono (by omega)) (gl_ (by kernel_rfl)) (a_cons (e_callZ (co__law_call Z) takesB (hr.mono (by omega)) (gl_ (by kernel_rfl)) (a_cons e_str (a_cons (e_lst (a_cons (e_v 8 (by kernel_rfl)) (a_cons (e_v 3 (by kernel_rfl)) a_nil))) (a_cons (e_v 1 (by kernel_rfl)) a_nil))) rfl) (a_cons (e_v 9 (by kernel_rfl)) a_nil)) rfl) (fun _ => rfl))) (ss_one (s_ret e_bl)) ss_nil))))))))
  (ss_cons (s_setV 5 S.nd (by kernel_rfl) (e_tup (a_cons e_int (a_cons (e_tup a_nil) (a_cons (e_tup (a_cons (e_bin op_pAdd (e_tup (a_cons e_int a_nil)) (e_v 2 (by kernel_rfl))) a_nil)) a_nil)))) rfl)
  (ss_one (s_ret (e_callZ (co__law_same Z 12) takesB (hr.mono (by omega)) (gl_ (by kernel_rfl)) (a_cons (e_lst (a_cons (e_callZ (co__law_call Z) takesB (hr.mono (by omega)) (gl_ (by kernel_rfl)) (a_cons e_str (a_cons (e_lst (a_cons (e_v 5 (by kernel_rfl)) a_nil)) (a_cons (e_v 1 (by kernel_rfl)) a_nil))) rfl) (a_cons (e_callZ (co__law_call Z) takesB (hr.mono (by omega)) (gl_ (by kernel_rfl)) (a_cons e_str (a_cons (e_lst (a_cons (e_v 5 (by kernel_rfl)) (a_cons (e_bin op_pAdd (e_v 3 (by kernel_rfl)) (e_tup (a_cons (e_tup (a_cons e_int (a_cons e_int a_nil))) a_nil))) a_nil))) (a_cons (e_v 1 (by kernel_rfl)) a_nil))) rfl) a_nil))) (a_cons (e_lst (a_cons (e_lst (a_cons e_str (a_cons e_bl a_nil))) (a_cons (e_lst (a_cons e_str (a_cons (e_v 5 (by kernel_rfl)) a_nil))) a_nil))) a_nil)) rfl))))))))
theorem sc__law_holds_right : FnScope N__law_holds_right ["box", "named"] (defScope st__law_holds_right) := ⟨rfl, rfl, rfl, by decide +kernel, rfl, by decide +kernel, by decide +kernel⟩
theorem co__law_holds_right (Z : ZF K mg base) : CO P w K mg base Tb "_law_holds_right" 14 ["box", "named"] g__law_holds_right := by
  have S := sc__law_holds_right
  exact Z.co 50 69 rfl rfl S (fun _ _ _ _ _ _ us hl => match us, hl with | [_, _], _ => by kernel_rfl) fun cdv A outer s H E hr => (ss_cons (s_setV 2 S.nd (by kernel_rfl) (e_callZ (co__law_tops Z) takesB (hr.mono (by omega)) (gl_ (by kernel_rfl)) (a_cons (e_v 0 (by kernel_rfl)) (a_cons (e_ix (e_lst (a_cons e_int (a_cons e_int (a_cons e_int (a_cons e_int (a_cons e_int (a_cons e_int (a_cons e_int (a_cons e_int a_nil))))))))) (e_callZ (co__law_take Z) takesB (hr.mono (by omega)) (gl_ (by kernel_rfl)) (a_cons (e_v 0 (by kernel_rfl)) (a_cons e_int a_nil)) rfl) (fun _ _ => rfl)) a_nil)) rfl) rfl)
  (ss_cons (s_for passB rfl (i_range1 (gl_ (by kernel_rfl)) (Z.free 16) (a_cons e_int a_nil)) (g_nameV 3 S.nd (by kernel_rfl) (.inl rfl)) (ss_cons (s_setV 4 S.nd (by kernel_rfl) (e_callZ (co__law_drawn Z) takesB (hr.mono (by omega)) (gl_ (by kernel_rfl)) (a_cons (e_v 0 (by kernel_rfl)) (a_cons (e_v 2 (by kernel_rfl)) a_nil)) rfl) rfl)
  (ss_cons (s_for passB rfl (i_seq (e_lst (a_cons (e_v 2 (by kernel_rfl)) (a_cons (e_callZ (co__law_tops Z) takesB (hr.mono (by omega)) (gl_ (by kernel_rfl)) (a_cons (e_v 0 (by kernel_rfl)) (a_cons (e_callB call_pLen (gl_ (by kernel_rfl)) (Z.free 4) PyProof.Rows.Boot.«len» (a_cons (e_v 2 (by kernel_rfl)) a_nil)) a_nil)) rfl) a_nil)))) (g_nameV 5 S.nd (by kernel_rfl) (.inl rfl)) (ss_cons (s_setV 7 S.nd (by kernel_rfl) (e_and (e_cmp (op_pEq hr.units) (e_lc (own := [(("one" : Str), 8)]) rfl S.nd (i_seq (e_ix (e_v 4 (by kernel_rfl)) e_int (fun _ _ => rfl))) (blk_of (by kernel_rfl)) (fun _ _ _ _ _ => (g_nameV 8 S.nd (by kernel_rfl) (by first | exact .inl rfl | exact .inr rfl))) (fun _ _ _ _ _ => (ts_one (t_cmp (op_pNe hr.units) (e_ix (e_callZ (co__law_worth Z) takesN (hr.mono (by omega)) (gl_ (by kernel_rfl)) (a_cons (e_v 8 (by kernel_rfl)) (a_cons (e_v 5 (by kernel_rfl)) a_nil)) rfl) e_int (fun _ _ => rfl)) e_int (nomark _)))) (fun _ _ _ _ _ => e_int)) (e_lst a_nil) (nomark _)) (pe_one (e_cmp (op_pEq hr.units) (e_lc (own := [(("one" : Str), 8)]) rfl S.nd (i_seq (e_ix (e_v 4 (by kernel_rfl)) e_int (fun _ _ => rfl))) (blk_of (by kernel_rfl)) (fun _ _ _ _ _ => (g_nameV 8 S.nd (by kernel_rfl) (by first | exact .inl rfl | exact .inr rfl))) (fun _ _ _ _ _ => (ts_one (t_cmp op_pLt (e_ix (e_callZ (co__law_worth Z) takesN (hr.mono (by omega)) (gl_ (by kernel_rfl)) (a_cons (e_v 8 (by kernel_rfl)) (a_cons (e_v 5 (by kernel_rfl)) a_nil)) rfl) e_int (fun _ _ => rfl)) e_int (nomark _)))) (fun _ _ _ _ _ => e_int)) (e_lst a_nil) (nomark _)))) rfl)
  (ss_cons (s_if (t_not (t_tru (e_callZ (co__law_same Z 12) takesB (hr.mono (by omega)) (gl_ (by kernel_rfl)) (a_cons (e_callZ (co__law_call Z) takesB (hr.mono (by omega)) (gl_ (by kernel_rfl)) (a_cons e_str (a_cons (e_lst (a_cons (e_v 4 (by kernel_rfl)) (a_cons (e_v 5 (by kernel_rfl)) a_nil))) (a_cons (e_v 1 (by kernel_rfl)) a_nil))) rfl) (a_cons (e_lst (a_cons e_str (a_cons (e_v 7 (by kernel_rfl)) a_nil))) a_nil)) rfl) (fun _ => rfl))) (ss_one (s_ret e_bl)) ss_nil)
  (ss_one (s_setV 1 S.nd (by kernel_rfl) (e_not (e_v 1 (by kernel_rfl))) rfl)))))
  (ss_one (s_for passB rfl (i_seq (e_lst (a_cons (e_v 4 (by kernel_rfl)) (a_cons (e_callZ (co__law_spoilt Z) takesB (hr.mono (by omega)) (gl_ (by kernel_rfl)) (a_cons (e_v 0 (by kernel_rfl)) (a_cons (e_v 4 (by kernel_rfl)) a_nil)) rfl) (a_cons (e_callZ (co__law_spoilt Z) takesB (hr.mono (by omega)) (gl_ (by kernel_rfl)) (a_cons (e_v 0 (by kernel_rfl)) (a_cons (e_v 4 (by kernel_rfl)) a_nil)) rfl) (a_cons (e_callZ (co__law_spoilt Z) takesB (hr.mono (by omega)) (gl_ (by kernel_rfl)) (a_cons (e_v 0 (by kernel_rfl)) (a_cons (e_v 4 (by kernel_rfl)) a_nil)) rfl) (a_cons (e_callZ (co__law_any Z) takesB (hr.mono (by omega)) (gl_ (by kernel_rfl)) (a_cons (e_v 0 (by kernel_rfl)) a_nil) rfl) (a_cons (e_v 4 (by kernel_rfl)) a_nil)))))))) (g_nameV 6 S.nd (by kernel_rfl) (.inl rfl)) (ss_cons (s_setV 7 S.nd (by kernel_rfl) (e_callZ (co__law_is_system Z) takesB (hr.mono (by omega)) (gl_ (by kernel_rfl)) (a_cons (e_v 6 (by kernel_rfl)) a_nil) rfl) rfl)
  (ss_cons (s_if (t_not (t_tru (e_callZ (co__law_same Z 12) takesB (hr.mono (by omega)) (gl_ (by kernel_rfl)) (a_cons (e_callZ (co__law_call Z) takesB (hr.mono (by omega)) (gl_ (by kernel_rfl)) (a_cons e_str (a_cons (e_lst (a_cons (e_v 6 (by kernel_rfl)) a_nil)) (a_cons (e_v 1 (by kernel_rfl)) a_nil))) rfl) (a_cons (e_lst (a_cons e_str (a_cons (e_v 7 (by kernel_rfl)) a_nil))) a_nil)) rfl) (fun _ => rfl))) (ss_one (s_ret e_bl)) ss_nil)
  (ss_one (s_setV 1 S.nd (by kernel_rfl) (e_not (e_v 1 (by kernel_rfl))) rfl)))))))))
  (ss_one (s_ret e_bl))))
theorem sc__law_tidy_right : FnScope N__law_tidy_right ["box", "named"] (defScope st__law_tidy_right) := ⟨rfl, rfl, rfl, by decide +kernel, rfl, by decide +kernel, by decide +kernel⟩
theorem co__law_tidy_right (Z : ZF K mg base) : CO P w K mg base Tb "_law_tidy_right" 14 ["box", "named"] g__law_tidy_right := by
  have S := sc__law_tidy_right
  exact Z.co 51 70 rfl rfl S (fun _ _ _ _ _ _ us hl => match us, hl with | [_, _], _ => by kernel_rfl) fun cdv A outer s H E hr => (ss_cons (s_for passB rfl (i_range1 (gl_ (by kernel_rfl)) (Z.free 16) (a_cons e_int a_nil)) (g_nameV 2 S.nd (by kernel_rfl) (.inl rfl)) (ss_cons (s_setV 3 S.nd (by kernel_rfl) (e_callZ (co__law_told_drawn Z) takesB (hr.mono (by omega)) (gl_ (by kernel_rfl)) (a_cons (e_v 0 (by kernel_rfl)) (a_cons (e_if (PW.pt (t_and (t_cmp (op_pEq hr.units) (e_v 2 (by kernel_rfl)) e_int (nomark _)) (pw_and1 (t_cmp (op_pEq hr.units) (e_callZ (co__law_take Z) takesB (hr.mono (by omega)) (gl_ (by kernel_rfl)) (a_cons (e_v 0 (by kernel_rfl)) (a_cons e_int a_nil)) rfl) e_int (nomark _))))) e_int (e_callZ (co__law_take Z) takesB (hr.mono (by omega)) (gl_ (by kernel_rfl)) (a_cons (e_v 0 (by kernel_rfl)) (a_cons e_int a_nil)) rfl)) a_nil)) rfl) rfl)
  (ss_one (s_for passB rfl (i_seq (e_lst (a_cons (e_tup (a_cons e_str (a_cons (e_callZ (co__law_divided Z) takesB (hr.mono (by omega)) (gl_ (by kernel_rfl)) (a_cons (e_v 3 (by kernel_rfl)) a_nil) rfl) a_nil))) (a_cons (e_tup (a_cons e_str (a_cons (e_callZ (co__law_turned Z) takesB (hr.mono (by omega)) (gl_ (by kernel_rfl)) (a_cons (e_v 3 (by kernel_rfl)) a_nil) rfl) a_nil))) (a_cons (e_tup (a_cons e_str (a_cons (e_callZ (co__law_divided Z) takesB (hr.mono (by omega)) (gl_ (by kernel_rfl)) (a_cons (e_v 3 (by kernel_rfl)) a_nil) rfl) a_nil))) a_nil))))) (g_tupZ rfl (gs_cons (g_nameV 4 S.nd (by kernel_rfl) (.inl rfl)) (gs_cons (g_nameV 5 S.nd (by kernel_rfl) (.inl rfl)) gs_nil))) (ss_cons (s_if (t_not (t_tru (e_callZ (co__law_same Z 12) takesB (hr.mono (by omega)) (gl_ (by kernel_rfl)) (a_cons (e_callZ (co__law_call Z) takesB (hr.mono (by omega)) (gl_ (by kernel_rfl)) (a_cons (e_v 4 (by kernel_rfl)) (a_cons (e_lst (a_cons (e_v 3 (by kernel_rfl)) a_nil)) (a_cons (e_v 1 (by kernel_rfl)) a_nil))) rfl) (a_cons (e_lst (a_cons e_str (a_cons (e_v 5 (by kernel_rfl)) a_nil))) a_nil)) rfl) (fun _ => rfl))) (ss_one (s_ret e_bl)) ss_nil)
  (ss_one (s_setV 1 S.nd (by kernel_rfl) (e_not (e_v 1 (by kernel_rfl))) rfl)))))))
  (ss_one (s_ret e_bl)))
theorem sc__law_refused_right : FnScope N__law_refused_right ["box", "named"] (defScope st__law_refused_right) := ⟨rfl, rfl, rfl, by decide +kernel, rfl, by decide +kernel, by decide +kernel⟩
theorem co__law_refused_right (Z : ZF K mg base) : CO P w K mg base Tb "_law_refused_right" 15 ["box", "named"] g__law_refused_right := by
  have S := sc__law_refused_right
  exact Z.co 52 71 rfl rfl S (fun _ _ _ _ _ _ us hl => match us, hl with | [_, _], _ => by kernel_rfl) fun cdv A outer s H E hr => (ss_cons (s_setV 2 S.nd (by kernel_rfl) (e_callZ (co__law_tops Z) takesB (hr.mono (by omega)) (gl_ (by kernel_rfl)) (a_cons (e_v 0 (by kernel_rfl)) (a_cons (e_bin op_pAdd e_int (e_callZ (co__law_take Z) takesB (hr.mono (by omega)) (gl_ (by kernel_rfl)) (a_cons (e_v 0 (by kernel_rfl)) (a_cons e_int a_nil)) rfl)) a_nil)) rfl) rfl)
  (ss_cons (s_par (i := 9) (j := 10) rfl S.nd rfl rfl (by decide) (by kernel_rfl) (by kernel_rfl) (a_cons (e_callZ (co__law_drawn Z) takesB (hr.mono (by omega)) (gl_ (by kernel_rfl)) (a_cons (e_v 0 (by kernel_rfl)) (a_cons (e_v 2 (by kernel_rfl)) a_nil)) rfl) (a_cons (e_callZ (co__law_take Z) takesB (hr.mono (by omega)) (gl_ (by kernel_rfl)) (a_cons (e_v 0 (by kernel_rfl)) (a_cons (e_callB call_pLen (gl_ (by kernel_rfl)) (Z.free 4) PyProof.Rows.Boot.«len» (a_cons (e_v 2 (by kernel_rfl)) a_nil)) a_nil)) rfl) a_nil)) (by rfl))
  (ss_cons (s_asg (e_ix (e_v 2 (by kernel_rfl)) (e_v 10 (by kernel_rfl)) (fun _ _ => rfl)) (g_tupZ rfl (gs_cons (g_nameV 11 S.nd (by kernel_rfl) (.inl rfl)) (gs_cons (g_nameV 12 S.nd (by kernel_rfl) (.inl rfl)) gs_nil))))
  (ss_cons (s_setV 3 S.nd (by kernel_rfl) (e_lst (a_cons (e_tup (a_cons (e_bin op_pMul e_int (e_v 11 (by kernel_rfl))) (a_cons (e_bin op_pMul e_int (e_v 12 (by kernel_rfl))) a_nil))) (a_cons (e_tup (a_cons (e_v 11 (by kernel_rfl)) (a_cons e_int a_nil))) (a_cons (e_lst (a_cons (e_v 11 (by kernel_rfl)) (a_cons (e_v 12 (by kernel_rfl)) a_nil))) (a_cons (e_v 11 (by kernel_rfl)) (a_cons (e_tup (a_cons (e_v 11 (by kernel_rfl)) (a_cons e_bl a_nil))) (a_cons (e_tup (a_cons (e_bin op_pSub e_int (e_v 11 (by kernel_rfl))) (a_cons (e_bin op_pSub e_int (e_v 12 (by kernel_rfl))) a_nil))) (a_cons (e_tup (a_cons (e_v 11 (by kernel_rfl)) (a_cons (e_v 12 (by kernel_rfl)) (a_cons e_int a_nil)))) (a_cons e_non (a_cons e_str a_nil)))))))))) rfl)
  (ss_cons (s_setV 4 S.nd (by kernel_rfl) (e_bin op_pAdd (e_bin op_pAdd (e_sl (e_v 2 (by kernel_rfl)) o_none (o_some (e_v 10 (by kernel_rfl)))) (e_tup (a_cons (e_ix (e_v 3 (by kernel_rfl)) (e_callZ (co__law_take Z) takesB (hr.mono (by omega)) (gl_ (by kernel_rfl)) (a_cons (e_v 0 (by kernel_rfl)) (a_cons e_int a_nil)) rfl) (fun _ _ => rfl)) a_nil))) (e_sl (e_v 2 (by kernel_rfl)) (o_some (e_bin op_pAdd (e_v 10 (by kernel_rfl)) e_int)) o_none)) rfl)
  (ss_cons (s_setV 4 S.nd (by kernel_rfl) (e_ix (e_lst (a_cons (e_v 4 (by kernel_rfl)) (a_cons (e_v 4 (by kernel_rfl)) (a_cons (e_callTy call_pList (gl_ (by kernel_rfl)) (Z.free 15) PyProof.Rows.Boot.«list» (a_cons (e_v 2 (by kernel_rfl)) a_nil)) (a_cons (e_bin op_pAdd (e_v 2 (by kernel_rfl)) (e_tup (a_cons (e_tup (a_cons e_int (a_cons e_int a_nil))) a_nil))) (a_cons (e_sl (e_v 2 (by kernel_rfl)) o_none (o_some (e_neg e_int))) (a_cons e_non (a_cons e_int (a_cons (e_dct (dp_cons e_int dp_nil) rfl rfl (by simp) (by decide) (by decide) (by decide)) a_nil))))))))) (e_callZ (co__law_take Z) takesB (hr.mono (by omega)) (gl_ (by kernel_rfl)) (a_cons (e_v 0 (by kernel_rfl)) (a_cons e_int a_nil)) rfl) (fun _ _ => rfl)) rfl)
  (ss_cons (s_setLc (i := 5) (own := [(("value" : Str), 17)]) rfl S.nd rfl (by kernel_rfl) (by rfl) (i_seq (e_lst (a_cons (e_callZ (co__law_any Z) takesB (hr.mono (by omega)) (gl_ (by kernel_rfl)) (a_cons (e_v 0 (by kernel_rfl)) a_nil) rfl) (a_cons (e_callZ (co__law_spoilt Z) takesB (hr.mono (by omega)) (gl_ (by kernel_rfl)) (a_cons (e_v 0 (by kernel_rfl)) (a_cons (e_v 9 (by kernel_rfl)) a_nil)) rfl) (a_cons (e_callZ (co__law_spoilt Z) takesB (hr.mono (by omega)) (gl_ (by kernel_rfl)) (a_cons (e_v 0 (by kernel_rfl)) (a_cons (e_v 9 (by kernel_rfl)) a_nil)) rfl) (a_cons (e_lst (a_cons e_str a_nil)) a_nil)))))) (blk_of (by kernel_rfl)) (fun _ _ _ _ _ => (g_nameV 17 S.nd (by kernel_rfl) (by first | exact .inl rfl | exact .inr rfl))) (fun _ _ _ _ _ => (ts_one (t_not (t_tru (e_callZ (co__law_is_system Z) takesN (hr.mono (by omega)) (gl_ (by kernel_rfl)) (a_cons (e_v 17 (by kernel_rfl)) a_nil) rfl) (fun _ => rfl))))) (fun _ _ _ _ _ => (e_v 17 (by kernel_rfl))))
  (ss_cons (s_setV 6 S.nd (by kernel_rfl) (e_bin op_pAdd (e_bin op_pAdd (e_lock (i := 5) (e_lc (own := [(("odd" : Str), 19)]) rfl S.nd (i_seqK (e_v 5 (by kernel_rfl))) (blk_of (by kernel_rfl)) (fun _ _ _ _ _ => (g_nameV 19 S.nd (by kernel_rfl) (by first | exact .inl rfl | exact .inr rfl))) (fun _ _ _ _ _ => ts_nil) (fun _ _ _ _ _ => (e_lst (a_cons e_str (a_cons (e_lst (a_cons (e_v 19 (by kernel_rfl)) (a_cons (e_v 4 (by kernel_rfl)) a_nil))) (a_cons e_str (a_cons e_int a_nil)))))))) (e_lock (i := 5) (e_lc (own := [(("odd" : Str), 19)]) rfl S.nd (i_seqK (e_v 5 (by kernel_rfl))) (blk_of (by kernel_rfl)) (fun _ _ _ _ _ => (g_nameV 19 S.nd (by kernel_rfl) (by first | exact .inl rfl | exact .inr rfl))) (fun _ _ _ _ _ => ts_nil) (fun _ _ _ _ _ => (e_lst (a_cons e_str (a_cons (e_lst (a_cons (e_v 19 (by kernel_rfl)) (a_cons (e_v 2 (by kernel_rfl)) a_nil))) (a_cons e_str (a_cons e_int a_nil))))))))) (e_lst (a_cons (e_lst (a_cons e_str (a_cons (e_lst (a_cons (e_v 9 (by kernel_rfl)) (a_cons (e_v 4 (by kernel_rfl)) a_nil))) (a_cons e_str (a_cons e_int a_nil))))) a_nil))) rfl)
  (ss_cons (s_setV 7 S.nd (by kernel_rfl) (e_lst (a_cons (e_tup a_nil) (a_cons (e_tup (a_cons e_int a_nil)) (a_cons (e_tup (a_cons e_int (a_cons e_int a_nil))) (a_cons (e_lst (a_cons e_int (a_cons e_int a_nil))) (a_cons e_non (a_cons e_str (a_cons e_int (a_cons (e_tup (a_cons e_int (a_cons e_bl a_nil))) (a_cons (e_tup (a_cons e_int (a_cons (e_tup (a_cons e_int (a_cons e_int a_nil))) a_nil))) (a_cons (e_tup (a_cons e_int (a_cons e_non a_nil))) (a_cons (e_dct (dp_cons e_int dp_nil) rfl rfl (by simp) (by decide) (by decide) (by decide)) (a_cons (e_tup (a_cons e_int (a_cons e_int (a_cons e_bl a_nil)))) (a_cons (e_tup (a_cons (e_tup (a_cons e_int (a_cons e_int a_nil))) a_nil)) (a_cons (e_lst (a_cons e_int a_nil)) (a_cons (e_tup (a_cons e_str (a_cons e_int a_nil))) (a_cons (e_tup (a_cons e_int (a_cons e_int (a_cons e_int (a_cons e_int a_nil))))) a_nil))))))))))))))))) rfl)
  (ss_cons (s_for passB rfl (i_seq (e_lst (a_cons e_str (a_cons e_str a_nil)))) (g_nameV 8 S.nd (by kernel_rfl) (.inl rfl)) (ss_cons (s_expr (e_mthL PySem.F.slot_list_append rfl mt_pAppend (e_v 6 (by kernel_rfl)) (a_cons (e_lst (a_cons (e_v 8 (by kernel_rfl)) (a_cons (e_lst (a_cons (e_ix (e_v 7 (by kernel_rfl)) (e_callZ (co__law_take Z) takesB (hr.mono (by omega)) (gl_ (by kernel_rfl)) (a_cons (e_v 0 (by kernel_rfl)) (a_cons e_int a_nil)) rfl) (fun _ _ => rfl)) a_nil)) (a_cons e_str (a_cons e_int a_nil))))) a_nil)))
  (ss_one (s_expr (e_mthL PySem.F.slot_list_append rfl mt_pAppend (e_v 6 (by kernel_rfl)) (a_cons (e_lst (a_cons (e_v 8 (by kernel_rfl)) (a_cons (e_lst (a_cons (e_ix (e_v 7 (by kernel_rfl)) (e_callZ (co__law_take Z) takesB (hr.mono (by omega)) (gl_ (by kernel_rfl)) (a_cons (e_v 0 (by kernel_rfl)) (a_cons e_int a_nil)) rfl) (fun _ _ => rfl)) a_nil)) (a_cons e_str (a_cons e_int a_nil))))) a_nil))))))
  (ss_cons (s_for passB rfl (i_seqK (e_v 6 (by kernel_rfl))) (g_tupZ rfl (gs_cons (g_nameV 8 S.nd (by kernel_rfl) (.inl rfl)) (gs_cons (g_nameV 13 S.nd (by kernel_rfl) (.inl rfl)) (gs_cons (g_nameV 14 S.nd (by kernel_rfl) (.inl rfl)) (gs_cons (g_nameV 15 S.nd (by kernel_rfl) (.inl rfl)) gs_nil))))) (ss_cons (s_setLc (i := 13) (own := [(("item" : Str), 18)]) rfl S.nd rfl (by kernel_rfl) (by rfl) (i_seq (e_v 13 (by kernel_rfl))) (blk_of (by kernel_rfl)) (fun _ _ _ _ _ => (g_nameV 18 S.nd (by kernel_rfl) (by first | exact .inl rfl | exact .inr rfl))) (fun _ _ _ _ _ => ts_nil) (fun _ _ _ _ _ => (e_callZ (co__law_copy Z) takesN (hr.mono (by omega)) (gl_ (by kernel_rfl)) (a_cons (e_v 18 (by kernel_rfl)) a_nil) rfl)))
  (ss_cons (s_setV 16 S.nd (by kernel_rfl) (e_callZ (co__law_call Z) takesB (hr.mono (by omega)) (gl_ (by kernel_rfl)) (a_cons (e_v 8 (by kernel_rfl)) (a_cons (e_v 13 (by kernel_rfl)) (a_cons (e_v 1 (by kernel_rfl)) a_nil))) rfl) rfl)
  (ss_cons (s_if (PW.pt (t_or (t_cmp (op_pNe hr.units) (e_ix (e_v 16 (by kernel_rfl)) e_int (fun _ _ => rfl)) (e_v 14 (by kernel_rfl)) (nomark _)) (pw_or1 (t_not (t_tru (e_callZ (co__law_blamed Z) takesB (hr.mono (by omega)) (gl_ (by kernel_rfl)) (a_cons (e_ix (e_v 16 (by kernel_rfl)) e_int (fun _ _ => rfl)) (a_cons (e_ix (e_v 13 (by kernel_rfl)) (e_v 15 (by kernel_rfl)) (fun _ _ => rfl)) a_nil)) rfl) (fun _ => rfl)))))) (ss_one (s_ret e_bl)) ss_nil)
  (ss_one (s_setV 1 S.nd (by kernel_rfl) (e_not (e_v 1 (by kernel_rfl))) rfl))))))
  (ss_one (s_ret e_bl)))))))))))))
theorem sc_law : FnScope N_law ["script"] (defScope st_law) := ⟨rfl, rfl, rfl, by decide +kernel, rfl, by decide +kernel, by decide +kernel⟩
theorem co_law (Z : ZF K mg base) : CO P w K mg base Tb "law" 16 ["script"] g_law := by
  have S := sc_law
  exact Z.co 53 72 rfl rfl S (fun _ _ _ _ _ _ us hl => match us, hl with | [_], _ => by kernel_rfl) fun cdv A outer s H E hr => (ss_cons (s_for passB rfl (i_range1 (gl_ (by kernel_rfl)) (Z.free 16) (a_cons (e_callB (call_pMax2 rfl) (gl_ (by kernel_rfl)) (Z.free 18) PyProof.Rows.Boot.«max» (a_cons e_int (a_cons (e_callB (call_pMin2 rfl) (gl_ (by kernel_rfl)) (Z.free 17) PyProof.Rows.Boot.«min» (a_cons e_int (a_cons (e_callB call_pLen (gl_ (by kernel_rfl)) (Z.free 4) PyProof.Rows.Boot.«len» (a_cons (e_v 0 (by kernel_rfl)) a_nil)) a_nil))) a_nil))) a_nil)) (g_nameV 1 S.nd (by kernel_rfl) (.inl rfl)) (ss_cons (s_setV 2 S.nd (by kernel_rfl) (e_callZ (co__law_box Z) takesB (hr.mono (by omega)) (gl_ (by kernel_rfl)) (a_cons (e_callZ (co__law_cell Z) takesB (hr.mono (by omega)) (gl_ (by kernel_rfl)) (a_cons (e_v 0 (by kernel_rfl)) (a_cons (e_v 1 (by kernel_rfl)) a_nil)) rfl) a_nil) rfl) rfl)
  (ss_cons (s_par (i := 3) (j := 4) rfl S.nd rfl rfl (by decide) (by kernel_rfl) (by kernel_rfl) (a_cons (e_callZ (co__law_take Z) takesB (hr.mono (by omega)) (gl_ (by kernel_rfl)) (a_cons (e_v 2 (by kernel_rfl)) (a_cons e_int a_nil)) rfl) (a_cons (e_cmp (op_pEq hr.units) (e_callZ (co__law_take Z) takesB (hr.mono (by omega)) (gl_ (by kernel_rfl)) (a_cons (e_v 2 (by kernel_rfl)) (a_cons e_int a_nil)) rfl) e_int (nomark _)) a_nil)) (by rfl))
  (ss_cons (s_if (PW.pt (t_and (t_cmp (op_pEq hr.units) (e_v 3 (by kernel_rfl)) e_int (nomark _)) (pw_and1 (t_not (t_tru (e_callZ (co__law_great_right Z) takesB (hr.mono (by omega)) (gl_ (by kernel_rfl)) (a_cons (e_v 2 (by kernel_rfl)) (a_cons (e_v 4 (by kernel_rfl)) a_nil)) rfl) (fun _ => rfl)))))) (ss_one (s_ret e_bl)) ss_nil)
  (ss_one (s_if (PW.pt (t_or (t_not (t_tru (e_callZ (co__law_holds_right Z) takesB (hr.mono (by omega)) (gl_ (by kernel_rfl)) (a_cons (e_v 2 (by kernel_rfl)) (a_cons (e_v 4 (by kernel_rfl)) a_nil)) rfl) (fun _ => rfl))) (t_or (t_not (t_tru (e_callZ (co__law_tidy_right Z) takesB (hr.mono (by omega)) (gl_ (by kernel_rfl)) (a_cons (e_v 2 (by kernel_rfl)) (a_cons (e_not (e_v 4 (by kernel_rfl))) a_nil)) rfl) (fun _ => rfl))) (pw_or1 (t_not (t_tru (e_callZ (co__law_refused_right Z) takesB (hr.mono (by omega)) (gl_ (by kernel_rfl)) (a_cons (e_v 2 (by kernel_rfl)) (a_cons (e_v 4 (by kernel_rfl)) a_nil)) rfl) (fun _ => rfl))))))) (ss_one (s_ret e_bl)) ss_nil))))))
  (ss_one (s_ret e_bl)))
end
end Kk12
end Lay

set_option Elab.async false
set_option linter.all false
set_option maxRecDepth 100000
set_option maxHeartbeats 4000000
/-! the head -/
namespace Lay
namespace Kk12
open PySem PySem.Spec PyProof.Rows L2
theorem holds_of (hD : ∀ ns : List Int, ns.length ≤ 63 → ∃ S', g_law [.ref 0] [.ro (ns.map D.int)] = .ok (.bl true) S') : PySem.Challenge.rw_wiresay_k12_systems_and_tidy_rows.Holds := by
  w_on; o_law
  refine HandSHeadRun.head_any (r := R) (q := PySem.W.view R.prog [64]) (H := hk) (ob := ob) (M := 40000) (loose := loose) (d := HandSHeadRun.topDef R.prog 64) (kwd := []) ob_eq
    (by kernel_rfl) (fun s => by kernel_rfl) run (by kernel_rfl) (by kernel_rfl) (by kernel_rfl) (by rfl) (by first | assumption | decide +kernel) (by decide +kernel) ⟨rfl, rfl, rfl, rfl, rfl, by decide +kernel⟩ ?hw ?hc
  case hw => w_witness2
  case hc =>
    refine walkL (n := 63) (k := 16) (T := Tb) (g := g_law) rfl (by decide) (by kernel_rfl) ⟨rfl, by decide, by decide⟩ (by kernel_rfl) (fun w K mg base Z => ⟨co_law Z, fun s us hl => ?_⟩) hD
    exact (Z.fun_ 53 (p := ("law", none)) (qual := "law") (st := st_law) rfl).bindsA (ps := ["script"]) (fun _ _ _ _ _ _ us hl => match us, hl with | [_], _ => by kernel_rfl) s us hl

end Kk12
end Lay

set_option Elab.async false
set_option linter.all false
set_option maxRecDepth 100000
set_option maxHeartbeats 4000000
/-! L12: reasoning about the functions. -/
namespace Lay
open PySem PySem.Spec PyProof.Rows L2
open Classical
theorem nr {α : Sort _} {a b : α} (h : a = b) : a = b := h
/-! ### what a result must be -/
def wpR {α : Type} (r : Res α) (Q : α → Store → Prop) (E : Ex → Store → Prop) : Prop := match r with
  | .ok a S => Q a S
  | .exc e S => E e S
  | .bad => False
structure Ps where
  n : SD → Store → Prop
  r : D → Store → Prop
  b : SD → Store → Prop := fun _ _ => False
  c : SD → Store → Prop := fun _ _ => False
  e : Ex → SD → Store → Prop := fun _ _ _ => False
def wpS (r : SRes) (P : Ps) : Prop := match r with
  | .nx sd S => P.n sd S
  | .rt d S => P.r d S
  | .bk sd S => P.b sd S
  | .ct sd S => P.c sd S
  | .exc e sd S => P.e e sd S
  | .bad => False
def wpP {α : Type} (p : Pr α) (Q : α → Store → Prop) : Prop := match p with
  | some z => Q z.1 z.2
  | none => False
section
variable {α β : Type} {Q : α → Store → Prop} {E : Ex → Store → Prop} {sd : SD} {S : Store}
@[simp] theorem wpR_ok (a : α) (S : Store) : wpR (.ok a S) Q E = Q a S := nr rfl
@[simp] theorem wpR_exc (e : Ex) (S : Store) : wpR (.exc e S) Q E = E e S := nr rfl
@[simp] theorem wpR_bad : wpR (.bad : Res α) Q E = False := nr rfl
@[simp] theorem wpR_ofO (p : Pr α) : wpR (.ofO p) Q E = wpP p Q := by cases p <;> rfl
theorem wpR_bind (m : SD → Store → Res β) (f : β → SD → Store → Res α) (sd : SD) (S : Store) : wpR (eBind m f sd S) Q E = wpR (m sd S) (fun a S' => wpR (f a sd S') Q E) E := by
  unfold eBind
  cases m sd S <;> rfl
theorem wpR_mono {r : Res α} {Q Q' : α → Store → Prop} {E E' : Ex → Store → Prop} (h : wpR r Q E) (hq : ∀ a S, Q a S → Q' a S) (he : ∀ e S, E e S → E' e S) : wpR r Q' E' := by
  cases r with
  | ok a S => exact hq a S h
  | exc e S => exact he e S h
  | bad => exact h
theorem wpR_eq {r : Res α} {a : α} {S : Store} (h : r = .ok a S) (q : Q a S) : wpR r Q E := by rw [h]; exact q
theorem wpR_ex {r : Res α} (h : wpR r Q fun _ _ => False) : ∃ a S, r = .ok a S ∧ Q a S := by
  cases r with
  | ok a S => exact ⟨a, S, rfl, h⟩
  | exc e S => exact h.elim
  | bad => exact h.elim
theorem wpR_var (i : Nat) {Q : D → Store → Prop} : wpR (eVar i sd S) Q E = ∃ d, sd[i]? = some (some d) ∧ Q d S := by
  unfold eVar
  cases h : sd[i]? with
  | none => simp
  | some o => cases o <;> simp
theorem wpR_c (d : D) {Q : D → Store → Prop} : wpR (eC d sd S) Q E = Q d S := nr rfl
@[simp] theorem wpP_some (a : α) (S : Store) : wpP (some (a, S)) Q = Q a S := nr rfl
@[simp] theorem wpP_none : wpP (none : Pr α) Q = False := nr rfl
@[simp] theorem wpP_ite (c : Prop) [Decidable c] (a b : Pr α) : wpP (if c then a else b) Q = if c then wpP a Q else wpP b Q := by split <;> rfl
@[simp] theorem wpR_ite (c : Prop) [Decidable c] (a b : Res α) : wpR (if c then a else b) Q E = if c then wpR a Q E else wpR b Q E := by split <;> rfl
end
/-! ### operations on ints -/
section
variable {Q : D → Store → Prop} {S : Store} {i j : Int}
@[simp] theorem wp_add : wpP (pAdd (.int i) (.int j) S) Q = Q (.int (i + j)) S := nr rfl
@[simp] theorem wp_sub : wpP (pSub (.int i) (.int j) S) Q = Q (.int (i - j)) S := nr rfl
@[simp] theorem wp_mul : wpP (pMul (.int i) (.int j) S) Q = (mulFits i j = true ∧ Q (.int (i * j)) S) := by
  unfold pMul onInts; simp
@[simp] theorem wp_div : wpP (pDiv (.int i) (.int j) S) Q = (divFits i j = true ∧ Q (.int (i / j)) S) := by
  unfold pDiv onInts; simp
@[simp] theorem wp_mod : wpP (pMod (.int i) (.int j) S) Q = (0 < j ∧ Q (.int (i % j)) S) := by
  unfold pMod onInts modFits; simp
@[simp] theorem wp_pow : wpP (pPow (.int i) (.int j) S) Q = (powFits i j = true ∧ Q (.int (i ^ j.toNat)) S) := by
  unfold pPow onInts; simp
@[simp] theorem wp_lt : wpP (pLt (.int i) (.int j) S) Q = Q (.bl (decide (i < j))) S := nr rfl
@[simp] theorem wp_le : wpP (pLe (.int i) (.int j) S) Q = Q (.bl (decide (i ≤ j))) S := nr rfl
@[simp] theorem wp_gt : wpP (pGt (.int i) (.int j) S) Q = Q (.bl (decide (j < i))) S := nr rfl
@[simp] theorem wp_ge : wpP (pGe (.int i) (.int j) S) Q = Q (.bl (decide (j ≤ i))) S := nr rfl
theorem pEqB_int : pEqB (.int i) (.int j) S = some (decide (i = j)) := by
  unfold pEqB
  simp only [toPy]
  rw [if_pos (by rfl)]
  congr 1
theorem pEqB_bl {a b : Bool} : pEqB (.bl a) (.bl b) S = some (a == b) := by
  unfold pEqB
  simp only [toPy]
  rw [if_pos (by rfl)]
  cases a <;> cases b <;> rfl
def okS (a : Str) : Bool := SeqAt.shaped (.str a)
theorem pEqB_str {a b : Str} (ha : okS a = true) (hb : okS b = true) : pEqB (.str a) (.str b) S = some (decide (a = b)) := by
  unfold pEqB
  unfold okS at ha hb
  simp only [toPy]
  rw [if_pos (by rw [ha, hb]; rfl)]
  congr 1
@[simp] theorem wp_eq : wpP (pEq (.int i) (.int j) S) Q = Q (.bl (decide (i = j))) S := by unfold pEq; rw [pEqB_int]; rfl
@[simp] theorem wp_ne : wpP (pNe (.int i) (.int j) S) Q = Q (.bl (!decide (i = j))) S := by unfold pNe; rw [pEqB_int]; rfl
@[simp] theorem wp_eqb {a b : Bool} : wpP (pEq (.bl a) (.bl b) S) Q = Q (.bl (a == b)) S := by unfold pEq; rw [pEqB_bl]; rfl
@[simp] theorem wp_neb {a b : Bool} : wpP (pNe (.bl a) (.bl b) S) Q = Q (.bl (!(a == b))) S := by unfold pNe; rw [pEqB_bl]; rfl
theorem wp_eqs {a b : Str} (ha : okS a = true) (hb : okS b = true) : wpP (pEq (.str a) (.str b) S) Q = Q (.bl (decide (a = b))) S := by unfold pEq; rw [pEqB_str ha hb]; rfl
theorem wp_nes {a b : Str} (ha : okS a = true) (hb : okS b = true) : wpP (pNe (.str a) (.str b) S) Q = Q (.bl (!decide (a = b))) S := by unfold pNe; rw [pEqB_str ha hb]; rfl
end
/-! ### statements -/
section
variable {P : Ps} {sd : SD} {S : Store} {α : Type}
@[simp] theorem wpS_nx (sd : SD) (S : Store) : wpS (.nx sd S) P = P.n sd S := nr rfl
@[simp] theorem wpS_rt (d : D) (S : Store) : wpS (.rt d S) P = P.r d S := nr rfl
@[simp] theorem wpS_bk (sd : SD) (S : Store) : wpS (.bk sd S) P = P.b sd S := nr rfl
@[simp] theorem wpS_ct (sd : SD) (S : Store) : wpS (.ct sd S) P = P.c sd S := nr rfl
@[simp] theorem wpS_exc (e : Ex) (sd : SD) (S : Store) : wpS (.exc e sd S) P = P.e e sd S := nr rfl
@[simp] theorem wpS_bad : wpS .bad P = False := nr rfl
@[simp] theorem wpS_ite (c : Prop) [Decidable c] (a b : SRes) : wpS (if c then a else b) P = if c then wpS a P else wpS b P := by split <;> rfl
theorem wpS_bind (m : SD → Store → Res α) (k : α → FF) : wpS (sBind m k sd S) P = wpR (m sd S) (fun a S' => wpS (k a sd S') P) (fun x S' => P.e x sd S') := by
  unfold sBind
  cases m sd S <;> rfl
theorem wpS_seq (F G : FF) : wpS (sSeq F G sd S) P = wpS (F sd S) { P with n := fun sd' S' => wpS (G sd' S') P } := by
  unfold sSeq
  cases F sd S <;> rfl
theorem wpS_next : wpS (sNext sd S) P = P.n sd S := nr rfl
theorem wpS_if (t : EB) (F G : FF) : wpS (sIf t F G sd S) P = wpR (t sd S) (fun b S' => if b then wpS (F sd S') P else wpS (G sd S') P) (fun x S' => P.e x sd S') := by
  unfold sIf
  rw [wpS_bind]
  congr 1
  funext b S'
  cases b <;> rfl
theorem wpS_mono {r : SRes} {P P' : Ps} (h : wpS r P) (hn : ∀ a S, P.n a S → P'.n a S) (hr : ∀ a S, P.r a S → P'.r a S) (hb : ∀ a S, P.b a S → P'.b a S) (hc : ∀ a S, P.c a S → P'.c a S) (he : ∀ a sd S, P.e a sd S → P'.e a sd S) : wpS r P' := by
  cases r with
  | nx a S => exact hn a S h
  | rt a S => exact hr a S h
  | bk a S => exact hb a S h
  | ct a S => exact hc a S h
  | exc e a S => exact he e a S h
  | bad => exact h
/-- a def's result -/
theorem wp_fn {n np : Nat} {F : FF} {ds : List D} {Q : D → Store → Prop} {E : Ex → Store → Prop} (hl : ds.length = np) (h : wpS (F (startD n ds) S) { n := fun _ S' => Q .non S', r := Q, e := fun x _ S' => E x S' }) : wpR (fnD n np F ds S) Q E := by
  unfold fnD
  rw [if_pos hl]
  cases e : F (startD n ds) S with
  | nx a S' => rw [e] at h; exact h
  | rt d S' => rw [e] at h; exact h
  | exc x a S' => rw [e] at h; exact h
  | bk a S' => rw [e] at h; exact h.elim
  | ct a S' => rw [e] at h; exact h.elim
  | bad => rw [e] at h; exact h.elim
/-- while: an invariant that goes down -/
theorem wp_while {t : EB} {F : FF} {P : Ps} (Inv : Nat → SD → Store → Prop)
    (step : ∀ n sd S, Inv n sd S → wpR (t sd S) (fun b S1 => if b then wpS (F sd S1) { P with n := fun sd' S' => ∃ m, m < n ∧ Inv m sd' S', c := fun sd' S' => ∃ m, m < n ∧ Inv m sd' S', b := P.n } else P.n sd S1) fun x S1 => P.e x sd S1) :
    ∀ n sd S, Inv n sd S → wpS (sWhile t F sd S) P := by
  intro n
  induction n using Nat.strongRecOn with
  | _ n ih =>
    intro sd S hi
    have st := step n sd S hi
    unfold sWhile
    rw [loopFix_eq]
    unfold whStep
    cases et : t sd S with
    | bad => rw [et] at st; exact st.elim
    | exc e S1 => rw [et] at st; exact st
    | ok b S1 =>
      rw [et] at st
      cases b with
      | false => exact st
      | true =>
        simp only [wpR_ok, if_true] at st
        dsimp only
        cases ef : F sd S1 with
        | nx sd' S' => rw [ef] at st; obtain ⟨m, hm, hi'⟩ := st; exact ih m hm sd' S' hi'
        | ct sd' S' => rw [ef] at st; obtain ⟨m, hm, hi'⟩ := st; exact ih m hm sd' S' hi'
        | bk sd' S' => rw [ef] at st; exact st
        | rt d S' => rw [ef] at st; exact st
        | exc e sd' S' => rw [ef] at st; exact st
        | bad => rw [ef] at st; exact st.elim
/-- for: an invariant by the number of turns -/
theorem wp_for {g : GD} {F : FF} {chk : Store → Prop} {P : Ps} (Inv : Nat → SD → Store → Prop) : ∀ (ds : List D) (i : Nat) (sd : SD) (S : Store), Inv i sd S →
    (∀ j d sd S, ds[j]? = some d → Inv (i + j) sd S → chk S ∧ ∃ z, g d sd S = some z ∧ wpS (F z.1 z.2) { P with n := Inv (i + j + 1), c := Inv (i + j + 1), b := P.n }) →
    (∀ sd S, Inv (i + ds.length) sd S → chk S ∧ P.n sd S) → wpS (forD g F chk ds sd S) P
  | [], i, sd, S, hi, _, fin => by
    obtain ⟨c, q⟩ := fin sd S hi
    unfold forD
    rw [if_pos c]
    exact q
  | d :: ds, i, sd, S, hi, step, fin => by
    obtain ⟨c, z, e, st⟩ := step 0 d sd S rfl hi
    unfold forD
    rw [if_pos c, e]
    have next : ∀ sd' S', Inv (i + 1) sd' S' → wpS (forD g F chk ds sd' S') P := fun sd' S' h => wp_for Inv ds (i + 1) sd' S' h
      (fun j d' sd S e2 hi2 => by
        have w := step (j + 1) d' sd S (by simpa using e2) (by have : i + (j + 1) = i + 1 + j := by omega
                                                               rw [this]; exact hi2)
        have q : i + (j + 1) + 1 = i + 1 + j + 1 := by omega
        rw [q] at w
        exact w)
      fun sd S hi2 => fin sd S (by rw [List.length_cons]; have : i + (ds.length + 1) = i + 1 + ds.length := by omega
                                   rw [this]; exact hi2)
    dsimp only
    cases ef : F z.1 z.2 with
    | nx sd' S' => rw [ef] at st; exact next sd' S' st
    | ct sd' S' => rw [ef] at st; exact next sd' S' st
    | bk sd' S' => rw [ef] at st; exact st
    | rt d S' => rw [ef] at st; exact st
    | exc e sd' S' => rw [ef] at st; exact st
    | bad => rw [ef] at st; exact st.elim
/-- a comprehension: what it has gathered -/
theorem wp_lc {n : Nat} {g : GD} {tt : EB} {te : EE} {vs : List Nat} {chk : Store → Prop} {sd : SD} (Inv : Nat → Store → Prop) : ∀ (ds : List D) (i : Nat) (S : Store), Inv i S →
    (∀ j d S, ds[j]? = some d → Inv (i + j) S → chk S ∧ ∃ z, g d (wipeD sd vs) S = some z ∧ wpR (tt z.1 z.2) (fun b S2 => if b then wpR (te z.1 S2) (fun y S3 => ∃ acc, S3[n]? = some (.lst acc) ∧ fits (acc.length + 1) = true ∧ Inv (i + j + 1) (S3.set n (.lst (acc ++ [y])))) fun _ _ => False
      else Inv (i + j + 1) S2) fun _ _ => False) →
    (∀ S, Inv (i + ds.length) S → chk S) → ∃ S', lcD n g tt te vs chk sd ds S = some S' ∧ Inv (i + ds.length) S'
  | [], i, S, hi, _, fin => ⟨S, by unfold lcD; rw [if_pos (fin S hi)], hi⟩
  | d :: ds, i, S, hi, step, fin => by
    obtain ⟨c, z, e, st⟩ := step 0 d S rfl hi
    have next : ∀ S', Inv (i + 1) S' → ∃ S'', lcD n g tt te vs chk sd ds S' = some S'' ∧ Inv (i + (d :: ds).length) S'' := fun S' h => by
      obtain ⟨S'', e1, e2⟩ := wp_lc Inv ds (i + 1) S' h
        (fun j d' S e2 hi2 => by
          have w := step (j + 1) d' S (by simpa using e2) (by have : i + (j + 1) = i + 1 + j := by omega
                                                              rw [this]; exact hi2)
          have q : i + (j + 1) + 1 = i + 1 + j + 1 := by omega
          rw [q] at w
          exact w)
        fun S hi2 => fin S (by rw [List.length_cons]; have : i + (ds.length + 1) = i + 1 + ds.length := by omega
                               rw [this]; exact hi2)
      exact ⟨S'', e1, by rw [List.length_cons]; have : i + (ds.length + 1) = i + 1 + ds.length := by omega
                         rw [this]; exact e2⟩
    unfold lcD
    rw [if_pos c, e]
    dsimp only
    cases et : tt z.1 z.2 with
    | bad => rw [et] at st; exact st.elim
    | exc x S1 => rw [et] at st; exact st.elim
    | ok b S2 =>
      rw [et] at st
      cases b with
      | false => exact next S2 st
      | true =>
        simp only [wpR_ok, if_true] at st
        dsimp only
        cases ee : te z.1 S2 with
        | bad => rw [ee] at st; exact st.elim
        | exc x S1 => rw [ee] at st; exact st.elim
        | ok y S3 =>
          rw [ee] at st
          obtain ⟨acc, q1, q2, q3⟩ := st
          dsimp only
          rw [q1]
          dsimp only
          rw [if_pos q2]
          exact next _ q3
theorem wp_eLc {it : EI} {g : GD} {tt : EB} {te : EE} {vs : List Nat} {Q : D → Store → Prop} {E : Ex → Store → Prop} (h : wpR (it sd S) (fun t S1 => ∃ S', lcD S1.length g tt te vs t.chk sd t.ds (S1 ++ [.lst []]) = some S' ∧ Q (.ref S1.length) S') E) : wpR (eLc it g tt te vs sd S) Q E := by
  unfold eLc
  rw [wpR_bind]
  refine wpR_mono h (fun t S1 ⟨S', e, q⟩ => ?_) fun _ _ z => z
  rw [e]
  exact q
end
/-! ### the store grows -/
/-- all that stood stands -/
def Fr (S S' : Store) : Prop := ∀ n, n < S.length → S'[n]? = S[n]?
/-- .. but for b -/
def FrB (b : Nat) (S S' : Store) : Prop := S.length ≤ S'.length ∧ ∀ n, n < S.length → n ≠ b → S'[n]? = S[n]?
theorem Fr.refl {S : Store} : Fr S S := fun _ _ => rfl
theorem Fr.le {S S' : Store} (h : Fr S S') : S.length ≤ S'.length := by
  by_cases e : S.length = 0
  · omega
  · have q := h (S.length - 1) (by omega)
    rw [List.getElem?_eq_getElem (by omega : S.length - 1 < S.length)] at q
    have := (List.getElem?_eq_some_iff.mp q).1
    omega
theorem Fr.trans {S S' S'' : Store} (h : Fr S S') (h' : Fr S' S'') : Fr S S'' := fun n hn => (h' n (Nat.lt_of_lt_of_le hn h.le)).trans (h n hn)
theorem Fr.app {S : Store} (T : Store) : Fr S (S ++ T) := fun n hn => List.getElem?_append_left hn
theorem Fr.at {S S' : Store} (h : Fr S S') {n : Nat} {o : SO} (e : S[n]? = some o) : S'[n]? = some o := by
  rw [h n (List.getElem?_eq_some_iff.mp e).1]; exact e
theorem Fr.b {S S' : Store} (h : Fr S S') (b : Nat) : FrB b S S' := ⟨h.le, fun n hn _ => h n hn⟩
theorem FrB.refl {b : Nat} {S : Store} : FrB b S S := ⟨Nat.le_refl _, fun _ _ _ => rfl⟩
theorem FrB.trans {b : Nat} {S S' S'' : Store} (h : FrB b S S') (h' : FrB b S' S'') : FrB b S S'' := ⟨Nat.le_trans h.1 h'.1, fun n hn hb => (h'.2 n (Nat.lt_of_lt_of_le hn h.1) hb).trans (h.2 n hn hb)⟩
theorem FrB.set {b : Nat} {S : Store} (o : SO) : FrB b S (S.set b o) := ⟨by simp, fun n hn hb => List.getElem?_set_ne (Ne.symm hb)⟩
theorem FrB.at {b : Nat} {S S' : Store} (h : FrB b S S') {n : Nat} {o : SO} (e : S[n]? = some o) (hb : n ≠ b) : S'[n]? = some o := by
  rw [h.2 n (List.getElem?_eq_some_iff.mp e).1 hb]; exact e
/-- a later object is written: the older ones stand -/
theorem Fr.set {S S' : Store} (h : Fr S S') {n : Nat} (o : SO) (hn : S.length ≤ n) : Fr S (S'.set n o) := fun m hm => by
  rw [List.getElem?_set_ne (by omega)]; exact h m hm
theorem FrB.setB {b : Nat} {S S' : Store} (h : FrB b S S') {n : Nat} (o : SO) (hn : S.length ≤ n) : FrB b S (S'.set n o) := ⟨by simp [h.1], fun m hm hb => by
  rw [List.getElem?_set_ne (by omega)]; exact h.2 m hm hb⟩
theorem last_at (S : Store) (o : SO) : (S ++ [o])[S.length]? = some o := by simp
end Lay

set_option Elab.async false
set_option linter.all false
set_option maxRecDepth 100000
set_option maxHeartbeats 4000000
/-! L13: the readings of the combinators. -/
namespace Lay
open PySem PySem.Spec PyProof.Rows L2
open Classical
section
variable {Q : D → Store → Prop} {QB : Bool → Store → Prop} {QL : List D → Store → Prop} {QO : Option Int → Store → Prop} {QI : ITd → Store → Prop} {E : Ex → Store → Prop} {sd : SD} {S : Store} {a b c m fa : EE} {t u : EB} {aa : EA} {g : P2} {P : Ps} {T : List Cls}
@[simp] theorem v_var (i : Nat) : wpR (eVar i sd S) Q E = ∃ d, sd[i]? = some (some d) ∧ Q d S := wpR_var i
@[simp] theorem v_c (d : D) : wpR (eC d sd S) Q E = Q d S := nr rfl
@[simp] theorem v_bin : wpR (eBin g a b sd S) Q E = wpR (a sd S) (fun x S1 => wpR (b sd S1) (fun y S2 => wpP (g x y S2) Q) E) E := by
  unfold eBin; simp only [wpR_bind, wpR_ofO]
@[simp] theorem v_chain {g' : P2} : wpR (eChain g g' a b c sd S) Q E = wpR (a sd S) (fun x S1 => wpR (b sd S1) (fun y S2 => wpP (g x y S2) fun z S3 => match z with
    | .bl true => wpR (c sd S3) (fun w S4 => wpP (g' y w S4) Q) E
    | .bl false => Q (.bl false) S3
    | _ => False) E) E := by
  unfold eChain
  simp only [wpR_bind, wpR_ofO]
  congr 1; funext x S1; congr 1; funext y S2; congr 1; funext z S3
  split <;> simp only [wpR_bind, wpR_ofO, wpR_ok, wpR_bad]
@[simp] theorem v_neg : wpR (eNeg a sd S) Q E = wpR (a sd S) (fun x S1 => ∃ i, x = .int i ∧ Q (.int (-i)) S1) E := by
  unfold eNeg; simp only [wpR_bind]
  congr 1; funext x S1
  cases x <;> simp
@[simp] theorem v_asB : wpR (asB m sd S) QB E = wpR (m sd S) (fun x S1 => ∃ k, x = .bl k ∧ QB k S1) E := by
  unfold asB; simp only [wpR_bind]
  congr 1; funext x S1
  cases x <;> simp
@[simp] theorem v_tru : wpR (eTru m sd S) QB E = wpR (m sd S) (fun x S1 => ∃ k, pTru x S1 = some k ∧ QB k S1) E := by
  unfold eTru; simp only [wpR_bind, wpR_ofO]
  congr 1; funext x S1
  cases pTru x S1 <;> simp
@[simp] theorem v_bnot : wpR (bNot t sd S) QB E = wpR (t sd S) (fun k S1 => QB (!k) S1) E := by
  unfold bNot; simp only [wpR_bind, wpR_ok]
@[simp] theorem v_band : wpR (bAnd t u sd S) QB E = wpR (t sd S) (fun k S1 => if k then wpR (u sd S1) QB E else QB false S1) E := by
  unfold bAnd; simp only [wpR_bind]
  congr 1; funext x S1
  cases x <;> rfl
@[simp] theorem v_bor : wpR (bOr t u sd S) QB E = wpR (t sd S) (fun k S1 => if k then QB true S1 else wpR (u sd S1) QB E) E := by
  unfold bOr; simp only [wpR_bind]
  congr 1; funext x S1
  cases x <;> rfl
@[simp] theorem v_not : wpR (eNot a sd S) Q E = wpR (a sd S) (fun x S1 => ∃ k, pTru x S1 = some k ∧ Q (.bl (!k)) S1) E := by
  unfold eNot; simp only [wpR_bind, v_tru, wpR_ok]
@[simp] theorem v_and : wpR (eAnd a b sd S) Q E = wpR (a sd S) (fun x S1 => ∃ k, pTru x S1 = some k ∧ if k then wpR (b sd S1) Q E else Q x S1) E := by
  unfold eAnd; simp only [wpR_bind, wpR_ofO]
  congr 1; funext x S1
  cases pTru x S1 with
  | none => simp
  | some k => cases k <;> simp
@[simp] theorem v_or : wpR (eOr a b sd S) Q E = wpR (a sd S) (fun x S1 => ∃ k, pTru x S1 = some k ∧ if k then Q x S1 else wpR (b sd S1) Q E) E := by
  unfold eOr; simp only [wpR_bind, wpR_ofO]
  congr 1; funext x S1
  cases pTru x S1 with
  | none => simp
  | some k => cases k <;> simp
@[simp] theorem v_if : wpR (eIf t a b sd S) Q E = wpR (t sd S) (fun k S1 => if k then wpR (a sd S1) Q E else wpR (b sd S1) Q E) E := by
  unfold eIf; simp only [wpR_bind]
  congr 1; funext x S1
  cases x <;> rfl
@[simp] theorem v_nil : wpR (aNil sd S) QL E = QL [] S := nr rfl
@[simp] theorem v_cons : wpR (aCons a aa sd S) QL E = wpR (a sd S) (fun x S1 => wpR (aa sd S1) (fun xs S2 => QL (x :: xs) S2) E) E := by
  unfold aCons; simp only [wpR_bind, wpR_ok]
@[simp] theorem v_tup : wpR (eTup aa sd S) Q E = wpR (aa sd S) (fun xs S1 => fits xs.length = true ∧ Q (.tup xs) S1) E := by
  unfold eTup; simp only [wpR_bind, wpR_ite, wpR_ok, wpR_bad]
  congr 1; funext x S1
  simp
@[simp] theorem v_lst : wpR (eLst aa sd S) Q E = wpR (aa sd S) (fun xs S1 => fits xs.length = true ∧ Q (.ref S1.length) (S1 ++ [.lst xs])) E := by
  unfold eLst; simp only [wpR_bind, wpR_ite, wpR_ok, wpR_bad]
  congr 1; funext x S1
  simp
@[simp] theorem v_callB {g : PN} : wpR (eCallB g aa sd S) Q E = wpR (aa sd S) (fun xs S1 => wpP (g xs S1) Q) E := by
  unfold eCallB; simp only [wpR_bind, wpR_ofO]
@[simp] theorem v_call {g : List D → M D} : wpR (eCall g aa sd S) Q E = wpR (aa sd S) (fun xs S1 => wpR (g xs S1) Q E) E := by
  unfold eCall; simp only [wpR_bind]
@[simp] theorem v_callKw {g : List D → M D} {perm : List Nat} : wpR (eCallKw g perm aa sd S) Q E = wpR (aa sd S) (fun xs S1 => wpR (g (permA perm xs) S1) Q E) E := by
  unfold eCallKw; simp only [wpR_bind]
@[simp] theorem v_isi {ts : List Kd} : wpR (eIsi T ts a sd S) Q E = wpR (a sd S) (fun x S1 => ∃ k, kd x S1 = some k ∧ Q (.bl (ts.any (subD T k))) S1) E := by
  unfold eIsi; simp only [wpR_bind]
  congr 1; funext x S1
  cases kd x S1 <;> simp
@[simp] theorem v_mk (c n : Nat) : wpR (eMk c n aa sd S) Q E = wpR (aa sd S) (fun xs S1 => xs.length = n ∧ Q (.exn c xs) S1) E := by
  unfold eMk; simp only [wpR_bind, wpR_ite, wpR_ok, wpR_bad]
  congr 1; funext x S1
  simp
@[simp] theorem v_mthL {g : PM} : wpR (eMthL g a aa sd S) Q E = wpR (a sd S) (fun x S1 => isL x S1 = true ∧ wpR (aa sd S1) (fun xs S2 => wpP (g x xs S2) Q) E) E := by
  unfold eMthL; simp only [wpR_bind, wpR_ite, wpR_ofO, wpR_ok, wpR_bad]
  congr 1; funext x S1
  simp
@[simp] theorem v_onone : wpR (oNone sd S) QO E = QO none S := nr rfl
@[simp] theorem v_osome : wpR (oSome a sd S) QO E = wpR (a sd S) (fun x S1 => ∃ i, x = .int i ∧ QO (some i) S1) E := by
  unfold oSome; simp only [wpR_bind]
  congr 1; funext x S1
  cases x <;> simp
@[simp] theorem v_sl {lo hi : EO} : wpR (eSl a lo hi sd S) Q E = wpR (a sd S) (fun x S1 => wpR (lo sd S1) (fun l S2 => wpR (hi sd S2) (fun h S3 => wpP (pSl x l h S3) Q) E) E) E := by
  unfold eSl; simp only [wpR_bind, wpR_ofO]
@[simp] theorem v_dct0 : wpR (eDct0 sd S) Q E = Q (.ref S.length) (S ++ [.dct []]) := nr rfl
def attD (T : List Cls) (f : Str) : D → Option D
  | .exn c ds => (fldIx T c f).bind fun i => ds[i]?
  | _ => none
@[simp] theorem v_att {f : Str} : wpR (eAtt T f a sd S) Q E = wpR (a sd S) (fun x S1 => ∃ d, attD T f x = some d ∧ Q d S1) E := by
  unfold eAtt; simp only [wpR_bind]
  congr 1; funext x S1
  cases x with
  | exn c ds =>
    unfold attD
    dsimp only
    cases h : fldIx T c f with
    | none => simp
    | some i =>
      dsimp only
      rw [Option.bind_some]
      cases h2 : ds[i]? with
      | none => simp
      | some d => simp
  | _ => simp [attD]
def rgB (i : Int) : Bool := decide (-(2 ^ 62) ≤ i ∧ i ≤ 16777216)
@[simp] theorem v_listRg : wpR (eListRg a sd S) Q E = wpR (a sd S) (fun x S1 => ∃ i, x = .int i ∧ rgB i = true ∧ Q (.ref S1.length) (S1 ++ [.lst (rngD 0 i.toNat)])) E := by
  unfold eListRg; simp only [wpR_bind]
  congr 1; funext x S1
  cases x with
  | int i =>
    show wpR (if rgB i = true then _ else _) Q E = _
    rw [wpR_ite]
    by_cases h : rgB i = true <;> simp [h]
  | _ => simp
/-! ### statements -/
@[simp] theorem w_seq (F G : FF) : wpS (sSeq F G sd S) P = wpS (F sd S) { P with n := fun sd' S' => wpS (G sd' S') P } := wpS_seq F G
@[simp] theorem w_next : wpS (sNext sd S) P = P.n sd S := nr rfl
@[simp] theorem w_if (F G : FF) : wpS (sIf t F G sd S) P = wpR (t sd S) (fun b S' => if b then wpS (F sd S') P else wpS (G sd S') P) (fun x S' => P.e x sd S') := wpS_if t F G
@[simp] theorem w_ret : wpS (sRet m sd S) P = wpR (m sd S) P.r (fun x S' => P.e x sd S') := by unfold sRet; rw [wpS_bind]; rfl
@[simp] theorem w_retN : wpS (sRetN sd S) P = P.r .non S := nr rfl
@[simp] theorem w_expr : wpS (sExpr m sd S) P = wpR (m sd S) (fun _ S' => P.n sd S') (fun x S' => P.e x sd S') := by unfold sExpr; rw [wpS_bind]; rfl
@[simp] theorem w_set (i : Nat) : wpS (sSet i m sd S) P = wpR (m sd S) (fun d S' => P.n (sd.set i (some d)) S') (fun x S' => P.e x sd S') := by unfold sSet; rw [wpS_bind]; rfl
def two {α : Type} (Q : α → α → Prop) : List α → Prop
  | [x, y] => Q x y
  | _ => False
def three {α : Type} (Q : α → α → α → Prop) : List α → Prop
  | [x, y, z] => Q x y z
  | _ => False
@[simp] theorem two_of {α : Type} {Q : α → α → Prop} (x y : α) : two Q [x, y] = Q x y := nr rfl
@[simp] theorem three_of {α : Type} {Q : α → α → α → Prop} (x y z : α) : three Q [x, y, z] = Q x y z := nr rfl
@[simp] theorem w_par (i j : Nat) : wpS (sPar i j aa sd S) P = wpR (aa sd S) (fun xs S' => two (fun x y => P.n ((sd.set i (some x)).set j (some y)) S') xs) (fun x S' => P.e x sd S') := by
  unfold sPar; rw [wpS_bind]
  congr 1; funext xs S'
  rcases xs with _ | ⟨x, _ | ⟨y, _ | ⟨z, r⟩⟩⟩ <;> rfl
@[simp] theorem w_par3 (i j l : Nat) : wpS (sPar3 i j l aa sd S) P = wpR (aa sd S) (fun xs S' => three (fun x y z => P.n (((sd.set i (some x)).set j (some y)).set l (some z)) S') xs) (fun x S' => P.e x sd S') := by
  unfold sPar3; rw [wpS_bind]
  congr 1; funext xs S'
  rcases xs with _ | ⟨x, _ | ⟨y, _ | ⟨z, _ | ⟨u, r⟩⟩⟩⟩ <;> rfl
@[simp] theorem w_asg {gg : GD} : wpS (sAsg m gg sd S) P = wpR (m sd S) (fun d S' => wpP (gg d sd S') P.n) (fun x S' => P.e x sd S') := by
  unfold sAsg; rw [wpS_bind]
  congr 1; funext d S'
  cases gg d sd S' <;> rfl
@[simp] theorem w_raise (c n : Nat) : wpS (sRaise c n aa sd S) P = wpR (aa sd S) (fun xs S' => xs.length = n ∧ P.e ⟨c, xs⟩ sd S') (fun x S' => P.e x sd S') := by
  unfold sRaise; rw [wpS_bind]
  congr 1; funext xs S'
  simp
end
/-! ### items, lengths, built-ins -/
section
variable {Q : D → Store → Prop} {S : Store}
theorem rdL_lst {n : Nat} {ds : List D} (h : S[n]? = some (.lst ds)) : rdL S n = some ds := by unfold rdL; rw [h]
theorem rdL_ro {n : Nat} {ds : List D} (h : S[n]? = some (.ro ds)) : rdL S n = some ds := by unfold rdL; rw [h]
theorem atI_of {ds : List D} {i : Nat} {d : D} (h : ds[i]? = some d) : atI ds (i : Int) = some d := by
  have hl := (List.getElem?_eq_some_iff.mp h).1
  unfold atI ixN
  rw [if_pos (by omega), if_pos (by omega)]
  simpa using h
@[simp] theorem atI_0 (x : D) (l : List D) : atI (x :: l) 0 = some x := atI_of (i := 0) rfl
@[simp] theorem atI_1 (x y : D) (l : List D) : atI (x :: y :: l) 1 = some y := atI_of (i := 1) rfl
@[simp] theorem atI_2 (x y z : D) (l : List D) : atI (x :: y :: z :: l) 2 = some z := atI_of (i := 2) rfl
@[simp] theorem atI_3 (x y z u : D) (l : List D) : atI (x :: y :: z :: u :: l) 3 = some u := atI_of (i := 3) rfl
theorem atI_nat {ds : List D} {i : Nat} (h : i < ds.length) : atI ds (i : Int) = ds[i]? := by
  unfold atI ixN
  simp [h]
@[simp] theorem wp_ixT {ds : List D} {i : Int} : wpP (pIx (.tup ds) (.int i) S) Q = ∃ d, atI ds i = some d ∧ Q d S := by
  unfold pIx
  dsimp only
  cases atI ds i <;> simp
@[simp] theorem wp_ixR {n : Nat} {i : Int} : wpP (pIx (.ref n) (.int i) S) Q = ∃ ds, rdL S n = some ds ∧ ∃ d, atI ds i = some d ∧ Q d S := by
  unfold pIx
  dsimp only
  cases h : rdL S n with
  | none => simp
  | some ds => dsimp only; cases h2 : atI ds i <;> simp [h2]
@[simp] theorem wp_len {x : D} : wpP (pLen [x] S) Q = ∃ n, lenD x S = some n ∧ Q (.int n) S := by
  unfold pLen
  dsimp only
  cases lenD x S <;> simp
@[simp] theorem wp_abs {i : Int} : wpP (pAbs [.int i] S) Q = Q (.int (if i < 0 then -i else i)) S := nr rfl
@[simp] theorem wp_int {i : Int} : wpP (pInt [.int i] S) Q = Q (.int i) S := nr rfl
@[simp] theorem wp_max {i j : Int} : wpP (pMax2 [.int i, .int j] S) Q = Q (.int (if j > i then j else i)) S := nr rfl
@[simp] theorem wp_min {i j : Int} : wpP (pMin2 [.int i, .int j] S) Q = Q (.int (if j < i then j else i)) S := nr rfl
@[simp] theorem tru_bl (b : Bool) : pTru (.bl b) S = some b := nr rfl
@[simp] theorem kd_int (i : Int) : kd (.int i) S = some (.ty "int") := nr rfl
@[simp] theorem kd_bl (b : Bool) : kd (.bl b) S = some (.ty "bool") := nr rfl
@[simp] theorem kd_non : kd .non S = some (.ty "NoneType") := nr rfl
@[simp] theorem kd_str (x : Str) : kd (.str x) S = some (.ty "str") := nr rfl
@[simp] theorem kd_tup (ds : List D) : kd (.tup ds) S = some (.ty "tuple") := nr rfl
@[simp] theorem kd_exn (c : Nat) (ds : List D) : kd (.exn c ds) S = some (.own c) := nr rfl
@[simp] theorem len_tup (ds : List D) : lenD (.tup ds) S = some ds.length := nr rfl
end
/-! ### bounds -/
def Bd (n : Nat) (x : Int) : Prop := x.natAbs < 2 ^ n
theorem Bd.mono {n m : Nat} {x : Int} (h : Bd n x) (hm : n ≤ m) : Bd m x := Nat.lt_of_lt_of_le h (Nat.pow_le_pow_right (by decide) hm)
theorem Bd.log {n : Nat} {x : Int} (h : Bd n x) (hn : n ≠ 0) : x.natAbs.log2 < n := by
  by_cases h0 : x.natAbs = 0
  · rw [h0]; simp; omega
  · exact (Nat.log2_lt h0).mpr h
theorem Bd.mul {n m : Nat} {x y : Int} (hx : Bd n x) (hy : Bd m y) : Bd (n + m) (x * y) := by
  unfold Bd at *
  rw [Int.natAbs_mul, Nat.pow_add]
  exact Nat.mul_lt_mul'' hx hy
theorem Bd.add {n : Nat} {x y : Int} (hx : Bd n x) (hy : Bd n y) : Bd (n + 1) (x + y) := by
  unfold Bd at *
  have := Int.natAbs_add_le x y
  rw [Nat.pow_succ]
  omega
theorem Bd.neg {n : Nat} {x : Int} (hx : Bd n x) : Bd n (-x) := by
  unfold Bd at *
  rw [Int.natAbs_neg]; exact hx
theorem Bd.sub {n : Nat} {x y : Int} (hx : Bd n x) (hy : Bd n y) : Bd (n + 1) (x - y) := by
  rw [Int.sub_eq_add_neg]; exact hx.add hy.neg
theorem mulFits_of {n m : Nat} {x y : Int} (hx : Bd n x) (hy : Bd m y) (hn : n ≠ 0 := by decide) (hm : m ≠ 0 := by decide) (h : n + m < 1000000 := by decide) : mulFits x y = true := by
  unfold mulFits
  have h1 := hx.log hn
  have h2 := hy.log hm
  exact decide_eq_true (by omega)
theorem divFits_of {n : Nat} {x y : Int} (hy : Bd n y) (h0 : 0 < y) (hn : n ≠ 0 := by decide) (h : n ≤ 9000 := by decide) : divFits x y = true := by
  unfold divFits
  have h2 := hy.log hn
  exact decide_eq_true ⟨h0, by omega⟩
/-! ### what is walked -/
section
variable {QI : ITd → Store → Prop} {E : Ex → Store → Prop} {sd : SD} {S : Store} {m : EE} {aa : EA} {P : Ps} {it : EI} {g : GD} {F : FF} {chk : Store → Prop}
@[simp] theorem w_for : wpS (sFor it g F sd S) P = wpR (it sd S) (fun t S' => wpS (forD g F t.chk t.ds sd S') P) (fun x S' => P.e x sd S') := by unfold sFor; rw [wpS_bind]
@[simp] theorem w_forNil : wpS (forD g F chk [] sd S) P = (chk S ∧ P.n sd S) := by
  unfold forD
  by_cases h : chk S
  · rw [if_pos h]; simp [h]
  · rw [if_neg h]; simp [h]
theorem w_forCons (d : D) (ds : List D) : wpS (forD g F chk (d :: ds) sd S) P = (chk S ∧ ∃ z, g d sd S = some z ∧ wpS (F z.1 z.2) { P with n := fun sd' S' => wpS (forD g F chk ds sd' S') P, c := fun sd' S' => wpS (forD g F chk ds sd' S') P, b := P.n }) := by
  show wpS (if chk S then _ else _) P = _
  by_cases h : chk S
  · rw [if_pos h]
    cases e : g d sd S with
    | none => simp
    | some z =>
      have : (chk S ∧ ∃ z_1, some z = some z_1 ∧ wpS (F z_1.1 z_1.2) { P with n := fun sd' S' => wpS (forD g F chk ds sd' S') P, c := fun sd' S' => wpS (forD g F chk ds sd' S') P, b := P.n }) =
          wpS (F z.1 z.2) { P with n := fun sd' S' => wpS (forD g F chk ds sd' S') P, c := fun sd' S' => wpS (forD g F chk ds sd' S') P, b := P.n } := by simp [h]
      rw [this]
      dsimp only
      cases F z.1 z.2 <;> rfl
  · rw [if_neg h]; simp [h]
@[simp] theorem gNm_of (i : Nat) (d : D) : gNm i d sd S = some (sd.set i (some d), S) := nr rfl
def seqQ (QI : ITd → Store → Prop) (S : Store) : D → Prop
  | .tup ds => QI ⟨ds, fun _ => True⟩ S
  | .ref n => ∃ ds, rdL S n = some ds ∧ QI ⟨ds, fun S' => rdL S' n = some ds⟩ S
  | .str z => QI ⟨signs z, fun _ => True⟩ S
  | _ => False
@[simp] theorem seqQ_tup (ds : List D) : seqQ QI S (.tup ds) = QI ⟨ds, fun _ => True⟩ S := nr rfl
@[simp] theorem seqQ_ref (n : Nat) : seqQ QI S (.ref n) = ∃ ds, rdL S n = some ds ∧ QI ⟨ds, fun S' => rdL S' n = some ds⟩ S := nr rfl
@[simp] theorem v_itSeq : wpR (itSeq m sd S) QI E = wpR (m sd S) (fun d S1 => seqQ QI S1 d) E := by
  unfold itSeq; rw [wpR_bind]
  congr 1; funext d S1
  cases d with
  | ref n =>
    dsimp only [seqQ]
    cases h : rdL S1 n <;> simp
  | _ => rfl
def one {α : Type} (Q : α → Prop) : List α → Prop
  | [x] => Q x
  | _ => False
@[simp] theorem one_of {α : Type} {Q : α → Prop} (x : α) : one Q [x] = Q x := nr rfl
def rgQ (QI : ITd → Store → Prop) (S : Store) : D → Prop
  | .int j => inR j = true ∧ QI ⟨rngD 0 j.toNat, fun _ => True⟩ S
  | _ => False
def rgQ2 (QI : ITd → Store → Prop) (S : Store) : D → D → Prop
  | .int i, .int j => (inR i && inR j) = true ∧ QI ⟨rngD i (j - i).toNat, fun _ => True⟩ S
  | _, _ => False
@[simp] theorem rgQ_int (j : Int) : rgQ QI S (.int j) = (inR j = true ∧ QI ⟨rngD 0 j.toNat, fun _ => True⟩ S) := nr rfl
@[simp] theorem rgQ2_int (i j : Int) : rgQ2 QI S (.int i) (.int j) = ((inR i && inR j) = true ∧ QI ⟨rngD i (j - i).toNat, fun _ => True⟩ S) := nr rfl
@[simp] theorem v_itRange : wpR (itRange aa sd S) QI E = wpR (aa sd S) (fun xs S1 => one (rgQ QI S1) xs) E := by
  unfold itRange; rw [wpR_bind]
  congr 1; funext xs S1
  rcases xs with _ | ⟨x, _ | ⟨y, r⟩⟩
  · rfl
  · cases x with
    | int j =>
      dsimp only [one, rgQ]
      rw [wpR_ite]
      by_cases h : inR j = true <;> simp [h]
    | _ => rfl
  · cases x <;> rfl
@[simp] theorem v_itRange2 : wpR (itRange2 aa sd S) QI E = wpR (aa sd S) (fun xs S1 => two (rgQ2 QI S1) xs) E := by
  unfold itRange2; rw [wpR_bind]
  congr 1; funext xs S1
  rcases xs with _ | ⟨x, _ | ⟨y, _ | ⟨z, r⟩⟩⟩
  · rfl
  · cases x <;> rfl
  · cases x with
    | int i =>
      cases y with
      | int j =>
        dsimp only [two, rgQ2]
        rw [wpR_ite]
        by_cases h : (inR i && inR j) = true <;> simp [h]
      | _ => rfl
    | _ => cases y <;> rfl
  · cases x <;> cases y <;> rfl
end
/-! ### targets -/
section
variable {sd : SD} {S : Store} {Q : SD → Store → Prop}
@[simp] theorem wp_gnm (i : Nat) (d : D) : wpP (gNm i d sd S) Q = Q (sd.set i (some d)) S := nr rfl
@[simp] theorem wp_gtup2 (i j : Nat) (x y : D) : wpP (gTupD 2 (gsCons (gNm i) (gsCons (gNm j) gsNil)) (.tup [x, y]) sd S) Q = Q ((sd.set i (some x)).set j (some y)) S := nr rfl
theorem wp_gtup2r {i j n : Nat} {x y : D} (h : rdL S n = some [x, y]) : wpP (gTupD 2 (gsCons (gNm i) (gsCons (gNm j) gsNil)) (.ref n) sd S) Q = Q ((sd.set i (some x)).set j (some y)) S := by
  unfold gTupD
  dsimp only
  rw [h]
  rfl
end
/-! ### try -/
@[simp] theorem w_try {T : List Cls} {F : FF} {hs : List HdD} {sd : SD} {S : Store} {P : Ps} : wpS (sTry T F hs sd S) P = wpS (F sd S) { P with e := fun x sd' S' => wpS (tryH T hs x sd' S') P } := by
  unfold sTry
  cases F sd S <;> rfl
@[simp] theorem w_tryNil {T : List Cls} {e : Ex} {sd : SD} {S : Store} {P : Ps} : wpS (tryH T [] e sd S) P = P.e e sd S := nr rfl
@[simp] theorem w_tryCons {T : List Cls} {h : HdD} {r : List HdD} {e : Ex} {sd : SD} {S : Store} {P : Ps} : wpS (tryH T (h :: r) e sd S) P = if subD T (.own e.c) (.own h.c) = true then wpS (h.F (sd.set h.i (some (.exn e.c e.ds))) S) { n := fun sd' S' => P.n (sd'.set h.i none) S', r := P.r, b := fun sd' S' => P.b (sd'.set h.i none) S', c := fun sd' S' => P.c (sd'.set h.i none) S' }
    else wpS (tryH T r e sd S) P := by
  show wpS ((if subD T (.own e.c) (.own h.c) then fun sd S => cutR h.i (h.F (sd.set h.i (some (.exn e.c e.ds))) S) else tryH T r e) sd S) P = _
  by_cases q : subD T (.own e.c) (.own h.c) = true
  · rw [if_pos q, if_pos q]
    cases h.F (sd.set h.i (some (.exn e.c e.ds))) S <;> rfl
  · rw [if_neg q, if_neg q]
/-! ### methods -/
section
variable {Q : D → Store → Prop} {S : Store}
@[simp] theorem isL_ref (n : Nat) : isL (.ref n) S = (rdL S n).isSome := nr rfl
theorem wp_append {n : Nat} {ds : List D} {y : D} (h : S[n]? = some (.lst ds)) (hf : ds.length + 1 ≤ 16777216) : wpP (pAppend (.ref n) [y] S) Q = Q .non (S.set n (.lst (ds ++ [y]))) := by
  unfold pAppend
  dsimp only
  rw [h]
  dsimp only
  rw [if_pos (show fits (ds.length + 1) = true from decide_eq_true hf)]
  rfl
end
theorem fits_of {n : Nat} (h : n ≤ 16777216) : fits n = true := decide_eq_true h
end Lay

set_option Elab.async false
set_option linter.all false
set_option maxRecDepth 100000
set_option maxHeartbeats 4000000
/-! L14: the laws' own function 'same'. -/
namespace Lay
open PySem PySem.Spec PyProof.Rows L2
open Classical
noncomputable def sameB (T : List Cls) (g : List D → M D) : List D → M D := fnD 4 2 (sSeq (sIf (bOr (asB (eBin pIs (eVar 1) (eC .non))) (eTru (eIsi T [.ty "bool"] (eVar 1)))) (sRet (eIf (asB (eBin pIs (eVar 1) (eC .non))) (eBin pIs (eVar 0) (eC .non)) (eAnd (eIsi T [.ty "bool"] (eVar 0)) (eBin pEq (eBin pIs (eVar 0) (eC (.bl true))) (eBin pIs (eVar 1) (eC (.bl true))))))) sNext)
  (sSeq (sIf (eTru (eIsi T [.ty "int"] (eVar 1))) (sRet (eAnd (eIsi T [.ty "int"] (eVar 0)) (eAnd (eNot (eIsi T [.ty "bool"] (eVar 0))) (eBin pEq (eVar 0) (eVar 1))))) sNext)
  (sSeq (sIf (eTru (eIsi T [.ty "str"] (eVar 1))) (sRet (eAnd (eIsi T [.ty "str"] (eVar 0)) (eBin pEq (eVar 0) (eVar 1)))) sNext)
  (sSeq (sIf (eTru (eIsi T [.ty "dict"] (eVar 1))) (sSeq (sIf (bOr (bNot (eTru (eIsi T [.ty "dict"] (eVar 0)))) (asB (eBin pNe (eCallB pLen (aCons (eVar 0) aNil)) (eCallB pLen (aCons (eVar 1) aNil))))) (sRet (eC (.bl false))) sNext)
  (sRet (eBin pEq (lockE 1 (eLc (itSeqK (eVar 1)) (gNm 2) (bOr (asB (eBin (pIn true) (eVar 2) (eVar 0))) (bNot (eTru (eCall g (aCons (eBin pIxA (eVar 0) (eVar 2)) (aCons (eBin pIxA (eVar 1) (eVar 2)) aNil)))))) (eVar 2) [2])) (eLst aNil)))) sNext)
  (sSeq (sIf (eTru (eIsi T [.ty "list", .ty "tuple"] (eVar 1))) (sSeq (sIf (bOr (bNot (eTru (eIsi T [.ty "list", .ty "tuple"] (eVar 0)))) (bOr (asB (eBin pNe (eIsi T [.ty "list"] (eVar 0)) (eIsi T [.ty "list"] (eVar 1)))) (asB (eBin pNe (eCallB pLen (aCons (eVar 0) aNil)) (eCallB pLen (aCons (eVar 1) aNil)))))) (sRet (eC (.bl false))) sNext)
  (sRet (eBin pEq (eLc (itRange (aCons (eCallB pLen (aCons (eVar 1) aNil)) aNil)) (gNm 3) (bNot (eTru (eCall g (aCons (eBin pIx (eVar 0) (eVar 3)) (aCons (eBin pIx (eVar 1) (eVar 3)) aNil))))) (eVar 3) [3]) (eLst aNil)))) sNext)
  (sRet (eAnd (eBin pIsNot (eVar 0) (eC .non)) (eNot (eIsi T [.ty "int", .ty "str", .ty "list", .ty "tuple", .ty "dict"] (eVar 0))))))))))
noncomputable def sameF (T : List Cls) : Nat → List D → M D
  | 0 => fun _ _ => .bad
  | n + 1 => sameB T (sameF T n)
/-- two values are alike -/
inductive Sim : Store → Nat → D → D → Prop
  | non {S k} : Sim S k .non .non
  | bl {S k} (b : Bool) : Sim S k (.bl b) (.bl b)
  | int {S k} (i : Int) : Sim S k (.int i) (.int i)
  | str {S k} (x : Str) (h : okS x = true) : Sim S k (.str x) (.str x)
  | exn {S k} (c ds c' ds') : Sim S k (.exn c ds) (.exn c' ds')
  | tup {S k ds es} (hl : ds.length = es.length) (hf : es.length ≤ 1000000) (h : ∀ (i : Nat) (a b : D), ds[i]? = some a → es[i]? = some b → Sim S k a b) : Sim S (k + 1) (.tup ds) (.tup es)
  | lst {S k n m ds es} (h1 : S[n]? = some (.lst ds)) (h2 : S[m]? = some (.lst es)) (hl : ds.length = es.length) (hf : es.length ≤ 1000000) (h : ∀ (i : Nat) (a b : D), ds[i]? = some a → es[i]? = some b → Sim S k a b) : Sim S (k + 1) (.ref n) (.ref m)
  | dct {S k n m ds es} (h1 : S[n]? = some (.dct ds)) (h2 : S[m]? = some (.dct es)) (hl : ds.length = es.length) (hn : (es.map (·.1)).Nodup)
      (hk : ∀ p ∈ es, (valD ds p.1).isSome = true) (h : ∀ (p : Key × D) (d : D), p ∈ es → valD ds p.1 = some d → Sim (S.set m (.dlk es)) k d p.2) : Sim S (k + 1) (.ref n) (.ref m)
theorem fr_set {S S' : Store} (f : Fr S S') {m : Nat} (o : SO) (hm : m < S.length) : Fr (S.set m o) (S'.set m o) := fun n hn => by
  rw [List.length_set] at hn
  by_cases e : m = n
  · subst e
    rw [List.getElem?_set_self hn, List.getElem?_set_self (Nat.lt_of_lt_of_le hn f.le)]
  · rw [List.getElem?_set_ne e, List.getElem?_set_ne e]; exact f n hn
theorem Sim.fr {S S' : Store} {k : Nat} {x y : D} (h : Sim S k x y) : Fr S S' → Sim S' k x y := by
  induction h generalizing S' with
  | non => intro _; exact .non
  | bl b => intro _; exact .bl b
  | int i => intro _; exact .int i
  | str x h => intro _; exact .str x h
  | exn c ds c' ds' => intro _; exact .exn c ds c' ds'
  | tup hl hf h ih => intro f; exact .tup hl hf fun i a b e1 e2 => ih i a b e1 e2 f
  | lst h1 h2 hl hf h ih => intro f; exact .lst (f.at h1) (f.at h2) hl hf fun i a b e1 e2 => ih i a b e1 e2 f
  | dct h1 h2 hl hn hk h ih =>
    intro f
    exact .dct (f.at h1) (f.at h2) hl hn hk fun p d hp e => ih p d hp e (fr_set f _ (List.getElem?_eq_some_iff.mp h2).1)
theorem pEqB_nil {S : Store} {n m : Nat} {xs : List D} (h1 : rdL S n = some []) (h2 : rdL S m = some []) : pEqB (.ref n) (.ref m) S = some true := by
  unfold pEqB
  have e1 : toPy S 140 (.ref n) = some (.list []) := by
    simp only [toPy]
    rw [h1]
    simp [toPys]
  have e2 : toPy S 140 (.ref m) = some (.list []) := by
    simp only [toPy]
    rw [h2]
    simp [toPys]
  rw [e1, e2]
  rfl
theorem sameF_succ (T : List Cls) (n : Nat) : sameF T (n + 1) = sameB T (sameF T n) := rfl
@[simp] theorem lenL {S : Store} {n : Nat} : lenD (.ref n) S = match S[n]? with
    | some (.lst ds) => some ds.length
    | some (.ro ds) => some ds.length
    | some (.dct kvs) => some kvs.length
    | _ => none := rfl
theorem kd_lst {S : Store} {n : Nat} {ds : List D} (h : S[n]? = some (.lst ds)) : kd (.ref n) S = some (.ty "list") := by simp [kd, h]
theorem kd_dct {S : Store} {n : Nat} {ds : List (Key × D)} (h : S[n]? = some (.dct ds)) : kd (.ref n) S = some (.ty "dict") := by simp [kd, h]
@[simp] theorem wp_is {x y : D} {S : Store} {Q : D → Store → Prop} : wpP (pIs x y S) Q = ∃ b, pIsB x y = some b ∧ Q (.bl b) S := by
  unfold pIs; cases pIsB x y <;> simp
@[simp] theorem wp_isnot {x y : D} {S : Store} {Q : D → Store → Prop} : wpP (pIsNot x y S) Q = ∃ b, pIsB x y = some b ∧ Q (.bl (!b)) S := by
  unfold pIsNot; cases pIsB x y <;> simp
@[simp] theorem is_non (x : D) : pIsB x .non = some (isNon x) := nr rfl
@[simp] theorem is_bl (a b : Bool) : pIsB (.bl a) (.bl b) = some (a == b) := nr rfl
theorem wp_eqR {S : Store} {n m : Nat} {Q : D → Store → Prop} (h1 : rdL S n = some []) (h2 : rdL S m = some []) : wpP (pEq (.ref n) (.ref m) S) Q = Q (.bl true) S := by
  unfold pEq; rw [pEqB_nil (xs := []) h1 h2]; rfl
section
variable {T : List Cls} {g : List D → M D} {S : Store} {Q : D → Store → Prop}
theorem same_non : sameB T g [.non, .non] S = .ok (.bl true) S := by
  obtain ⟨a, S', e, h1, h2⟩ := wpR_ex (r := sameB T g [.non, .non] S) (Q := fun d S' => d = .bl true ∧ S' = S) (by
    refine wp_fn rfl ?_
    simp [startD, isNon])
  rw [e, h1, h2]
theorem same_bl (b : Bool) : sameB T g [.bl b, .bl b] S = .ok (.bl true) S := by
  obtain ⟨a, S', e, h1, h2⟩ := wpR_ex (r := sameB T g [.bl b, .bl b] S) (Q := fun d S' => d = .bl true ∧ S' = S) (by
    refine wp_fn rfl ?_
    cases b <;> simp [startD, isNon, subD])
  rw [e, h1, h2]
theorem same_int (i : Int) : sameB T g [.int i, .int i] S = .ok (.bl true) S := by
  obtain ⟨a, S', e, h1, h2⟩ := wpR_ex (r := sameB T g [.int i, .int i] S) (Q := fun d S' => d = .bl true ∧ S' = S) (by
    refine wp_fn rfl ?_
    simp [startD, isNon, subD])
  rw [e, h1, h2]
theorem same_str (x : Str) (h : okS x = true) : sameB T g [.str x, .str x] S = .ok (.bl true) S := by
  obtain ⟨a, S', e, h1, h2⟩ := wpR_ex (r := sameB T g [.str x, .str x] S) (Q := fun d S' => d = .bl true ∧ S' = S) (by
    refine wp_fn rfl ?_
    simp [startD, isNon, subD, wp_eqs h h])
  rw [e, h1, h2]
theorem same_exn (c c' : Nat) (ds ds' : List D) : sameB T g [.exn c ds, .exn c' ds'] S = .ok (.bl true) S := by
  obtain ⟨a, S', e, h1, h2⟩ := wpR_ex (r := sameB T g [.exn c ds, .exn c' ds'] S) (Q := fun d S' => d = .bl true ∧ S' = S) (by
    refine wp_fn rfl ?_
    simp [startD, isNon, subD])
  rw [e, h1, h2]
/-- the loop over two sequences alike gathers nothing -/
theorem same_loop {x y : D} {ds es : List D} {sd : SD} (hl : ds.length = es.length) (hf : es.length ≤ 1000000) (hx : ∀ (S' : Store) (i : Nat) (a : D), Fr S S' → ds[i]? = some a → ∀ Q, Q a S' → wpP (pIx x (.int i) S') Q)
    (hy : ∀ (S' : Store) (i : Nat) (a : D), Fr S S' → es[i]? = some a → ∀ Q, Q a S' → wpP (pIx y (.int i) S') Q)
    (hg : ∀ (i : Nat) a b S', ds[i]? = some a → es[i]? = some b → Fr S S' → ∃ S'', g [a, b] S' = .ok (.bl true) S'' ∧ Fr S' S'') (hs : sd = [some x, some y, none, none]) :
    ∃ S', lcD S.length (gNm 3) (bNot (eTru (eCall g (aCons (eBin pIx (eVar 0) (eVar 3)) (aCons (eBin pIx (eVar 1) (eVar 3)) aNil))))) (eVar 3) [3] (fun _ => True) sd (rngD 0 es.length) (S ++ [.lst []]) = some S' ∧ Fr S S' ∧ S'[S.length]? = some (.lst []) := by
  subst hs
  have hlen : (rngD 0 es.length).length = es.length := by simp [rngD]
  obtain ⟨S', e, f⟩ := wp_lc (n := S.length) (g := gNm 3) (tt := bNot (eTru (eCall g (aCons (eBin pIx (eVar 0) (eVar 3)) (aCons (eBin pIx (eVar 1) (eVar 3)) aNil))))) (te := eVar 3) (vs := [3]) (chk := fun _ => True) (sd := [some x, some y, none, none])
    (fun _ S' => Fr (S ++ [.lst []]) S') (rngD 0 es.length) 0 (S ++ [.lst []]) Fr.refl (fun j d S1 e hi => by
      refine ⟨trivial, _, rfl, ?_⟩
      have hj : j < es.length := by rw [← hlen]; exact (List.getElem?_eq_some_iff.mp e).1
      have ed : d = .int (j : Int) := by
        simp [rngD, List.getElem?_map, hj] at e
        rw [← e]
      subst ed
      have f1 : Fr S S1 := (Fr.app [.lst []]).trans hi
      obtain ⟨S2, e2, f2⟩ := hg j ds[j] es[j] S1 (by simp [hl, hj]) (by simp [hj]) f1
      simp [wipeD]
      refine hx S1 j ds[j] f1 (by simp [hl, hj]) _ ?_
      refine hy S1 j es[j] f1 (by simp [hj]) _ ?_
      rw [e2]
      simp
      exact hi.trans f2) (fun _ _ => trivial)
  exact ⟨S', e, (Fr.app _).trans f, f.at (last_at S _)⟩
end
theorem res_of {r : Res D} {S : Store} (q : wpR r (fun d S' => d = .bl true ∧ Fr S S') fun _ _ => False) : ∃ S', r = .ok (.bl true) S' ∧ Fr S S' := by
  obtain ⟨d, S', e, rfl, f⟩ := wpR_ex q
  exact ⟨S', e, f⟩
theorem same_seq {T : List Cls} {g : List D → M D} {S : Store} {x y : D} {ds es : List D} {kx : String} (hkx : kd x S = some (.ty kx)) (hky : kd y S = some (.ty kx)) (hk : kx = "list" ∨ kx = "tuple") (hlx : lenD x S = some ds.length) (hly : lenD y S = some es.length)
    (hnx : isNon y = false) (hl : ds.length = es.length) (hf : es.length ≤ 1000000) (hx : ∀ (S' : Store) (i : Nat) (a : D), Fr S S' → ds[i]? = some a → ∀ Q : D → Store → Prop, Q a S' → wpP (pIx x (.int i) S') Q)
    (hy : ∀ (S' : Store) (i : Nat) (a : D), Fr S S' → es[i]? = some a → ∀ Q : D → Store → Prop, Q a S' → wpP (pIx y (.int i) S') Q)
    (hg : ∀ (i : Nat) a b S', ds[i]? = some a → es[i]? = some b → Fr S S' → ∃ S'', g [a, b] S' = .ok (.bl true) S'' ∧ Fr S' S'') : ∃ S', sameB T g [x, y] S = .ok (.bl true) S' ∧ Fr S S' := by
  refine res_of (wp_fn rfl ?_)
  have hin : inR (es.length : Int) = true := inR_of (by omega) (by omega)
  have go : wpR (eLc (itRange (aCons (eCallB pLen (aCons (eVar 1) aNil)) aNil)) (gNm 3) (bNot (eTru (eCall g (aCons (eBin pIx (eVar 0) (eVar 3)) (aCons (eBin pIx (eVar 1) (eVar 3)) aNil))))) (eVar 3) [3] [some x, some y, none, none] S)
      (fun x S1 => fits 0 = true ∧ wpP (pEq x (.ref S1.length) (S1 ++ [.lst []])) fun d S' => d = .bl true ∧ Fr S S') fun _ _ => False := by
    refine wp_eLc ?_
    obtain ⟨S', e, f, fl⟩ := same_loop (g := g) (S := S) (x := x) (y := y) (sd := [some x, some y, none, none]) hl hf hx hy hg rfl
    simp [hin, -lenL, hly]
    refine ⟨S', e, by decide, ?_⟩
    rw [wp_eqR (rdL_lst ((Fr.app _).at fl)) (rdL_lst (last_at _ _))]
    exact ⟨rfl, f.trans (Fr.app _)⟩
  rcases hk with rfl | rfl
  · simp [startD, hnx, subD, hkx, hky, -lenL, hlx, hly, hl]
    exact go
  · simp [startD, hnx, subD, hkx, hky, -lenL, hlx, hly, hl]
    exact go
theorem wp_lock {i n : Nat} {kvs : List (Key × D)} {m : EE} {sd : SD} {S : Store} {Q : D → Store → Prop} {E : Ex → Store → Prop} (h1 : sd[i]? = some (some (.ref n))) (h2 : S[n]? = some (.dct kvs))
    (h : wpR (m sd (S.set n (.dlk kvs))) (fun d S' => ∃ ks, S'[n]? = some (.dlk ks) ∧ Q d (S'.set n (.dct ks))) fun _ _ => False) : wpR (lockE i m sd S) Q E := by
  obtain ⟨d, S', e, ks, e2, q⟩ := wpR_ex h
  unfold lockE
  rw [h1]
  dsimp only
  rw [h2]
  dsimp only
  rw [e]
  dsimp only
  rw [e2]
  exact q
theorem wp_keys {i n : Nat} {kvs : List (Key × D)} {sd : SD} {S : Store} {QI : ITd → Store → Prop} {E : Ex → Store → Prop} (h1 : sd[i]? = some (some (.ref n))) (h2 : S[n]? = some (.dlk kvs)) (h : QI ⟨kvs.map fun kv => kD kv.1, fun _ => True⟩ S) : wpR (itSeqK (eVar i) sd S) QI E := by
  unfold itSeqK
  rw [wpR_bind, wpR_var]
  refine ⟨_, h1, ?_⟩
  have e : rdL S n = none := by unfold rdL; rw [h2]
  dsimp only
  rw [e]
  dsimp only
  rw [h2]
  exact h
theorem keyD_kD (k : Key) : keyD (kD k) = some k := by cases k <;> rfl
theorem valD_mem : ∀ {es : List (Key × D)} {p : Key × D}, (es.map (·.1)).Nodup → p ∈ es → valD es p.1 = some p.2
  | [], p, _, h => by cases h
  | q :: es, p, nd, h => by
    rw [List.map_cons, List.nodup_cons] at nd
    rcases List.mem_cons.mp h with rfl | h
    · simp [valD]
    · have ne : q.1 ≠ p.1 := fun e => nd.1 (List.mem_map.mpr ⟨p, h, e.symm⟩)
      have e2 : valD (q :: es) p.1 = valD es p.1 := by simp [valD, ne]
      rw [e2]
      exact valD_mem nd.2 h
theorem wp_inK {S : Store} {n : Nat} {ds : List (Key × D)} {k : Key} {d : D} {Q : D → Store → Prop} (hl : rdL S n = none) (hk : rdK S n = some ds) (hv : valD ds k = some d) (q : Q (.bl false) S) : wpP (pIn true (kD k) (.ref n) S) Q := by
  unfold pIn
  dsimp only
  rw [hl, hk, keyD_kD]
  dsimp only
  rw [hv]
  exact q
theorem wp_ixK {S : Store} {n : Nat} {ds : List (Key × D)} {k : Key} {d : D} {Q : D → Store → Prop} (hk : rdK S n = some ds) (hv : valD ds k = some d) (q : Q d S) : wpP (pIxA (.ref n) (kD k) S) Q := by
  unfold pIxA
  dsimp only
  rw [hk, keyD_kD]
  dsimp only
  rw [hv]
  exact q
theorem same_dct {T : List Cls} {g : List D → M D} {S : Store} {n m : Nat} {ds es : List (Key × D)} (h1 : S[n]? = some (.dct ds)) (h2 : S[m]? = some (.dct es)) (hl : ds.length = es.length) (hn : (es.map (·.1)).Nodup) (hk : ∀ p ∈ es, (valD ds p.1).isSome = true)
    (hg : ∀ (p : Key × D) (d : D) S', p ∈ es → valD ds p.1 = some d → Fr (S.set m (.dlk es)) S' → ∃ S'', g [d, p.2] S' = .ok (.bl true) S'' ∧ Fr S' S'') : ∃ S', sameB T g [.ref n, .ref m] S = .ok (.bl true) S' ∧ Fr S S' := by
  refine res_of (wp_fn rfl ?_)
  have hm : m < S.length := (List.getElem?_eq_some_iff.mp h2).1
  have hn' : n < S.length := (List.getElem?_eq_some_iff.mp h1).1
  have atm : ∀ S', Fr (S.set m (.dlk es)) S' → S'[m]? = some (.dlk es) := fun S' f => f.at (by rw [List.getElem?_set_self hm])
  have atn : ∀ S', Fr (S.set m (.dlk es)) S' → rdL S' n = none ∧ rdK S' n = some ds := fun S' f => by
    by_cases e : n = m
    · subst e
      rw [h1] at h2
      cases h2
      have := atm S' f
      exact ⟨by unfold rdL; rw [this], by unfold rdK; rw [this]⟩
    · have : S'[n]? = some (.dct ds) := f.at (by rw [List.getElem?_set_ne (Ne.symm e)]; exact h1)
      exact ⟨by unfold rdL; rw [this], by unfold rdK; rw [this]⟩
  have go : wpR (lockE 1 (eLc (itSeqK (eVar 1)) (gNm 2) (bOr (asB (eBin (pIn true) (eVar 2) (eVar 0))) (bNot (eTru (eCall g (aCons (eBin pIxA (eVar 0) (eVar 2)) (aCons (eBin pIxA (eVar 1) (eVar 2)) aNil)))))) (eVar 2) [2]) [some (.ref n), some (.ref m), none, none] S)
      (fun x S1 => fits 0 = true ∧ wpP (pEq x (.ref S1.length) (S1 ++ [.lst []])) fun d S' => d = .bl true ∧ Fr S S') fun _ _ => False := by
    refine wp_lock (n := m) rfl h2 (wp_eLc (wp_keys (n := m) rfl (by rw [List.getElem?_set_self hm]) ?_))
    obtain ⟨S', e, f⟩ := wp_lc (n := (S.set m (.dlk es)).length) (g := gNm 2) (tt := bOr (asB (eBin (pIn true) (eVar 2) (eVar 0))) (bNot (eTru (eCall g (aCons (eBin pIxA (eVar 0) (eVar 2)) (aCons (eBin pIxA (eVar 1) (eVar 2)) aNil)))))) (te := eVar 2) (vs := [2]) (chk := fun _ => True)
      (sd := [some (.ref n), some (.ref m), none, none]) (fun _ S' => Fr (S.set m (.dlk es) ++ [.lst []]) S') (es.map fun kv => kD kv.1) 0 (S.set m (.dlk es) ++ [.lst []]) Fr.refl (fun j d S1 e hi => by
        refine ⟨trivial, _, rfl, ?_⟩
        rw [List.getElem?_map] at e
        obtain ⟨p, e1, rfl⟩ := Option.map_eq_some_iff.mp e
        have hp := List.mem_of_getElem? e1
        have f1 : Fr (S.set m (.dlk es)) S1 := (Fr.app [.lst []]).trans hi
        obtain ⟨dv, ev⟩ := Option.isSome_iff_exists.mp (hk p hp)
        obtain ⟨a1, a2⟩ := atn S1 f1
        have a3 : rdK S1 m = some es := by unfold rdK; rw [atm S1 f1]
        obtain ⟨S2, e2, f2⟩ := hg p dv S1 hp ev f1
        simp [wipeD]
        refine wp_inK a1 a2 ev ?_
        simp
        refine wp_ixK a2 ev (wp_ixK a3 (valD_mem hn hp) ?_)
        rw [e2]
        simp
        exact hi.trans f2) (fun _ _ => trivial)
    refine ⟨S', e, ?_⟩
    have f1 : Fr (S.set m (.dlk es)) S' := (Fr.app _).trans f
    have flen : S.length < S'.length := by
      have := f.le
      simp at this
      omega
    have f3 : Fr S (S'.set m (.dct es)) := fun i hi => by
      by_cases e : m = i
      · subst e; rw [List.getElem?_set_self (by omega), h2]
      · rw [List.getElem?_set_ne e, f1 i (by simpa using hi), List.getElem?_set_ne e]
    refine ⟨es, atm S' f1, by decide, ?_⟩
    have fl : (S'.set m (.dct es))[(S.set m (.dlk es)).length]? = some (.lst []) := by
      rw [List.getElem?_set_ne (by rw [List.length_set]; omega)]
      exact f.at (last_at _ _)
    rw [wp_eqR (rdL_lst ((Fr.app _).at fl)) (rdL_lst (last_at _ _))]
    exact ⟨rfl, f3.trans (Fr.app _)⟩
  simp [startD, isNon, subD, kd_dct h1, kd_dct h2, h1, h2, hl]
  exact go
theorem same_ok {T : List Cls} : ∀ (k : Nat) {S : Store} {x y : D}, Sim S k x y → ∃ S', sameF T (k + 1) [x, y] S = .ok (.bl true) S' ∧ Fr S S' := by
  intro k
  induction k with
  | zero =>
    intro S x y h
    cases h with
    | non => exact ⟨_, same_non, Fr.refl⟩
    | bl b => exact ⟨_, same_bl b, Fr.refl⟩
    | int i => exact ⟨_, same_int i, Fr.refl⟩
    | str x h => exact ⟨_, same_str x h, Fr.refl⟩
    | exn c ds c' ds' => exact ⟨_, same_exn .., Fr.refl⟩
  | succ k ih =>
    intro S x y h
    cases h with
    | non => exact ⟨_, same_non, Fr.refl⟩
    | bl b => exact ⟨_, same_bl b, Fr.refl⟩
    | int i => exact ⟨_, same_int i, Fr.refl⟩
    | str x h => exact ⟨_, same_str x h, Fr.refl⟩
    | exn c ds c' ds' => exact ⟨_, same_exn .., Fr.refl⟩
    | @tup _ _ ds es hl hf h =>
      exact same_seq (kx := "tuple") rfl rfl (.inr rfl) rfl rfl rfl hl hf (fun S' i a f e Q q => by rw [wp_ixT]; exact ⟨a, atI_of e, q⟩) (fun S' i a f e Q q => by rw [wp_ixT]; exact ⟨a, atI_of e, q⟩)
        fun i a b S' e1 e2 f => ih ((h i a b e1 e2).fr f)
    | @lst _ _ n m ds es h1 h2 hl hf h =>
      exact same_seq (kx := "list") (ds := ds) (es := es) (kd_lst h1) (kd_lst h2) (.inl rfl) (by rw [lenL, h1]) (by rw [lenL, h2]) rfl hl hf (fun S' i a f e Q q => by rw [wp_ixR]; exact ⟨ds, rdL_lst (f.at h1), a, atI_of e, q⟩)
        (fun S' i a f e Q q => by rw [wp_ixR]; exact ⟨es, rdL_lst (f.at h2), a, atI_of e, q⟩) fun i a b S' e1 e2 f => ih ((h i a b e1 e2).fr f)
    | @dct _ _ n m ds es h1 h2 hl hn hk h => exact same_dct h1 h2 hl hn hk fun p d S' hp e f => ih ((h p d hp e).fr f)
end Lay


set_option Elab.async false
set_option linter.all false
set_option maxRecDepth 100000
set_option maxHeartbeats 4000000
/-! L16: what the laws' own helpers do: copies, blame, boxes and digits, displays of values. -/
namespace Lay
open PySem PySem.Spec PyProof.Rows L2
open Classical
abbrev NoE : Ex → Store → Prop := fun _ _ => False
theorem eq_of {α : Type} {r : Res α} {v : α} {S0 : Store} (h : wpR r (fun d S' => d = v ∧ S' = S0) fun _ _ => False) : r = .ok v S0 := by
  obtain ⟨a, S, e, rfl, rfl⟩ := wpR_ex h
  exact e
theorem exc_of {α : Type} {r : Res α} {x : Ex} {S0 : Store} (h : wpR r (fun _ _ => False) fun e S' => e = x ∧ S' = S0) : r = .exc x S0 := by
  cases r with
  | ok a S => exact h.elim
  | exc e S => obtain ⟨rfl, rfl⟩ := h; rfl
  | bad => exact h.elim

theorem abs_nat (i : Int) : (if i < 0 then -i else i) = (i.natAbs : Int) := by split <;> omega

theorem bd1 : Bd 1 1 := by unfold Bd; decide
theorem bdm1 : Bd 1 (-1) := by unfold Bd; decide

def isI : D → Bool
  | .int _ => true
  | _ => false
theorem kd_ref {n : Nat} {S : Store} {k : Kd} (h : kd (.ref n) S = some k) : k = .ty "list" ∨ k = .ty "dict" := by
  simp only [kd] at h
  split at h <;> first
    | (cases h; exact .inl rfl)
    | (cases h; exact .inr rfl)
    | cases h

/-- data without lists and dicts -/
def plain : Nat → D → Prop
  | _, .non => True
  | _, .bl _ => True
  | _, .int i => Bd 1000 i
  | _, .str x => okS x = true
  | _, .exn _ _ => True
  | 0, _ => False
  | k + 1, .tup ds => ds.length ≤ 400 ∧ ∀ d ∈ ds, plain k d
  | _ + 1, .ref _ => False
/-- what may stand: bounded ints; lists and dicts stand in the store -/
def good (S : Store) : Nat → D → Prop
  | _, .non => True
  | _, .bl _ => True
  | _, .int i => Bd 1000 i
  | _, .str x => okS x = true
  | _, .exn _ _ => True
  | 0, _ => False
  | k + 1, .tup ds => ds.length ≤ 400 ∧ ∀ d ∈ ds, good S k d
  | k + 1, .ref n => (∃ ds, S[n]? = some (.lst ds) ∧ ds.length ≤ 400 ∧ ∀ d ∈ ds, good S k d) ∨ (∃ kvs, S[n]? = some (.dct kvs) ∧ kvs.length ≤ 400 ∧ (kvs.map (·.1)).Nodup ∧ ∀ p ∈ kvs, plain k p.2)
theorem good_kd {S : Store} {k : Nat} {d : D} (h : good S k d) : (kd d S).isSome = true := by
  cases d with
  | ref n =>
    cases k with
    | zero => simp [good] at h
    | succ k =>
      simp only [good] at h
      rcases h with ⟨ds, e, _⟩ | ⟨kvs, e, _⟩ <;> simp [kd, e]
  | _ => rfl
theorem good_fr {S S' : Store} (f : Fr S S') : ∀ {k : Nat} {d : D}, good S k d → good S' k d := by
  intro k
  induction k with
  | zero => intro d h; cases d <;> simpa [good] using h
  | succ k ih =>
    intro d h
    cases d with
    | tup ds =>
      simp only [good] at h ⊢
      exact ⟨h.1, fun d hd => ih (h.2 d hd)⟩
    | ref n =>
      simp only [good] at h ⊢
      rcases h with ⟨ds, e, hl, h⟩ | ⟨kvs, e, hl, hn, h⟩
      · exact .inl ⟨ds, f.at e, hl, fun d hd => ih (h d hd)⟩
      · exact .inr ⟨kvs, f.at e, hl, hn, h⟩
    | _ => simpa [good] using h

theorem permA2 {α : Type} (x y : α) : permA [1, 0] [x, y] = [y, x] := rfl
theorem permA1 {α : Type} (x : α) : permA [0] [x] = [x] := rfl

theorem plain_sim {S : Store} : ∀ {k : Nat} {d : D}, plain k d → Sim S k d d := by
  intro k
  induction k with
  | zero =>
    intro d h
    cases d <;> first
      | exact .non
      | exact .bl _
      | exact .int _
      | exact .exn ..
      | exact .str _ (by simpa [plain] using h)
      | simp [plain] at h
  | succ k ih =>
    intro d h
    cases d with
    | tup ds =>
      simp only [plain] at h
      refine .tup rfl (by omega) fun i a b e1 e2 => ?_
      rw [e1] at e2
      cases e2
      exact ih (h.2 a (List.mem_of_getElem? e1))
    | non => exact .non
    | bl b => exact .bl _
    | int i => exact .int _
    | exn c ds => exact .exn ..
    | str x => exact .str _ (by simpa [plain] using h)
    | ref n => simp [plain] at h
theorem valD_some {es : List (Key × D)} {k : Key} {d : D} (h : valD es k = some d) : (k, d) ∈ es := by
  unfold valD at h
  obtain ⟨p, e, rfl⟩ := Option.map_eq_some_iff.mp h
  have := List.find?_some e
  have e2 : p.1 = k := by simpa using this
  rw [← e2]
  exact List.mem_of_find?_eq_some e
theorem good_sim {S : Store} : ∀ {k : Nat} {d : D}, good S k d → Sim S k d d := by
  intro k
  induction k with
  | zero =>
    intro d h
    cases d <;> first
      | exact .non
      | exact .bl _
      | exact .int _
      | exact .exn ..
      | exact .str _ (by simpa [good] using h)
      | simp [good] at h
  | succ k ih =>
    intro d h
    cases d with
    | tup ds =>
      simp only [good] at h
      refine .tup rfl (by omega) fun i a b e1 e2 => ?_
      rw [e1] at e2
      cases e2
      exact ih (h.2 a (List.mem_of_getElem? e1))
    | non => exact .non
    | bl b => exact .bl _
    | int i => exact .int _
    | exn c ds => exact .exn ..
    | str x => exact .str _ (by simpa [good] using h)
    | ref n =>
      simp only [good] at h
      rcases h with ⟨ds, e, hl, h⟩ | ⟨es, e, hl, hn, h⟩
      · refine .lst e e rfl (by omega) fun i a b e1 e2 => ?_
        rw [e1] at e2
        cases e2
        exact ih (h a (List.mem_of_getElem? e1))
      · refine .dct e e rfl hn (fun p hp => by rw [valD_mem hn hp]; rfl) fun p d hp e2 => ?_
        rw [valD_mem hn hp] at e2
        cases e2
        exact plain_sim (h p hp)
theorem Sim.mono {S : Store} {k : Nat} {x y : D} (h : Sim S k x y) : ∀ {j : Nat}, k ≤ j → Sim S j x y := by
  induction h with
  | non => intro j _; exact .non
  | bl b => intro j _; exact .bl b
  | int i => intro j _; exact .int i
  | str x h => intro j _; exact .str x h
  | exn c ds c' ds' => intro j _; exact .exn ..
  | tup hl hf h ih => intro j hj; obtain ⟨m, rfl⟩ : ∃ m, j = m + 1 := ⟨j - 1, by omega⟩; exact .tup hl hf fun i a b e1 e2 => ih i a b e1 e2 (by omega)
  | lst h1 h2 hl hf h ih => intro j hj; obtain ⟨m, rfl⟩ : ∃ m, j = m + 1 := ⟨j - 1, by omega⟩; exact .lst h1 h2 hl hf fun i a b e1 e2 => ih i a b e1 e2 (by omega)
  | dct h1 h2 hl hn hk h ih => intro j hj; obtain ⟨m, rfl⟩ : ∃ m, j = m + 1 := ⟨j - 1, by omega⟩; exact .dct h1 h2 hl hn hk fun p d hp e => ih p d hp e (by omega)

/-- a list got one more item: all is still alike itself -/
theorem good_app {S : Store} {n : Nat} {xs : List D} (hS : S[n]? = some (.lst xs)) (hx : xs.length ≤ 400) : ∀ {k : Nat} {d : D}, good S k d → Sim (S.set n (.lst (xs ++ [.int 7]))) k d d := by
  have hn : n < S.length := (List.getElem?_eq_some_iff.mp hS).1
  intro k
  induction k with
  | zero =>
    intro d h
    cases d <;> first
      | exact .non
      | exact .bl _
      | exact .int _
      | exact .exn ..
      | exact .str _ (by simpa [good] using h)
      | simp [good] at h
  | succ k ih =>
    intro d h
    cases d with
    | tup ds =>
      simp only [good] at h
      refine .tup rfl (by omega) fun i a b e1 e2 => ?_
      rw [e1] at e2
      cases e2
      exact ih (h.2 a (List.mem_of_getElem? e1))
    | non => exact .non
    | bl b => exact .bl _
    | int i => exact .int _
    | exn c ds => exact .exn ..
    | str x => exact .str _ (by simpa [good] using h)
    | ref m =>
      simp only [good] at h
      rcases h with ⟨ds, e, hl, h⟩ | ⟨es, e, hl, hd, h⟩
      · by_cases hm : n = m
        · subst hm
          rw [hS] at e
          cases e
          refine .lst (List.getElem?_set_self hn) (List.getElem?_set_self hn) rfl (by simp; omega) fun i a b e1 e2 => ?_
          rw [e1] at e2
          cases e2
          rcases List.mem_append.mp (List.mem_of_getElem? e1) with q | q
          · exact ih (h a q)
          · have : a = .int 7 := by simpa using q
            subst this
            exact .int _
        · have e' : (S.set n (.lst (xs ++ [.int 7])))[m]? = some (.lst ds) := by rw [List.getElem?_set_ne hm]; exact e
          refine .lst e' e' rfl (by omega) fun i a b e1 e2 => ?_
          rw [e1] at e2
          cases e2
          exact ih (h a (List.mem_of_getElem? e1))
      · have hm : n ≠ m := fun q => by subst q; rw [hS] at e; cases e
        have e' : (S.set n (.lst (xs ++ [.int 7])))[m]? = some (.dct es) := by rw [List.getElem?_set_ne hm]; exact e
        refine .dct e' e' rfl hd (fun p hp => by rw [valD_mem hd hp]; rfl) fun p d hp e2 => ?_
        rw [valD_mem hd hp] at e2
        cases e2
        exact plain_sim (h p hp)
/-! ### the laws' helpers -/
noncomputable def copyF (T : List Cls) : List D → M D := fnD 1 1 (sRet (eIf (eTru (eIsi T [.ty "list"] (eVar 0))) (eCallB pList (aCons (eVar 0) aNil)) (eVar 0)))
noncomputable def blamedF (T : List Cls) (g : List D → M D) : List D → M D := fnD 2 2 (sSeq (sIf (bNot (eTru (eCall g (aCons (eVar 0) (aCons (eVar 1) aNil))))) (sRet (eC (.bl false))) sNext)
  (sSeq (sIf (eTru (eIsi T [.ty "list"] (eVar 1))) (sExpr (eMthL pAppend (eVar 1) (aCons (eC (.int 7)) aNil))) sNext)
  (sRet (eCall g (aCons (eVar 0) (aCons (eVar 1) aNil))))))
noncomputable def takeF (c1 c2 : Int) : List D → M D := fnD 4 2 (sSeq (sIf (bAnd (eTru (eBin pIx (eVar 0) (eC (.int 1)))) (asB (eBin pGt (eBin pIx (eVar 0) (eC (.int 0))) (eC (.int 0))))) (sSeq (sSet 3 (eBin pMod (eCallB pInt (aCons (eBin pIx (eVar 0) (eC (.int 0))) aNil)) (eVar 1)))
  (sSeq (sAsg (eBin pDiv (eBin pIx (eVar 0) (eC (.int 0))) (eVar 1)) (gSubD (eVar 0) (eC (.int 0))))
  (sRet (eVar 3)))) sNext)
  (sSeq (sAsg (eBin pAdd (eBin pIx (eVar 0) (eC (.int 3))) (eC (.int 1))) (gSubD (eVar 0) (eC (.int 3))))
  (sSeq (sSet 2 (eBin pMod (eCallB pInt (aCons (eBin pPow (eBin pAdd (eBin pAdd (eBin pIx (eVar 0) (eC (.int 2))) (eBin pMul (eC (.int c1)) (eBin pIx (eVar 0) (eC (.int 3))))) (eC (.int c2))) (eC (.int 5))) aNil)) (eC (.int 2147483647))))
  (sRet (eBin pMod (eCallB pInt (aCons (eBin pDiv (eBin pMod (eCallB pInt (aCons (eBin pPow (eBin pAdd (eBin pMul (eVar 2) (eC (.int 48271))) (eBin pMul (eC (.int 104743)) (eBin pIx (eVar 0) (eC (.int 3))))) (eC (.int 3))) aNil)) (eC (.int 2147483587))) (eC (.int 64))) aNil)) (eVar 1))))))
noncomputable def boxF : List D → M D := fnD 1 1 (sRet (eLst (aCons (eCallB pAbs (aCons (eVar 0) aNil)) (aCons (eBin pGe (eCallB pAbs (aCons (eVar 0) aNil)) (eBin pPow (eC (.int 10)) (eC (.int 18)))) (aCons (eBin pMod (eCallB pInt (aCons (eCallB pAbs (aCons (eVar 0) aNil)) aNil)) (eC (.int 2147483629))) (aCons (eC (.int 0)) aNil))))))
noncomputable def mixedF (tk : List D → M D) : List D → M D := fnD 4 2 (sSeq (sPar 2 3 (aCons (eCallB pList (aCons (eVar 1) aNil)) (aCons (eLst aNil) aNil)))
  (sSeq (sWhile (asB (eBin pNe (eVar 2) (eLst aNil))) (sExpr (eMthL pAppend (eVar 3) (aCons (eMthL pPopAt (eVar 2) (aCons (eCall tk (aCons (eVar 0) (aCons (eCallB pLen (aCons (eVar 2) aNil)) aNil))) aNil)) aNil))))
  (sRet (eVar 3))))
theorem same12 {T : List Cls} {S : Store} {k : Nat} {x y : D} (h : Sim S k x y) (hk : k ≤ 11) : ∃ S', sameF T 12 [x, y] S = .ok (.bl true) S' ∧ Fr S S' := same_ok 11 (Sim.mono h hk)
/-! ### copies, blame -/
theorem copy_ok {T : List Cls} {v : D} {S : Store} {k : Nat} (h : good S k v) : (copyF T [v] S = .ok v S ∧ ∀ n ds, v = .ref n → S[n]? ≠ some (.lst ds)) ∨ ∃ n ds, v = .ref n ∧ S[n]? = some (.lst ds) ∧ copyF T [v] S = .ok (.ref S.length) (S ++ [.lst ds]) := by
  cases v with
  | ref n =>
    cases k with
    | zero => simp [good] at h
    | succ k =>
      simp only [good] at h
      rcases h with ⟨ds, e, _⟩ | ⟨es, e, _⟩
      · refine .inr ⟨n, ds, rfl, e, ?_⟩
        obtain ⟨a, S', q, h1, h2⟩ := wpR_ex (r := copyF T [.ref n] S) (Q := fun d S' => d = .ref S.length ∧ S' = S ++ [.lst ds]) (by
          refine wp_fn rfl ?_
          simp [copyF, startD, kd_lst e, subD, pList, rdL_lst e])
        rw [q, h1, h2]
      · refine .inl ⟨eq_of (wp_fn rfl ?_), fun m ds q => ?_⟩
        · simp [copyF, startD, kd_dct e, subD]
        · cases q; rw [e]; simp
  | _ =>
    refine .inl ⟨eq_of (wp_fn rfl ?_), fun m ds q => by cases q⟩
    simp [copyF, startD, subD]
theorem blamed_ok {T : List Cls} {v : D} {S : Store} {k : Nat} (h : good S k v) (hk : k ≤ 11) : ∃ S', blamedF T (sameF T 12) [v, v] S = .ok (.bl true) S' ∧ S.length ≤ S'.length ∧ ∀ i, i < S.length → (∀ ds, v = .ref i → S[i]? ≠ some (.lst ds)) → S'[i]? = S[i]? := by
  obtain ⟨S1, e1, f1⟩ := same12 (T := T) (good_sim h) hk
  suffices q : wpR (blamedF T (sameF T 12) [v, v] S) (fun d S' => d = .bl true ∧ S.length ≤ S'.length ∧ ∀ i, i < S.length → (∀ ds, v = .ref i → S[i]? ≠ some (.lst ds)) → S'[i]? = S[i]?) fun _ _ => False by
    obtain ⟨d, S', e, rfl, h1, h2⟩ := wpR_ex q
    exact ⟨S', e, h1, h2⟩
  refine wp_fn rfl ?_
  have old : (∀ n ds, v = .ref n → S[n]? ≠ some (.lst ds)) → ∃ S2, sameF T 12 [v, v] S1 = .ok (.bl true) S2 ∧ Fr S S2 := fun _ => by
    obtain ⟨S2, e2, f2⟩ := same12 ((good_sim h).fr f1) hk
    exact ⟨S2, e2, f1.trans f2⟩
  have plainC : (∀ n ds, v = .ref n → S[n]? ≠ some (.lst ds)) → kd v S1 ≠ some (.ty "list") ∧ (kd v S1).isSome = true := fun hn => by
    have g1 := good_kd (good_fr f1 h)
    refine ⟨fun e => ?_, g1⟩
    cases v with
    | ref n =>
      cases k with
      | zero => simp [good] at h
      | succ k =>
        simp only [good] at h
        rcases h with ⟨ds, e2, _⟩ | ⟨es, e2, _⟩
        · exact hn n ds rfl e2
        · rw [kd_dct (f1.at e2)] at e; simp at e
    | _ => simp at e
  by_cases hn : ∀ n ds, v = .ref n → S[n]? ≠ some (.lst ds)
  · obtain ⟨S2, e2, f2⟩ := old hn
    obtain ⟨p1, p2⟩ := plainC hn
    obtain ⟨kk, hkk⟩ := Option.isSome_iff_exists.mp p2
    have q : ([Kd.ty "list"].any (subD T kk)) = false := by
      cases v with
      | ref n => rcases kd_ref hkk with rfl | rfl
                 · exact absurd hkk p1
                 · rfl
      | _ => cases hkk <;> rfl
    simp [blamedF, startD, e1, hkk, e2]
    simp at q
    simp [q]
    exact ⟨f2.le, fun i hi _ => f2 i hi⟩
  · simp only [Classical.not_forall, Classical.not_not] at hn
    obtain ⟨n, ds, rfl, e⟩ := hn
    cases k with
    | zero => simp [good] at h
    | succ k =>
      have hl : ds.length ≤ 400 := by
        simp only [good] at h
        rcases h with ⟨ds', e', hl, _⟩ | ⟨es, e', _⟩
        · rw [e] at e'; cases e'; exact hl
        · rw [e] at e'; cases e'
      have eS1 := f1.at e
      obtain ⟨S2, e2, f2⟩ := same12 (T := T) (good_app eS1 hl (good_fr f1 h)) hk
      have hnl : n < S.length := (List.getElem?_eq_some_iff.mp e).1
      simp [blamedF, startD, e1, kd_lst eS1, subD, rdL_lst eS1, wp_append eS1 (show ds.length + 1 ≤ 16777216 by omega), e2]
      have l1 := f1.le
      have l2 := f2.le
      rw [List.length_set] at l2
      refine ⟨by omega, fun i hi hne => ?_⟩
      have ni : n ≠ i := fun q => by subst q; exact hne ds rfl e
      rw [f2 i (by rw [List.length_set]; omega), List.getElem?_set_ne ni, f1 i hi]
/-! ### the box -/
theorem gsub_ok {i n j : Nat} {ds : List D} {d : D} {sd : SD} {S : Store} (h1 : sd[i]? = some (some (.ref n))) (h2 : S[n]? = some (.lst ds)) (h3 : j < ds.length) (hf : ds.length ≤ 16777216) : gSubD (eVar i) (eC (.int j)) d sd S = some (sd, S.set n (.lst (ds.set j d))) := by
  have e1 : eVar i sd S = .ok (.ref n) S := by unfold eVar; rw [h1]
  have e2 : ixN ds.length (j : Int) = some j := by unfold ixN; rw [if_pos (by omega), if_pos (by omega)]; simp
  unfold gSubD
  rw [e1]
  dsimp only [eC]
  unfold pSet
  dsimp only
  rw [h2]
  dsimp only
  simp [e2, fits_of hf]
def IsBox (S : Store) (b c : Nat) : Prop := ∃ (g : Int) (f : Bool) (m n : Int), S[b]? = some (.lst [.int g, .bl f, .int m, .int n]) ∧ 0 ≤ m ∧ m < 2147483629 ∧ 0 ≤ n ∧ n ≤ c
theorem IsBox.mono {S : Store} {b c d : Nat} (h : IsBox S b c) (hc : c ≤ d) : IsBox S b d := by
  obtain ⟨g, f, m, n, e, h1, h2, h3, h4⟩ := h
  exact ⟨g, f, m, n, e, h1, h2, h3, by omega⟩
theorem take_ok {c1 c2 : Int} (hc1 : 0 ≤ c1 ∧ c1 < 100000000) (hc2 : 0 ≤ c2 ∧ c2 < 1000000000) {S : Store} {b c : Nat} {many : Int} (h : IsBox S b c) (h0 : 0 < many) (h1 : many ≤ 100000000) (hc : c ≤ 1000000) : ∃ (i : Nat) (S' : Store), takeF c1 c2 [.ref b, .int many] S = .ok (.int i) S' ∧ (i : Int) < many ∧ IsBox S' b (c + 1) ∧ FrB b S S' ∧ S'.length = S.length := by
  obtain ⟨g, f, m, n, e, m1, m2, n1, n2⟩ := h
  suffices q : wpR (takeF c1 c2 [.ref b, .int many] S) (fun d S' => ∃ i : Nat, d = .int i ∧ (i : Int) < many ∧ IsBox S' b (c + 1) ∧ FrB b S S' ∧ S'.length = S.length) fun _ _ => False by
    obtain ⟨d, S', e, i, rfl, h⟩ := wpR_ex q
    exact ⟨i, S', e, h⟩
  have hb : b < S.length := (List.getElem?_eq_some_iff.mp e).1
  have r := rdL_lst e
  refine wp_fn rfl ?_
  have g3 : ∀ d sd, sd[0]? = some (some (D.ref b)) → gSubD (eVar 0) (eC (.int 3)) d sd S = some (sd, S.set b (.lst [.int g, .bl f, .int m, d])) := fun d sd h => gsub_ok (j := 3) h e (by simp) (by simp)
  have g0 : ∀ d sd, sd[0]? = some (some (D.ref b)) → gSubD (eVar 0) (eC (.int 0)) d sd S = some (sd, S.set b (.lst [d, .bl f, .int m, .int n])) := fun d sd h => gsub_ok (j := 0) h e (by simp) (by simp)
  have r3 : ∀ d, rdL (S.set b (.lst [.int g, .bl f, .int m, d])) b = some [.int g, .bl f, .int m, d] := fun d => rdL_lst (List.getElem?_set_self hb)
  have bm : Bd 40 many := by unfold Bd; omega
  have df : ∀ x, divFits x many = true := fun x => divFits_of bm h0
  -- the digits of the mixed number
  have mf1 : mulFits c1 (n + 1) = true := mulFits_of (n := 40) (m := 40) (by unfold Bd; omega) (by unfold Bd; omega)
  have q1 : 0 ≤ c1 * (n + 1) := Int.mul_nonneg hc1.1 (by omega)
  have q2 : c1 * (n + 1) ≤ 100000000 * 1000001 := Int.mul_le_mul (by omega) (by omega) (by omega) (by omega)
  have pf1 : powFits (m + c1 * (n + 1) + c2) 5 = true := decide_eq_true ⟨by decide, by decide, by omega⟩
  have tail : ∀ x : Int, 0 ≤ x → x < 2147483647 → mulFits x 48271 = true ∧ mulFits 104743 (n + 1) = true ∧ powFits (x * 48271 + 104743 * (n + 1)) 3 = true := fun x x0 x1 =>
    ⟨mulFits_of (n := 40) (m := 40) (by unfold Bd; omega) (by unfold Bd; omega), mulFits_of (n := 40) (m := 40) (by unfold Bd; omega) (by unfold Bd; omega), decide_eq_true ⟨by decide, by decide, by omega⟩⟩
  obtain ⟨t1, t2, t3⟩ := tail ((m + c1 * (n + 1) + c2) ^ 5 % 2147483647) (Int.emod_nonneg _ (by decide)) (Int.emod_lt_of_pos _ (by decide))
  have d64 : ∀ x, divFits x 64 = true := fun x => divFits_of (n := 40) (by unfold Bd; decide) (by decide)
  have ii : ∀ x : Int, ∃ i : Nat, x % many = i ∧ (i : Int) < many := fun x => ⟨(x % many).toNat, (Int.toNat_of_nonneg (Int.emod_nonneg _ (by omega))).symm, by rw [Int.toNat_of_nonneg (Int.emod_nonneg _ (by omega))]; exact Int.emod_lt_of_pos _ h0⟩
  have bx3 : IsBox (S.set b (.lst [.int g, .bl f, .int m, .int (n + 1)])) b (c + 1) := ⟨g, f, m, n + 1, List.getElem?_set_self hb, m1, m2, by omega, by omega⟩
  have bx0 : ∀ q, IsBox (S.set b (.lst [.int q, .bl f, .int m, .int n])) b (c + 1) := fun q => ⟨q, f, m, n, List.getElem?_set_self hb, m1, m2, n1, by omega⟩
  have fb : ∀ o, FrB b S (S.set b o) := fun o => FrB.set o
  simp [startD, r, g3, g0, r3, mf1, pf1, h0, df, t1, t2, t3, d64, fb]
  obtain ⟨i1, e1, l1⟩ := ii ((((m + c1 * (n + 1) + c2) ^ 5 % 2147483647 * 48271 + 104743 * (n + 1)) ^ 3 % 2147483587) / 64)
  obtain ⟨i2, e2, l2⟩ := ii g
  cases f with
  | false => exact .inl ⟨rfl, i1, e1, l1, bx3⟩
  | true =>
    by_cases hg : 0 < g
    · exact .inr ⟨rfl, .inr ⟨hg, i2, e2, l2, bx0 _⟩⟩
    · exact .inr ⟨rfl, .inl ⟨by omega, i1, e1, l1, bx3⟩⟩
theorem IsBox.app {S : Store} {b c : Nat} (h : IsBox S b c) (T : Store) : IsBox (S ++ T) b c := by
  obtain ⟨g, f, m, n, e, r⟩ := h
  exact ⟨g, f, m, n, (Fr.app T).at e, r⟩
theorem IsBox.lt {S : Store} {b c : Nat} (h : IsBox S b c) : b < S.length := by
  obtain ⟨g, f, m, n, e, r⟩ := h
  exact (List.getElem?_eq_some_iff.mp e).1
theorem IsBox.fr {S S' : Store} {b c : Nat} (h : IsBox S b c) (f : Fr S S') : IsBox S' b c := by
  obtain ⟨g, f', m, n, e, r⟩ := h
  exact ⟨g, f', m, n, f.at e, r⟩
theorem box_ok {x : Int} {S : Store} : ∃ S', boxF [.int x] S = .ok (.ref S.length) S' ∧ IsBox S' S.length 0 ∧ Fr S S' := by
  have h : boxF [.int x] S = .ok (.ref S.length) (S ++ [.lst [.int (x.natAbs : Int), .bl (decide ((10 : Int) ^ 18 ≤ (x.natAbs : Int))), .int ((x.natAbs : Int) % 2147483629), .int 0]]) := by
    have p : powFits 10 18 = true := by decide
    have f4 : fits 4 = true := by decide
    obtain ⟨a, S', q, h1, h2⟩ := wpR_ex (r := boxF [.int x] S) (Q := fun d S' => d = .ref S.length ∧ S' = S ++ [.lst [.int (x.natAbs : Int), .bl (decide ((10 : Int) ^ 18 ≤ (x.natAbs : Int))), .int ((x.natAbs : Int) % 2147483629), .int 0]]) (by
      refine wp_fn rfl ?_
      simp [startD, abs_nat, p, f4])
    rw [q, h1, h2]
  refine ⟨_, h, ⟨_, _, _, _, last_at _ _, Int.emod_nonneg _ (by decide), Int.emod_lt_of_pos _ (by decide), by decide, by decide⟩, Fr.app _⟩
/-- a digit taken -/
theorem tkF {c1 c2 : Int} (hc1 : 0 ≤ c1 ∧ c1 < 100000000) (hc2 : 0 ≤ c2 ∧ c2 < 1000000000) {S : Store} {b c : Nat} (many : Int) (h : IsBox S b c) (h0 : 0 < many := by decide) (h1 : many ≤ 100000000 := by decide) (hc : c ≤ 1000000 := by omega) : ∃ (i : Nat) (S' : Store), takeF c1 c2 [.ref b, .int many] S = .ok (.int i) S' ∧ (i : Int) < many ∧ IsBox S' b (c + 1) ∧ FrB b S S' := by
  obtain ⟨i, S', e, h2, h3, h4, _⟩ := take_ok hc1 hc2 h h0 h1 hc
  exact ⟨i, S', e, h2, h3, h4⟩
/-- a sign -/
def sgn (i : Nat) : Int := if i = 0 then 1 else -1
theorem sgn_bd (i : Nat) : Bd 1 (sgn i) := by unfold sgn; split <;> (unfold Bd; decide)
theorem sgn_at {n i : Nat} {S : Store} {Q : D → Store → Prop} (h : rdL S n = some [.int 1, .int (-1)]) (hi : (i : Int) < 2) : wpP (pIx (.ref n) (.int i) S) Q = Q (.int (sgn i)) S := by
  rcases (by omega : i = 0 ∨ i = 1) with rfl | rfl <;> simp [h, sgn]
end Lay

set_option Elab.async false
set_option linter.all false
set_option maxRecDepth 100000
set_option maxHeartbeats 4000000
/-! L17: equality of data; values drawn in a new order; displays. -/
namespace Lay
open PySem PySem.Spec PyProof.Rows L2
open Classical
/-! ### equality -/
/-- data that == may see, j deep -/
def PD (j : Nat) (d : D) : Prop := ∃ p, (∀ S k, 2 * j ≤ k → toPy S k d = some p) ∧ p.canLay0 = true ∧ p.depth ≤ j
theorem PD.int {j : Nat} (i : Int) : PD j (.int i) := ⟨.int i, fun S k _ => by cases k <;> simp only [toPy], by simp [PyData.canLay0], by simp [PyData.depth]⟩
theorem PD.bl {j : Nat} (b : Bool) : PD j (.bl b) := ⟨.bool b, fun S k _ => by cases k <;> simp only [toPy], by simp [PyData.canLay0], by simp [PyData.depth]⟩
theorem PD.non {j : Nat} : PD j .non := ⟨.none, fun S k _ => by cases k <;> simp only [toPy], by simp [PyData.canLay0], by simp [PyData.depth]⟩
theorem PD.str {j : Nat} {x : Str} (h : okS x = true) : PD j (.str x) := by
  refine ⟨.str x, fun S k _ => by cases k <;> simp only [toPy], ?_, by simp [PyData.depth]⟩
  unfold okS SeqAt.shaped at h
  exact (Bool.and_eq_true_iff.mp h).1
/-- a row of data -/
theorem toPys_of {S : Store} {j k : Nat} (hk : 2 * j + 1 ≤ k) : ∀ {ds : List D}, (∀ d ∈ ds, ∃ p, toPy S (k - 1) d = some p ∧ p.canLay0 = true ∧ p.depth ≤ j) → ∃ ps, toPys S k ds = some ps ∧ PyData.canLayAll0 ps = true ∧ PyData.depthAll ps ≤ j ∧ ps.length = ds.length
  | [], _ => ⟨[], by cases k <;> simp only [toPys], by simp [PyData.canLayAll0], by simp [PyData.depthAll], rfl⟩
  | d :: ds, h => by
    obtain ⟨p, e, h1, h2⟩ := h d (by simp)
    obtain ⟨ps, e', h1', h2', h3'⟩ := toPys_of hk (ds := ds) fun x hx => h x (by simp [hx])
    obtain ⟨m, rfl⟩ : ∃ m, k = m + 1 := ⟨k - 1, by omega⟩
    refine ⟨p :: ps, ?_, by simp [PyData.canLayAll0, h1, h1'], ?_, by simp [h3']⟩
    · simp only [toPys]
      rw [show toPy S m d = some p from e, e']
    · simp only [PyData.depthAll]
      omega
theorem PD.tup {j : Nat} {ds : List D} (h : ∀ d ∈ ds, PD j d) : PD (j + 1) (.tup ds) := by
  have key : ∀ S k, 2 * j + 1 ≤ k → ∃ ps, toPys S k ds = some ps ∧ PyData.canLayAll0 ps = true ∧ PyData.depthAll ps ≤ j ∧ ps.length = ds.length := fun S k hk =>
    toPys_of hk fun d hd => by
      obtain ⟨p, e, h1, h2⟩ := h d hd
      exact ⟨p, e S (k - 1) (by omega), h1, h2⟩
  obtain ⟨ps, e, h1, h2, _⟩ := key [] (2 * j + 1) (Nat.le_refl _)
  have same : ∀ S k, 2 * j + 1 ≤ k → toPys S k ds = some ps := fun S k hk => by
    have gen : ∀ (xs : List D), (∀ d ∈ xs, PD j d) → toPys S k xs = toPys [] (2 * j + 1) xs := fun xs hx => by
      induction xs with
      | nil => cases k <;> simp only [toPys]
      | cons x xs ih =>
        obtain ⟨p, e, _⟩ := hx x (by simp)
        obtain ⟨m, rfl⟩ : ∃ m, k = m + 1 := ⟨k - 1, by omega⟩
        simp only [toPys]
        rw [e S m (by omega), e [] (2 * j) (Nat.le_refl _), ih fun d hd => hx d (by simp [hd])]
    rw [gen ds h, e]
  refine ⟨.tuple ps, fun S k hk => ?_, by simpa [PyData.canLay0] using h1, by simp only [PyData.depth]; omega⟩
  obtain ⟨m, rfl⟩ : ∃ m, k = m + 1 := ⟨k - 1, by omega⟩
  simp only [toPy]
  rw [same S m (by omega)]
  rfl
theorem PD.mono {j l : Nat} {d : D} (h : PD j d) (hl : j ≤ l) : PD l d := by
  obtain ⟨p, e, h1, h2⟩ := h
  exact ⟨p, fun S k hk => e S k (by omega), h1, by omega⟩
/-- a list of such data -/
theorem toPy_lst {S : Store} {n j : Nat} {ds : List D} (h : rdL S n = some ds) (hd : ∀ d ∈ ds, PD j d) (hj : j ≤ 60) : ∃ ps, toPy S 140 (.ref n) = some (.list ps) ∧ SeqAt.shaped (.list ps) = true ∧ ps.length = ds.length := by
  obtain ⟨ps, e, h1, h2, h3⟩ := toPys_of (S := S) (j := j) (k := 139) (by omega) (ds := ds) fun d hx => by
    obtain ⟨p, e, h1, h2⟩ := hd d hx
    exact ⟨p, e S 138 (by omega), h1, h2⟩
  refine ⟨ps, ?_, ?_, h3⟩
  · simp only [toPy]
    rw [h]
    simp only [e, Option.map_some]
  · unfold SeqAt.shaped
    rw [Bool.and_eq_true]
    refine ⟨by simpa [PyData.canLay0] using h1, decide_eq_true ?_⟩
    simp only [PyData.depth]
    omega
theorem pEqB_lnil {S : Store} {n m j : Nat} {ds : List D} (h : rdL S n = some ds) (h2 : rdL S m = some []) (hd : ∀ d ∈ ds, PD j d) (hj : j ≤ 60) : pEqB (.ref n) (.ref m) S = some ds.isEmpty := by
  obtain ⟨ps, e, s, l⟩ := toPy_lst h hd hj
  obtain ⟨qs, e', s', l'⟩ := toPy_lst h2 (j := j) (fun d hd => by simp at hd) hj
  have : qs = [] := List.length_eq_zero_iff.mp l'
  subst this
  unfold pEqB
  rw [e, e']
  dsimp only
  rw [s, s']
  cases ps with
  | nil =>
    have : ds = [] := List.length_eq_zero_iff.mp l.symm
    subst this
    rfl
  | cons p ps =>
    cases ds with
    | nil => simp at l
    | cons d ds => rfl
theorem wp_nel {S : Store} {n m j : Nat} {ds : List D} {Q : D → Store → Prop} (h : rdL S n = some ds) (h2 : rdL S m = some []) (hd : ∀ d ∈ ds, PD j d) (hj : j ≤ 60 := by decide) : wpP (pNe (.ref n) (.ref m) S) Q = Q (.bl (!ds.isEmpty)) S := by
  unfold pNe; rw [pEqB_lnil h h2 hd hj]; rfl
theorem wp_eql {S : Store} {n m j : Nat} {ds : List D} {Q : D → Store → Prop} (h : rdL S n = some ds) (h2 : rdL S m = some []) (hd : ∀ d ∈ ds, PD j d) (hj : j ≤ 60 := by decide) : wpP (pEq (.ref n) (.ref m) S) Q = Q (.bl ds.isEmpty) S := by
  unfold pEq; rw [pEqB_lnil h h2 hd hj]; rfl
/-! ### a new order -/
/-- what a taking of digits does -/
def TkOk (tk : List D → M D) : Prop := ∀ {S : Store} {b c : Nat} (many : Int), IsBox S b c → 0 < many → many ≤ 100000000 → c ≤ 1000000 → ∃ (i : Nat) (S' : Store), tk [.ref b, .int many] S = .ok (.int i) S' ∧ (i : Int) < many ∧ IsBox S' b (c + 1) ∧ FrB b S S'
theorem tkOk {c1 c2 : Int} (hc1 : 0 ≤ c1 ∧ c1 < 100000000) (hc2 : 0 ≤ c2 ∧ c2 < 1000000000) : TkOk (takeF c1 c2) := fun many h h0 h1 hc => tkF hc1 hc2 many h h0 h1 hc
theorem wp_popAt {S : Store} {n : Nat} {ds : List D} {i : Nat} {d : D} {Q : D → Store → Prop} (h : S[n]? = some (.lst ds)) (hd : ds[i]? = some d) (hf : ds.length ≤ 16777216) : wpP (pPopAt (.ref n) [.int i] S) Q = Q d (S.set n (.lst (ds.eraseIdx i))) := by
  unfold pPopAt
  have hl := (List.getElem?_eq_some_iff.mp hd).1
  have e : ixN ds.length (i : Int) = some i := by unfold ixN; rw [if_pos (by omega), if_pos (by omega)]; simp
  dsimp only
  rw [h]
  dsimp only
  rw [if_pos (fits_of hf), e]
  dsimp only
  rw [hd]
  rfl
theorem mixed_ok {tk : List D → M D} (htk : TkOk tk) {S : Store} {b c n j : Nat} {ds : List D} (h : IsBox S b c) (hn : rdL S n = some ds) (hd : ∀ d ∈ ds, PD j d) (hj : j ≤ 60) (hl : ds.length ≤ 1000) (hc : c ≤ 900000) :
    ∃ (m : Nat) (es : List D) (S' : Store), mixedF tk [.ref b, .ref n] S = .ok (.ref m) S' ∧ S.length ≤ m ∧ S'[m]? = some (.lst es) ∧ es.length = ds.length ∧ (∀ d ∈ es, d ∈ ds) ∧ IsBox S' b (c + ds.length) ∧ FrB b S S' := by
  suffices q : wpR (mixedF tk [.ref b, .ref n] S) (fun d S' => ∃ (m : Nat) (es : List D), d = .ref m ∧ S.length ≤ m ∧ S'[m]? = some (.lst es) ∧ es.length = ds.length ∧ (∀ d ∈ es, d ∈ ds) ∧ IsBox S' b (c + ds.length) ∧ FrB b S S') fun _ _ => False by
    obtain ⟨d, S', e, m, es, rfl, h⟩ := wpR_ex q
    exact ⟨m, es, S', e, h⟩
  refine wp_fn rfl ?_
  have hb := h.lt
  simp [startD, pList, hn, fits_of]
  refine wp_while (fun k sd S' => ∃ (ls fs : List D), sd = [some (.ref b), some (.ref n), some (.ref S.length), some (.ref (S.length + 1))] ∧ S'[S.length]? = some (.lst ls) ∧ S'[S.length + 1]? = some (.lst fs) ∧ k = ls.length ∧ ls.length + fs.length = ds.length ∧
    (∀ d ∈ ls, d ∈ ds) ∧ (∀ d ∈ fs, d ∈ ds) ∧ IsBox S' b (c + fs.length) ∧ FrB b S S') ?_ ds.length _ _ ⟨ds, [], rfl, ?_, ?_, rfl, by simp, fun d hd => hd, by simp, ?_, ?_⟩
  rotate_left
  · simp
  · simp
  · rw [show S ++ [SO.lst ds, SO.lst []] = S ++ [SO.lst ds, SO.lst []] from rfl]
    exact h.app _
  · exact (Fr.app _).b b
  rintro k sd S' ⟨ls, fs, rfl, e1, e2, rfl, hs, h1, h2, h3, h4⟩
  have r1 : rdL (S' ++ [SO.lst []]) S.length = some ls := rdL_lst ((Fr.app _).at e1)
  have r2 : rdL (S' ++ [SO.lst []]) S'.length = some [] := rdL_lst (last_at _ _)
  have b3 := h3.app [SO.lst []]
  have e1' : (S' ++ [SO.lst []])[S.length]? = some (.lst ls) := (Fr.app _).at e1
  have e2' : (S' ++ [SO.lst []])[S.length + 1]? = some (.lst fs) := (Fr.app _).at e2
  simp [fits_of, wp_nel r1 r2 (fun d hd' => hd d (h1 d hd')) hj]
  generalize hS2 : S' ++ [SO.lst []] = S2 at *
  have f2 : FrB b S S2 := h4.trans (by rw [← hS2]; exact (Fr.app _).b b)
  cases ls with
  | nil =>
    exact .inl ⟨rfl, fs, e2', by simpa using hs, h2, by rw [show ds.length = fs.length by simpa using hs.symm]; exact b3, f2⟩
  | cons l ls =>
    refine .inr ⟨by simp, ?_⟩
    obtain ⟨i, S3, q1, q2, q3, q4⟩ := htk ((ls.length : Int) + 1) b3 (by omega) (by simp at hs; omega) (by omega)
    have e3 := q4.at e1' (by omega)
    have e3' := q4.at e2' (by omega)
    have hsl : ls.length + 1 + fs.length = ds.length := by simpa using hs
    have hil : i < (l :: ls).length := by simp; omega
    obtain ⟨d, hdi⟩ : ∃ d, (l :: ls)[i]? = some d := ⟨(l :: ls)[i], List.getElem?_eq_getElem hil⟩
    have dm := List.mem_of_getElem? hdi
    have n1 : S.length + 1 < S3.length := (List.getElem?_eq_some_iff.mp e3').1
    simp [rdL_lst e2', rdL_lst e1', e1', q1]
    rw [wp_popAt e3 hdi (by simp; omega), wp_append (ds := fs) (by rw [List.getElem?_set_ne (by omega)]; exact e3') (by omega)]
    have el : ((l :: ls).eraseIdx i).length = ls.length := by rw [List.length_eraseIdx_of_lt hil]; simp
    refine ⟨ls.length, by omega, (l :: ls).eraseIdx i, ?_, fs ++ [d], ?_, el.symm, by rw [el]; simp; omega, fun x hx => h1 x (List.mem_of_mem_eraseIdx hx), fun x hx => ?_, ?_, ?_⟩
    · rw [List.getElem?_set_ne (by omega), List.getElem?_set_self (by omega)]
    · rw [List.getElem?_set_self (by simp; omega)]
    · rcases List.mem_append.mp hx with z | z
      · exact h2 x z
      · have : x = d := by simpa using z
        subst this
        exact h1 _ dm
    · have q := q3.mono (d := c + (fs ++ [d]).length) (by simp; omega)
      obtain ⟨g, f, m, n', e, r⟩ := q
      exact ⟨g, f, m, n', by rw [List.getElem?_set_ne (by omega), List.getElem?_set_ne (by omega)]; exact e, r⟩
    · have k1 := f2.trans q4
      refine ⟨by simp; exact k1.1, fun x hx hne => ?_⟩
      rw [List.getElem?_set_ne (by omega), List.getElem?_set_ne (by omega)]
      exact k1.2 x hx hne
/-! ### good data that leave the box alone -/
theorem good_mono {S : Store} : ∀ {k j : Nat} {d : D}, good S k d → k ≤ j → good S j d := by
  have pm : ∀ {k j : Nat} {d : D}, plain k d → k ≤ j → plain j d := by
    intro k
    induction k with
    | zero => intro j d h _; cases d <;> cases j <;> simpa [plain] using h
    | succ k ih =>
      intro j d h hj
      obtain ⟨m, rfl⟩ : ∃ m, j = m + 1 := ⟨j - 1, by omega⟩
      cases d with
      | tup ds => simp only [plain] at h ⊢; exact ⟨h.1, fun d hd => ih (h.2 d hd) (by omega)⟩
      | _ => simpa [plain] using h
  intro k
  induction k with
  | zero => intro j d h _; cases d <;> cases j <;> simpa [good] using h
  | succ k ih =>
    intro j d h hj
    obtain ⟨m, rfl⟩ : ∃ m, j = m + 1 := ⟨j - 1, by omega⟩
    cases d with
    | tup ds => simp only [good] at h ⊢; exact ⟨h.1, fun d hd => ih (h.2 d hd) (by omega)⟩
    | ref n =>
      simp only [good] at h ⊢
      rcases h with ⟨ds, e, hl, h⟩ | ⟨kvs, e, hl, hn, h⟩
      · exact .inl ⟨ds, e, hl, fun d hd => ih (h d hd) (by omega)⟩
      · exact .inr ⟨kvs, e, hl, hn, fun p hp => pm (h p hp) (by omega)⟩
    | _ => simpa [good] using h
def gd (b : Nat) (S : Store) (k : Nat) (d : D) : Prop := good (S.set b (.dlk [])) k d
theorem gd.good {b : Nat} {S : Store} : ∀ {k : Nat} {d : D}, gd b S k d → good S k d := by
  intro k
  unfold gd
  induction k with
  | zero => intro d h; cases d <;> simpa [Lay.good] using h
  | succ k ih =>
    intro d h
    cases d with
    | tup ds => simp only [Lay.good] at h ⊢; exact ⟨h.1, fun d hd => ih (h.2 d hd)⟩
    | ref n =>
      simp only [Lay.good] at h ⊢
      have ne : ∀ o, (S.set b (.dlk []))[n]? = some o → o ≠ .dlk [] → S[n]? = some o := fun o e no => by
        by_cases hb : b = n
        · subst hb
          by_cases hl : b < S.length
          · rw [List.getElem?_set_self hl] at e; cases e; exact absurd rfl no
          · rw [List.getElem?_eq_none (by simp; omega)] at e; cases e
        · rw [List.getElem?_set_ne hb] at e; exact e
      rcases h with ⟨ds, e, hl, h⟩ | ⟨kvs, e, hl, hn, h⟩
      · exact .inl ⟨ds, ne _ e (by simp), hl, fun d hd => ih (h d hd)⟩
      · exact .inr ⟨kvs, ne _ e (by simp), hl, hn, h⟩
    | _ => simpa [Lay.good] using h
theorem gd.frb {b : Nat} {S S' : Store} {k : Nat} {d : D} (h : gd b S k d) (f : FrB b S S') : gd b S' k d := by
  refine good_fr (fun n hn => ?_) h
  rw [List.length_set] at hn
  have := f.1
  by_cases hb : b = n
  · subst hb
    rw [List.getElem?_set_self hn, List.getElem?_set_self (by omega)]
  · rw [List.getElem?_set_ne hb, List.getElem?_set_ne hb]
    exact f.2 n hn (Ne.symm hb)
theorem gd.fr {b : Nat} {S S' : Store} {k : Nat} {d : D} (h : gd b S k d) (f : Fr S S') : gd b S' k d := h.frb (f.b b)
theorem gd.mono {b : Nat} {S : Store} {k j : Nat} {d : D} (h : gd b S k d) (hj : k ≤ j) : gd b S j d := good_mono h hj
theorem gd.int {b : Nat} {S : Store} {k : Nat} {i : Int} (h : Bd 1000 i) : gd b S k (.int i) := by cases k <;> simpa [gd, Lay.good] using h
theorem gd.non {b : Nat} {S : Store} {k : Nat} : gd b S k .non := by cases k <;> simp [gd, Lay.good]
theorem gd.bl {b : Nat} {S : Store} {k : Nat} (v : Bool) : gd b S k (.bl v) := by cases k <;> simp [gd, Lay.good]
theorem gd.str {b : Nat} {S : Store} {k : Nat} {x : Str} (h : okS x = true) : gd b S k (.str x) := by cases k <;> simpa [gd, Lay.good] using h
theorem gd.exn {b : Nat} {S : Store} {k c : Nat} {ds : List D} : gd b S k (.exn c ds) := by cases k <;> simp [gd, Lay.good]
theorem gd.tup {b : Nat} {S : Store} {k : Nat} {ds : List D} (hl : ds.length ≤ 400) (h : ∀ d ∈ ds, gd b S k d) : gd b S (k + 1) (.tup ds) := by
  unfold gd; simp only [Lay.good]; exact ⟨hl, h⟩
theorem gd.lst {b n : Nat} {S : Store} {k : Nat} {ds : List D} (e : S[n]? = some (.lst ds)) (hn : n ≠ b) (hl : ds.length ≤ 400) (h : ∀ d ∈ ds, gd b S k d) : gd b S (k + 1) (.ref n) := by
  unfold gd; simp only [Lay.good]; exact .inl ⟨ds, by rw [List.getElem?_set_ne (Ne.symm hn)]; exact e, hl, h⟩
theorem gd.dct {b n : Nat} {S : Store} {k : Nat} {kvs : List (Key × D)} (e : S[n]? = some (.dct kvs)) (hn : n ≠ b) (hl : kvs.length ≤ 400) (hd : (kvs.map (·.1)).Nodup) (h : ∀ p ∈ kvs, plain k p.2) : gd b S (k + 1) (.ref n) := by
  unfold gd; simp only [Lay.good]; exact .inr ⟨kvs, by rw [List.getElem?_set_ne (Ne.symm hn)]; exact e, hl, hd, h⟩
/-! ### displays -/
def GE (b k : Nat) (e : EE) (sd : SD) (S : Store) : Prop := ∀ S1, Fr S S1 → wpR (e sd S1) (fun x S2 => Fr S1 S2 ∧ gd b S2 k x) fun _ _ => False
def GA (b k n : Nat) (aa : EA) (sd : SD) (S : Store) : Prop := ∀ S1, Fr S S1 → wpR (aa sd S1) (fun xs S2 => Fr S1 S2 ∧ xs.length = n ∧ ∀ x ∈ xs, gd b S2 k x) fun _ _ => False
def PA' (k n : Nat) (aa : EA) (sd : SD) (S : Store) : Prop := ∀ S1, Fr S S1 → wpR (aa sd S1) (fun xs S2 => Fr S1 S2 ∧ xs.length = n ∧ ∀ x ∈ xs, plain k x) fun _ _ => False
section
variable {b k n : Nat} {e : EE} {aa : EA} {sd : SD} {S : Store}
theorem GE.fr {S' : Store} (h : GE b k e sd S) (f : Fr S S') : GE b k e sd S' := fun S1 f1 => h S1 (f.trans f1)
theorem ge_non : GE b k (eC .non) sd S := fun S1 _ => ⟨Fr.refl, gd.non⟩
theorem ge_bl {v : Bool} : GE b k (eC (.bl v)) sd S := fun S1 _ => ⟨Fr.refl, gd.bl v⟩
theorem ge_int {i : Int} (h : Bd 1000 i) : GE b k (eC (.int i)) sd S := fun S1 _ => ⟨Fr.refl, gd.int h⟩
theorem ge_str {x : Str} (h : okS x = true) : GE b k (eC (.str x)) sd S := fun S1 _ => ⟨Fr.refl, gd.str h⟩
theorem ge_neg {i : Int} (h : Bd 1000 (-i)) : GE b k (eNeg (eC (.int i))) sd S := fun S1 _ => by
  rw [v_neg, v_c]
  exact ⟨i, rfl, Fr.refl, gd.int h⟩
theorem ge_var {i : Nat} {d : D} (h : sd[i]? = some (some d)) (hd : gd b S k d) : GE b k (eVar i) sd S := fun S1 f1 => by
  rw [wpR_var]
  exact ⟨d, h, Fr.refl, hd.fr f1⟩
/-- what needs no store -/
theorem ge_pure {d : D} (h : ∀ S1 (Q : D → Store → Prop), Q d S1 → wpR (e sd S1) Q fun _ _ => False) (hd : gd b S k d) : GE b k e sd S := fun S1 f1 => h S1 _ ⟨Fr.refl, hd.fr f1⟩
theorem ga_nil : GA b k 0 aNil sd S := fun S1 _ => ⟨Fr.refl, rfl, fun x hx => by simp at hx⟩
theorem ga_cons (h : GE b k e sd S) (t : GA b k n aa sd S) : GA b k (n + 1) (aCons e aa) sd S := fun S1 f1 => by
  rw [v_cons]
  refine wpR_mono (h S1 f1) (fun x S2 ⟨f2, g2⟩ => ?_) fun _ _ z => z
  refine wpR_mono (t S2 (f1.trans f2)) (fun xs S3 ⟨f3, l3, g3⟩ => ?_) fun _ _ z => z
  refine ⟨f2.trans f3, by simp [l3], fun y hy => ?_⟩
  rcases List.mem_cons.mp hy with rfl | hy
  · exact g2.fr f3
  · exact g3 y hy
theorem ge_tup (h : GA b k n aa sd S) (hn : n ≤ 400 := by decide) : GE b (k + 1) (eTup aa) sd S := fun S1 f1 => by
  rw [v_tup]
  refine wpR_mono (h S1 f1) (fun xs S2 ⟨f2, l2, g2⟩ => ?_) fun _ _ z => z
  exact ⟨fits_of (by omega), f2, gd.tup (by omega) g2⟩
theorem ge_lst (hb : b < S.length) (h : GA b k n aa sd S) (hn : n ≤ 400 := by decide) : GE b (k + 1) (eLst aa) sd S := fun S1 f1 => by
  rw [v_lst]
  refine wpR_mono (h S1 f1) (fun xs S2 ⟨f2, l2, g2⟩ => ?_) fun _ _ z => z
  have := f1.le
  have := f2.le
  exact ⟨fits_of (by omega), f2.trans (Fr.app _), gd.lst (last_at _ _) (by omega) (by omega) fun d hd => (g2 d hd).fr (Fr.app _)⟩
theorem ge_dct0 (hb : b < S.length) : GE b (k + 1) eDct0 sd S := fun S1 f1 => by
  rw [v_dct0]
  have := f1.le
  exact ⟨Fr.app _, gd.dct (last_at _ _) (by omega) (by simp) (by simp) fun p hp => by simp at hp⟩
theorem ge_mk {c : Nat} (h : GA b k n aa sd S) : GE b k (eMk c n aa) sd S := fun S1 f1 => by
  rw [v_mk]
  exact wpR_mono (h S1 f1) (fun xs S2 ⟨f2, l2, g2⟩ => ⟨l2, f2, gd.exn⟩) fun _ _ z => z
theorem pa_nil' : PA' k 0 aNil sd S := fun S1 _ => ⟨Fr.refl, rfl, fun x hx => by simp at hx⟩
theorem pa_c {d : D} (h : plain k d) (t : PA' k n aa sd S) : PA' k (n + 1) (aCons (eC d) aa) sd S := fun S1 f1 => by
  rw [v_cons, v_c]
  refine wpR_mono (t S1 f1) (fun xs S3 ⟨f3, l3, g3⟩ => ?_) fun _ _ z => z
  refine ⟨f3, by simp [l3], fun y hy => ?_⟩
  rcases List.mem_cons.mp hy with rfl | hy
  · exact h
  · exact g3 y hy
theorem pa_tup {m : Nat} {bb : EA} (h : PA' k m bb sd S) (t : PA' (k + 1) n aa sd S) (hm : m ≤ 400 := by decide) : PA' (k + 1) (n + 1) (aCons (eTup bb) aa) sd S := fun S1 f1 => by
  rw [v_cons, v_tup]
  refine wpR_mono (h S1 f1) (fun xs S2 ⟨f2, l2, g2⟩ => ?_) fun _ _ z => z
  refine ⟨fits_of (by omega), wpR_mono (t S2 (f1.trans f2)) (fun ys S3 ⟨f3, l3, g3⟩ => ?_) fun _ _ z => z⟩
  refine ⟨f2.trans f3, by simp [l3], fun y hy => ?_⟩
  rcases List.mem_cons.mp hy with rfl | hy
  · simp only [plain]; exact ⟨by omega, g2⟩
  · exact g3 y hy
end
theorem ge_dct {b k n : Nat} {ks : List Key} {aa : EA} {sd : SD} {S : Store} (hb : b < S.length) (h : PA' k n aa sd S) (hk : ks.length = n) (hn : n ≤ 400) (hd : ks.Nodup) : GE b (k + 1) (eDct ks aa) sd S := fun S1 f1 => by
  have q := h (S1 ++ [.dct []]) (f1.trans (Fr.app _))
  obtain ⟨xs, S2, e, f2, l2, g2⟩ := wpR_ex q
  have e2 : S2[S1.length]? = some (.dct []) := f2.at (last_at _ _)
  have := f1.le
  have l3 : S1.length < S2.length := (List.getElem?_eq_some_iff.mp e2).1
  unfold eDct
  rw [e]
  dsimp only
  rw [e2]
  dsimp only
  rw [if_pos (by omega)]
  refine ⟨fun i hi => ?_, ?_⟩
  · rw [List.getElem?_set_ne (by omega), f2 i (by simp; omega)]
    exact List.getElem?_append_left hi
  · refine gd.dct (List.getElem?_set_self l3) (by omega) (by simp; omega) ?_ fun p hp => g2 _ (List.of_mem_zip hp).2
    rw [List.map_fst_zip (by omega)]
    exact hd
/-- a list in the store -/
def LGd (b k m : Nat) (S : Store) (d : D) : Prop := ∃ n xs, d = .ref n ∧ n ≠ b ∧ S[n]? = some (.lst xs) ∧ xs.length = m ∧ ∀ x ∈ xs, gd b S k x
theorem LGd.frb {b k m : Nat} {S S' : Store} {d : D} (h : LGd b k m S d) (f : FrB b S S') : LGd b k m S' d := by
  obtain ⟨n, xs, rfl, hn, e, hl, hx⟩ := h
  exact ⟨n, xs, rfl, hn, by rw [f.2 n (List.getElem?_eq_some_iff.mp e).1 hn]; exact e, hl, fun x z => (hx x z).frb f⟩
theorem LGd.fr {b k m : Nat} {S S' : Store} {d : D} (h : LGd b k m S d) (f : Fr S S') : LGd b k m S' d := h.frb (f.b b)
def GL (b k m : Nat) (e : EE) (sd : SD) (S : Store) : Prop := ∀ S1, Fr S S1 → wpR (e sd S1) (fun x S2 => Fr S1 S2 ∧ LGd b k m S2 x) fun _ _ => False
section
variable {b k n m : Nat} {e f : EE} {aa : EA} {sd : SD} {S : Store}
theorem gl_lst (hb : b < S.length) (h : GA b k n aa sd S) (hn : n ≤ 1000 := by decide) : GL b k n (eLst aa) sd S := fun S1 f1 => by
  rw [v_lst]
  refine wpR_mono (h S1 f1) (fun xs S2 ⟨f2, l2, g2⟩ => ?_) fun _ _ z => z
  have := f1.le
  have := f2.le
  exact ⟨fits_of (by omega), f2.trans (Fr.app _), S2.length, xs, rfl, by omega, last_at _ _, l2, fun d hd => (g2 d hd).fr (Fr.app _)⟩
theorem gl_var {i : Nat} {d : D} (h : sd[i]? = some (some d)) (hd : LGd b k m S d) : GL b k m (eVar i) sd S := fun S1 f1 => by
  rw [wpR_var]
  exact ⟨d, h, Fr.refl, hd.fr f1⟩
theorem wp_addL {S : Store} {p q : Nat} {xs ys : List D} {Q : D → Store → Prop} (h1 : S[p]? = some (.lst xs)) (h2 : S[q]? = some (.lst ys)) (hf : xs.length + ys.length ≤ 16777216) : wpP (pAdd (.ref p) (.ref q) S) Q = Q (.ref S.length) (S ++ [.lst (xs ++ ys)]) := by
  unfold pAdd
  dsimp only
  rw [h1, h2]
  dsimp only
  rw [if_pos (fits_of hf)]
  rfl
theorem gl_add (hb : b < S.length) (h : GL b k n e sd S) (t : GL b k m f sd S) (hm : n + m ≤ 1000 := by decide) : GL b k (n + m) (eBin pAdd e f) sd S := fun S1 f1 => by
  rw [v_bin]
  refine wpR_mono (h S1 f1) (fun x S2 ⟨f2, g2⟩ => ?_) fun _ _ z => z
  refine wpR_mono (t S2 (f1.trans f2)) (fun y S3 ⟨f3, q, ys, e4, n4, a4, l4, g4⟩ => ?_) fun _ _ z => z
  obtain ⟨p, xs, e3, n3, a3, l3, g3⟩ := g2.fr f3
  subst e3 e4
  have := f1.le
  have := f2.le
  have := f3.le
  rw [wp_addL a3 a4 (by omega)]
  refine ⟨f2.trans (f3.trans (Fr.app _)), S3.length, xs ++ ys, rfl, by omega, last_at _ _, by simp; omega, fun z hz => ?_⟩
  rcases List.mem_append.mp hz with hz | hz
  · exact (g3 z hz).fr (Fr.app _)
  · exact (g4 z hz).fr (Fr.app _)
end
/-- [found[k] for k in ..] -/
theorem lc_pick {it : EI} {f v : Nat} {sd : SD} {S : Store} {Q : D → Store → Prop} {E : Ex → Store → Prop} (hfv : f ≠ v) (hv : v < sd.length)
    (h : wpR (it sd S) (fun t S1 => ∃ p ds, sd[f]? = some (some (.ref p)) ∧ S1[p]? = some (.lst ds) ∧ (∀ d ∈ t.ds, ∃ i : Nat, d = .int i ∧ i < ds.length) ∧ (∀ S', Fr S1 S' → t.chk S') ∧ t.ds.length ≤ 1000 ∧
      ∀ ys : List D, ys.length = t.ds.length → (∀ y ∈ ys, y ∈ ds) → Q (.ref S1.length) (S1 ++ [.lst ys])) E) : wpR (eLc it (gNm v) bTrue (eBin pIx (eVar f) (eVar v)) [v] sd S) Q E := by
  refine wp_eLc (wpR_mono h (fun t S1 ⟨p, ds, hf, e, hi, hck, hlen, q⟩ => ?_) fun _ _ z => z)
  have key : ∃ S', lcD S1.length (gNm v) bTrue (eBin pIx (eVar f) (eVar v)) [v] t.chk sd t.ds (S1 ++ [.lst []]) = some S' ∧ ∃ ys : List D, S' = S1 ++ [.lst ys] ∧ ys.length = 0 + t.ds.length ∧ ∀ y ∈ ys, y ∈ ds := by
    refine wp_lc (fun i S' => ∃ ys : List D, S' = S1 ++ [.lst ys] ∧ ys.length = i ∧ ∀ y ∈ ys, y ∈ ds) t.ds 0 _ ⟨[], rfl, rfl, fun y hy => by simp at hy⟩ ?_ ?_
    rotate_left
    · rintro S2 ⟨ys, rfl, _⟩
      exact hck _ (Fr.app _)
    · rintro j d S2 hj ⟨ys, rfl, l, hy⟩
      obtain ⟨i, rfl, il⟩ := hi d (List.mem_of_getElem? hj)
      have jl := (List.getElem?_eq_some_iff.mp hj).1
      refine ⟨hck _ (Fr.app _), _, rfl, ?_⟩
      have e1 : ((wipeD sd [v]).set v (some (.int (i : Int))))[f]? = some (some (.ref p)) := by
        rw [List.getElem?_set_ne (Ne.symm hfv)]
        show ((wipeD sd []).set v none)[f]? = _
        rw [List.getElem?_set_ne (Ne.symm hfv)]
        exact hf
      have e2 : ((wipeD sd [v]).set v (some (.int (i : Int))))[v]? = some (some (.int i)) := by
        rw [List.getElem?_set_self]
        show v < ((wipeD sd []).set v none).length
        rw [List.length_set]
        exact hv
      have rd : rdL (S1 ++ [SO.lst ys]) p = some ds := rdL_lst ((Fr.app _).at e)
      have at_ : atI ds (i : Int) = some ds[i] := by rw [atI_nat il]; simp [il]
      show wpR (bTrue _ _) _ _
      unfold bTrue
      rw [wpR_ok, if_pos rfl, v_bin, wpR_var]
      refine ⟨_, e1, ?_⟩
      rw [wpR_var]
      refine ⟨_, e2, ?_⟩
      rw [wp_ixR]
      refine ⟨ds, rd, ds[i], at_, ys, last_at _ _, fits_of (by omega), ys ++ [ds[i]], ?_, by simp; omega, fun y hm => ?_⟩
      · simp
      · rcases List.mem_append.mp hm with z | z
        · exact hy y z
        · have : y = ds[i] := by simpa using z
          subst this
          exact List.getElem_mem il
  obtain ⟨S', r1, ys, rfl, r2, r3⟩ := key
  exact ⟨_, r1, q ys (by simpa using r2) r3⟩
/-- list(range(n)) -/
theorem mem_rng {lo : Int} {n : Nat} {d : D} (h : d ∈ rngD lo n) : ∃ i : Nat, d = .int (lo + i) ∧ i < n := by
  unfold rngD at h
  obtain ⟨i, hi, rfl⟩ := List.mem_map.mp h
  exact ⟨i, rfl, List.mem_range.mp hi⟩
theorem rng_len (lo : Int) (n : Nat) : (rngD lo n).length = n := by simp [rngD]
end Lay

set_option Elab.async false
set_option linter.all false
set_option maxRecDepth 100000
set_option maxHeartbeats 4000000
/-! L18: the script's cells. -/
namespace Lay
open PySem PySem.Spec PyProof.Rows L2
open Classical
noncomputable def cellF (c0 : Int) : List D → M D := fnD 2 2 (sRet (eIf (asB (eBin pLt (eVar 1) (eCallB pLen (aCons (eVar 0) aNil)))) (eBin pIx (eVar 0) (eVar 1)) (eBin pAdd (eBin pMul (eC (.int c0)) (eVar 1)) (eBin pMod (eCallB pInt (aCons (eCallB pSum (aCons (eSl (eVar 0) oNone (oSome (eC (.int 1)))) aNil)) aNil)) (eC (.int 1000003))))))
theorem intsOf_map : ∀ ns : List Int, intsOf (ns.map D.int) = some ns
  | [] => rfl
  | n :: ns => by simp only [List.map_cons, intsOf, intsOf_map ns, Option.map_some]
theorem wp_sum {S : Store} {n : Nat} {ns : List Int} {Q : D → Store → Prop} (h : rdL S n = some (ns.map D.int)) : wpP (pSum [.ref n] S) Q = Q (.int ns.sum) S := by
  unfold pSum
  simp only [h, Option.bind_some, intsOf_map, Option.map_some]
  rfl
theorem cut1 (ns : List Int) : cutD (ns.map D.int) none (some 1) = ((ns.take 1).map D.int) := by
  unfold cutD HT.sIx
  cases ns with
  | nil => simp
  | cons n ns => simp
theorem cell_ok {c0 : Int} {S : Store} {ns : List Int} {k : Nat} (h : S[0]? = some (.ro (ns.map D.int))) (hk : k ≤ 1000) (hc : c0.natAbs < 2 ^ 40) : ∃ (x : Int) (S' : Store), cellF c0 [.ref 0, .int k] S = .ok (.int x) S' ∧ Fr S S' := by
  suffices q : wpR (cellF c0 [.ref 0, .int k] S) (fun d S' => ∃ x : Int, d = .int x ∧ Fr S S') fun _ _ => False by
    obtain ⟨d, S', e, x, rfl, h⟩ := wpR_ex q
    exact ⟨x, S', e, h⟩
  have r := rdL_ro h
  have m : mulFits c0 (k : Int) = true := mulFits_of (n := 40) (m := 10) hc (by unfold Bd; omega)
  refine wp_fn rfl ?_
  by_cases hl : k < ns.length
  · simp [startD, h, hl, r, atI_nat (ds := ns.map D.int) (i := k) (by simpa using hl)]
    exact Fr.refl
  · simp [startD, h, hl, r, m, pSl, cut1]
    rw [wp_sum (ns := ns.take 1) (rdL_lst (by rw [List.map_take]; exact last_at _ _))]
    simp
    exact Fr.app _
theorem gtup_k {i j n : Nat} {x y : D} {sd : SD} {S : Store} {Q : SD → Store → Prop} (h : S[n]? = some (.lst [x, y])) (k : Q ((sd.set i (some x)).set j (some y)) S) : wpP (gTupD 2 (gsCons (gNm i) (gsCons (gNm j) gsNil)) (.ref n) sd S) Q := by
  rw [wp_gtup2r (rdL_lst h)]; exact k
theorem FrB.fr {b : Nat} {S0 S S' : Store} (h : FrB b S S') (f : Fr S0 S) (hb : S0.length ≤ b) : Fr S0 S' := fun n hn => (h.2 n (Nat.lt_of_lt_of_le hn f.le) (by omega)).trans (f n hn)
end Lay

set_option Elab.async false
set_option linter.all false
set_option maxRecDepth 100000
set_option maxHeartbeats 4000000
/-! L19: the short 'same' of some laws; blame. -/
namespace Lay
open PySem PySem.Spec PyProof.Rows L2
open Classical
noncomputable def sameSB (T : List Cls) (g : List D → M D) : List D → M D := fnD 3 2 (sSeq (sIf (bOr (asB (eBin pIs (eVar 1) (eC .non))) (eTru (eIsi T [.ty "bool"] (eVar 1)))) (sRet (eIf (asB (eBin pIs (eVar 1) (eC .non))) (eBin pIs (eVar 0) (eC .non)) (eAnd (eIsi T [.ty "bool"] (eVar 0)) (eBin pEq (eBin pIs (eVar 0) (eC (.bl true))) (eBin pIs (eVar 1) (eC (.bl true))))))) sNext)
  (sSeq (sIf (eTru (eIsi T [.ty "int"] (eVar 1))) (sRet (eAnd (eIsi T [.ty "int"] (eVar 0)) (eAnd (eNot (eIsi T [.ty "bool"] (eVar 0))) (eBin pEq (eVar 0) (eVar 1))))) sNext)
  (sSeq (sIf (eTru (eIsi T [.ty "str"] (eVar 1))) (sRet (eAnd (eIsi T [.ty "str"] (eVar 0)) (eBin pEq (eVar 0) (eVar 1)))) sNext)
  (sSeq (sIf (bOr (bNot (eTru (eIsi T [.ty "list", .ty "tuple"] (eVar 0)))) (bOr (asB (eBin pNe (eIsi T [.ty "list"] (eVar 0)) (eIsi T [.ty "list"] (eVar 1)))) (asB (eBin pNe (eCallB pLen (aCons (eVar 0) aNil)) (eCallB pLen (aCons (eVar 1) aNil)))))) (sRet (eC (.bl false))) sNext)
  (sRet (eBin pEq (eLc (itRange (aCons (eCallB pLen (aCons (eVar 1) aNil)) aNil)) (gNm 2) (bNot (eTru (eCall g (aCons (eBin pIx (eVar 0) (eVar 2)) (aCons (eBin pIx (eVar 1) (eVar 2)) aNil))))) (eVar 2) [2]) (eLst aNil)))))))
noncomputable def sameSF (T : List Cls) : Nat → List D → M D
  | 0 => fun _ _ => .bad
  | n + 1 => sameSB T (sameSF T n)
/-- alike, without dicts and exceptions -/
inductive SimS : Store → Nat → D → D → Prop
  | non {S k} : SimS S k .non .non
  | bl {S k} (b : Bool) : SimS S k (.bl b) (.bl b)
  | int {S k} (i : Int) : SimS S k (.int i) (.int i)
  | str {S k} (x : Str) (h : okS x = true) : SimS S k (.str x) (.str x)
  | tup {S k ds es} (hl : ds.length = es.length) (hf : es.length ≤ 1000000) (h : ∀ (i : Nat) (a b : D), ds[i]? = some a → es[i]? = some b → SimS S k a b) : SimS S (k + 1) (.tup ds) (.tup es)
  | lst {S k n m ds es} (h1 : S[n]? = some (.lst ds)) (h2 : S[m]? = some (.lst es)) (hl : ds.length = es.length) (hf : es.length ≤ 1000000) (h : ∀ (i : Nat) (a b : D), ds[i]? = some a → es[i]? = some b → SimS S k a b) : SimS S (k + 1) (.ref n) (.ref m)
theorem SimS.fr {S S' : Store} {k : Nat} {x y : D} (h : SimS S k x y) : Fr S S' → SimS S' k x y := by
  induction h generalizing S' with
  | non => intro _; exact .non
  | bl b => intro _; exact .bl b
  | int i => intro _; exact .int i
  | str x h => intro _; exact .str x h
  | tup hl hf h ih => intro f; exact .tup hl hf fun i a b e1 e2 => ih i a b e1 e2 f
  | lst h1 h2 hl hf h ih => intro f; exact .lst (f.at h1) (f.at h2) hl hf fun i a b e1 e2 => ih i a b e1 e2 f
theorem SimS.mono {S : Store} {k : Nat} {x y : D} (h : SimS S k x y) : ∀ {j : Nat}, k ≤ j → SimS S j x y := by
  induction h with
  | non => intro j _; exact .non
  | bl b => intro j _; exact .bl b
  | int i => intro j _; exact .int i
  | str x h => intro j _; exact .str x h
  | tup hl hf h ih => intro j hj; obtain ⟨m, rfl⟩ : ∃ m, j = m + 1 := ⟨j - 1, by omega⟩; exact .tup hl hf fun i a b e1 e2 => ih i a b e1 e2 (by omega)
  | lst h1 h2 hl hf h ih => intro j hj; obtain ⟨m, rfl⟩ : ∃ m, j = m + 1 := ⟨j - 1, by omega⟩; exact .lst h1 h2 hl hf fun i a b e1 e2 => ih i a b e1 e2 (by omega)
section
variable {T : List Cls} {g : List D → M D} {S : Store} {Q : D → Store → Prop}
theorem sameS_non : sameSB T g [.non, .non] S = .ok (.bl true) S := by
  obtain ⟨a, S', e, h1, h2⟩ := wpR_ex (r := sameSB T g [.non, .non] S) (Q := fun d S' => d = .bl true ∧ S' = S) (by
    refine wp_fn rfl ?_
    simp [startD, isNon])
  rw [e, h1, h2]
theorem sameS_bl (b : Bool) : sameSB T g [.bl b, .bl b] S = .ok (.bl true) S := by
  obtain ⟨a, S', e, h1, h2⟩ := wpR_ex (r := sameSB T g [.bl b, .bl b] S) (Q := fun d S' => d = .bl true ∧ S' = S) (by
    refine wp_fn rfl ?_
    cases b <;> simp [startD, isNon, subD])
  rw [e, h1, h2]
theorem sameS_int (i : Int) : sameSB T g [.int i, .int i] S = .ok (.bl true) S := by
  obtain ⟨a, S', e, h1, h2⟩ := wpR_ex (r := sameSB T g [.int i, .int i] S) (Q := fun d S' => d = .bl true ∧ S' = S) (by
    refine wp_fn rfl ?_
    simp [startD, isNon, subD])
  rw [e, h1, h2]
theorem sameS_str (x : Str) (h : okS x = true) : sameSB T g [.str x, .str x] S = .ok (.bl true) S := by
  obtain ⟨a, S', e, h1, h2⟩ := wpR_ex (r := sameSB T g [.str x, .str x] S) (Q := fun d S' => d = .bl true ∧ S' = S) (by
    refine wp_fn rfl ?_
    simp [startD, isNon, subD, wp_eqs h h])
  rw [e, h1, h2]
/-- the loop over two sequences alike gathers nothing -/
theorem sameS_loop {x y : D} {ds es : List D} {sd : SD} (hl : ds.length = es.length) (hf : es.length ≤ 1000000) (hx : ∀ (S' : Store) (i : Nat) (a : D), Fr S S' → ds[i]? = some a → ∀ Q, Q a S' → wpP (pIx x (.int i) S') Q)
    (hy : ∀ (S' : Store) (i : Nat) (a : D), Fr S S' → es[i]? = some a → ∀ Q, Q a S' → wpP (pIx y (.int i) S') Q)
    (hg : ∀ (i : Nat) a b S', ds[i]? = some a → es[i]? = some b → Fr S S' → ∃ S'', g [a, b] S' = .ok (.bl true) S'' ∧ Fr S' S'') (hs : sd = [some x, some y, none]) :
    ∃ S', lcD S.length (gNm 2) (bNot (eTru (eCall g (aCons (eBin pIx (eVar 0) (eVar 2)) (aCons (eBin pIx (eVar 1) (eVar 2)) aNil))))) (eVar 2) [2] (fun _ => True) sd (rngD 0 es.length) (S ++ [.lst []]) = some S' ∧ Fr S S' ∧ S'[S.length]? = some (.lst []) := by
  subst hs
  have hlen : (rngD 0 es.length).length = es.length := by simp [rngD]
  obtain ⟨S', e, f⟩ := wp_lc (n := S.length) (g := gNm 2) (tt := bNot (eTru (eCall g (aCons (eBin pIx (eVar 0) (eVar 2)) (aCons (eBin pIx (eVar 1) (eVar 2)) aNil))))) (te := eVar 2) (vs := [2]) (chk := fun _ => True) (sd := [some x, some y, none])
    (fun _ S' => Fr (S ++ [.lst []]) S') (rngD 0 es.length) 0 (S ++ [.lst []]) Fr.refl (fun j d S1 e hi => by
      refine ⟨trivial, _, rfl, ?_⟩
      have hj : j < es.length := by rw [← hlen]; exact (List.getElem?_eq_some_iff.mp e).1
      have ed : d = .int (j : Int) := by
        simp [rngD, List.getElem?_map, hj] at e
        rw [← e]
      subst ed
      have f1 : Fr S S1 := (Fr.app [.lst []]).trans hi
      obtain ⟨S2, e2, f2⟩ := hg j ds[j] es[j] S1 (by simp [hl, hj]) (by simp [hj]) f1
      simp [wipeD]
      refine hx S1 j ds[j] f1 (by simp [hl, hj]) _ ?_
      refine hy S1 j es[j] f1 (by simp [hj]) _ ?_
      rw [e2]
      simp
      exact hi.trans f2) (fun _ _ => trivial)
  exact ⟨S', e, (Fr.app _).trans f, f.at (last_at S _)⟩
end
theorem sameS_seq {T : List Cls} {g : List D → M D} {S : Store} {x y : D} {ds es : List D} {kx : String} (hkx : kd x S = some (.ty kx)) (hky : kd y S = some (.ty kx)) (hk : kx = "list" ∨ kx = "tuple") (hlx : lenD x S = some ds.length) (hly : lenD y S = some es.length)
    (hnx : isNon y = false) (hl : ds.length = es.length) (hf : es.length ≤ 1000000) (hx : ∀ (S' : Store) (i : Nat) (a : D), Fr S S' → ds[i]? = some a → ∀ Q : D → Store → Prop, Q a S' → wpP (pIx x (.int i) S') Q)
    (hy : ∀ (S' : Store) (i : Nat) (a : D), Fr S S' → es[i]? = some a → ∀ Q : D → Store → Prop, Q a S' → wpP (pIx y (.int i) S') Q)
    (hg : ∀ (i : Nat) a b S', ds[i]? = some a → es[i]? = some b → Fr S S' → ∃ S'', g [a, b] S' = .ok (.bl true) S'' ∧ Fr S' S'') : ∃ S', sameSB T g [x, y] S = .ok (.bl true) S' ∧ Fr S S' := by
  refine res_of (wp_fn rfl ?_)
  have hin : inR (es.length : Int) = true := inR_of (by omega) (by omega)
  have go : wpR (eLc (itRange (aCons (eCallB pLen (aCons (eVar 1) aNil)) aNil)) (gNm 2) (bNot (eTru (eCall g (aCons (eBin pIx (eVar 0) (eVar 2)) (aCons (eBin pIx (eVar 1) (eVar 2)) aNil))))) (eVar 2) [2] [some x, some y, none] S)
      (fun x S1 => fits 0 = true ∧ wpP (pEq x (.ref S1.length) (S1 ++ [.lst []])) fun d S' => d = .bl true ∧ Fr S S') fun _ _ => False := by
    refine wp_eLc ?_
    obtain ⟨S', e, f, fl⟩ := sameS_loop (g := g) (S := S) (x := x) (y := y) (sd := [some x, some y, none]) hl hf hx hy hg rfl
    simp [hin, -lenL, hly]
    refine ⟨S', e, by decide, ?_⟩
    rw [wp_eqR (rdL_lst ((Fr.app _).at fl)) (rdL_lst (last_at _ _))]
    exact ⟨rfl, f.trans (Fr.app _)⟩
  rcases hk with rfl | rfl
  · simp [startD, hnx, subD, hkx, hky, -lenL, hlx, hly, hl]
    exact go
  · simp [startD, hnx, subD, hkx, hky, -lenL, hlx, hly, hl]
    exact go
theorem sameS_ok {T : List Cls} : ∀ (k : Nat) {S : Store} {x y : D}, SimS S k x y → ∃ S', sameSF T (k + 1) [x, y] S = .ok (.bl true) S' ∧ Fr S S' := by
  intro k
  induction k with
  | zero =>
    intro S x y h
    cases h with
    | non => exact ⟨_, sameS_non, Fr.refl⟩
    | bl b => exact ⟨_, sameS_bl b, Fr.refl⟩
    | int i => exact ⟨_, sameS_int i, Fr.refl⟩
    | str x h => exact ⟨_, sameS_str x h, Fr.refl⟩
  | succ k ih =>
    intro S x y h
    cases h with
    | non => exact ⟨_, sameS_non, Fr.refl⟩
    | bl b => exact ⟨_, sameS_bl b, Fr.refl⟩
    | int i => exact ⟨_, sameS_int i, Fr.refl⟩
    | str x h => exact ⟨_, sameS_str x h, Fr.refl⟩
    | @tup _ ds es hl hf h =>
      exact sameS_seq (kx := "tuple") rfl rfl (.inr rfl) rfl rfl rfl hl hf (fun S' i a f e Q q => by rw [wp_ixT]; exact ⟨a, atI_of e, q⟩) (fun S' i a f e Q q => by rw [wp_ixT]; exact ⟨a, atI_of e, q⟩)
        fun i a b S' e1 e2 f => ih ((h i a b e1 e2).fr f)
    | @lst _ n m ds es h1 h2 hl hf h =>
      exact sameS_seq (kx := "list") (ds := ds) (es := es) (kd_lst h1) (kd_lst h2) (.inl rfl) (by rw [lenL, h1]) (by rw [lenL, h2]) rfl hl hf (fun S' i a f e Q q => by rw [wp_ixR]; exact ⟨ds, rdL_lst (f.at h1), a, atI_of e, q⟩)
        (fun S' i a f e Q q => by rw [wp_ixR]; exact ⟨es, rdL_lst (f.at h2), a, atI_of e, q⟩) fun i a b S' e1 e2 f => ih ((h i a b e1 e2).fr f)
theorem sameS12 {T : List Cls} {S : Store} {k : Nat} {x y : D} (h : SimS S k x y) (hk : k ≤ 11) : ∃ S', sameSF T 12 [x, y] S = .ok (.bl true) S' ∧ Fr S S' := sameS_ok 11 (SimS.mono h hk)
end Lay

set_option Elab.async false
set_option linter.all false
set_option maxRecDepth 100000
set_option maxHeartbeats 4000000
/-! L20w: the readings of L20's rules. -/
namespace Lay
open PySem PySem.Spec PyProof.Rows L2
theorem wp_divN {i j : Int} {S : Store} {Q : D → Store → Prop} : wpP (pDivN (.int i) (.int j) S) Q = (divFitsN i j = true ∧ Q (.int (i.fdiv j)) S) := by
  unfold pDivN onInts; simp
theorem wp_any {S : Store} {n : Nat} {bs : List Bool} {Q : D → Store → Prop} (h : rdL S n = some (bs.map D.bl)) : wpP (pAny [.ref n] S) Q = Q (.bl (bs.any id)) S := by
  unfold pAny
  simp only [h, Option.bind_some, blsOf_map, Option.map_some]
  rfl
theorem wp_all {S : Store} {n : Nat} {bs : List Bool} {Q : D → Store → Prop} (h : rdL S n = some (bs.map D.bl)) : wpP (pAll [.ref n] S) Q = Q (.bl (bs.all id)) S := by
  unfold pAll
  simp only [h, Option.bind_some, blsOf_map, Option.map_some]
  rfl
theorem wp_insert {S : Store} {n : Nat} {ds : List D} {i : Nat} {y : D} {Q : D → Store → Prop} (h : S[n]? = some (.lst ds)) (hi : i ≤ 1000000) (hf : ds.length + 1 ≤ 16777216) : wpP (pInsert (.ref n) [.int i, y] S) Q = Q .non (S.set n (.lst (ds.take i ++ [y] ++ ds.drop i))) := by
  unfold pInsert
  dsimp only
  rw [h]
  dsimp only
  rw [if_pos (by rw [Bool.and_eq_true]; exact ⟨decide_eq_true ⟨by omega, by omega⟩, fits_of hf⟩)]
  rfl
end Lay

set_option Elab.async false
set_option linter.all false
set_option maxRecDepth 100000
set_option maxHeartbeats 4000000
/-! L23: comprehensions as maps of what passes. -/
namespace Lay
open PySem PySem.Spec PyProof.Rows L2
open Classical
/-- [te for v in it if tt], where tt tells p, te tells f, and all grows -/
theorem lc_map {it : EI} {v : Nat} {tt : EB} {te : EE} {sd : SD} {S : Store} {Q : D → Store → Prop} {E : Ex → Store → Prop} (vals : List D) (p : D → Bool) (f : D → D) (hl : vals.length ≤ 10000000)
    (hit : ∀ QI : ITd → Store → Prop, (∀ (S1 : Store) (chk : Store → Prop), Fr S S1 → (∀ S', Fr S1 S' → chk S') → QI ⟨vals, chk⟩ S1) → wpR (it sd S) QI E)
    (step : ∀ d ∈ vals, ∀ S1, Fr S S1 → wpR (tt ((wipeD sd [v]).set v (some d)) S1) (fun b S2 => b = p d ∧ Fr S1 S2 ∧ (p d = true → wpR (te ((wipeD sd [v]).set v (some d)) S2) (fun y S3 => y = f d ∧ Fr S2 S3) fun _ _ => False)) fun _ _ => False)
    (q : ∀ (n : Nat) S', S.length ≤ n → Fr S S' → S'[n]? = some (.lst ((vals.filter p).map f)) → Q (.ref n) S') : wpR (eLc it (gNm v) tt te [v] sd S) Q E := by
  refine wp_eLc (hit _ fun S1 chk f1 hck => ?_)
  have key : ∃ S', lcD S1.length (gNm v) tt te [v] chk sd vals (S1 ++ [.lst []]) = some S' ∧ (Fr S1 S' ∧ S'[S1.length]? = some (.lst (((vals.take (0 + vals.length)).filter p).map f))) := by
    refine wp_lc (fun i S' => Fr S1 S' ∧ S'[S1.length]? = some (.lst (((vals.take i).filter p).map f))) vals 0 _ ⟨Fr.app _, by simp⟩ ?_ (fun S' h => hck _ h.1)
    rintro j d S2 hj ⟨f2, e2⟩
    rw [Nat.zero_add] at e2 ⊢
    refine ⟨hck _ f2, _, rfl, ?_⟩
    have hd := List.mem_of_getElem? hj
    have jl := (List.getElem?_eq_some_iff.mp hj).1
    have tk : vals.take (j + 1) = vals.take j ++ [d] := by
      rw [List.take_add_one, hj]
      rfl
    have n2 : S1.length < S2.length := (List.getElem?_eq_some_iff.mp e2).1
    refine wpR_mono (step d hd S2 (f1.trans f2)) (fun b S3 ⟨eb, f3, h3⟩ => ?_) fun _ _ z => z
    subst eb
    cases hp : p d with
    | false =>
      simp only [Bool.false_eq_true, if_false]
      refine ⟨f2.trans f3, ?_⟩
      rw [f3 _ n2, e2, tk, List.filter_append, List.map_append]
      simp [hp]
    | true =>
      simp only [if_true]
      refine wpR_mono (h3 hp) (fun y S4 ⟨ey, f4⟩ => ?_) fun _ _ z => z
      subst ey
      have e4 : S4[S1.length]? = some (.lst (((vals.take j).filter p).map f)) := by
        rw [f4 _ (Nat.lt_of_lt_of_le n2 f3.le), f3 _ n2, e2]
      have n4 := (List.getElem?_eq_some_iff.mp e4).1
      refine ⟨_, e4, fits_of ?_, ?_, ?_⟩
      · rw [List.length_map]
        have := List.length_filter_le p (vals.take j)
        rw [List.length_take] at this
        omega
      · have ft := f2.trans (f3.trans f4)
        intro i hi
        rw [List.getElem?_set_ne (by omega)]
        exact ft i hi
      · rw [List.getElem?_set_self n4, tk, List.filter_append, List.map_append]
        simp [hp]
  obtain ⟨S', e, f2, e2⟩ := key
  rw [Nat.zero_add, List.take_length] at e2
  exact ⟨S', e, q _ S' f1.le (f1.trans f2) e2⟩
/-- the names walked: a tuple that is no dict -/
theorem lock_tup {i : Nat} {m : EE} {sd : SD} {S : Store} {ds : List D} {Q : D → Store → Prop} {E : Ex → Store → Prop} (h : sd[i]? = some (some (.tup ds))) (q : wpR (m sd S) Q E) : wpR (lockE i m sd S) Q E := by
  unfold lockE
  rw [h]
  exact q
theorem it_tup {i : Nat} {sd : SD} {S : Store} {ds : List D} {QI : ITd → Store → Prop} {E : Ex → Store → Prop} (h : sd[i]? = some (some (.tup ds))) (q : QI ⟨ds, fun _ => True⟩ S) : wpR (itSeqK (eVar i) sd S) QI E := by
  unfold itSeqK
  rw [wpR_bind, wpR_var]
  exact ⟨_, h, q⟩
/-- the comprehension over a tuple by its name -/
theorem lc_tup {i v : Nat} {tt : EB} {te : EE} {sd : SD} {S : Store} {Q : D → Store → Prop} {E : Ex → Store → Prop} {vals : List D} (p : D → Bool) (f : D → D) (h : sd[i]? = some (some (.tup vals))) (hl : vals.length ≤ 10000000)
    (step : ∀ d ∈ vals, ∀ S1, Fr S S1 → wpR (tt ((wipeD sd [v]).set v (some d)) S1) (fun b S2 => b = p d ∧ Fr S1 S2 ∧ (p d = true → wpR (te ((wipeD sd [v]).set v (some d)) S2) (fun y S3 => y = f d ∧ Fr S2 S3) fun _ _ => False)) fun _ _ => False)
    (q : ∀ (n : Nat) S', S.length ≤ n → Fr S S' → S'[n]? = some (.lst ((vals.filter p).map f)) → Q (.ref n) S') : wpR (lockE i (eLc (itSeqK (eVar i)) (gNm v) tt te [v]) sd S) Q E :=
  lock_tup h (lc_map vals p f hl (fun QI k => it_tup h (k S _ Fr.refl fun _ _ => trivial)) step q)
end Lay

set_option Elab.async false
set_option linter.all false
set_option maxRecDepth 100000
set_option maxHeartbeats 4000000
/-! L24: what is drawn: digits, items of displays, comprehensions that draw. -/
namespace Lay
open PySem PySem.Spec PyProof.Rows L2
open Classical
section
variable {tk : List D → M D} {S : Store} {b c : Nat} {Q : D → Store → Prop} {E : Ex → Store → Prop} {sd : SD}
theorem takes_k (htk : TkOk tk) {many : Int} (h : IsBox S b c) (k : ∀ (i : Nat) S', (i : Int) < many → IsBox S' b (c + 1) → FrB b S S' → Q (.int i) S') (h0 : 0 < many := by decide) (h1 : many ≤ 100000000 := by decide) (hc : c ≤ 1000000 := by omega) : wpR (tk [.ref b, .int many] S) Q E := by
  obtain ⟨i, S', e, hi, hb, hf⟩ := htk many h h0 h1 hc
  rw [e]
  exact k i S' hi hb hf
theorem tkE (htk : TkOk tk) {i : Nat} {n : Int} (hv : sd[i]? = some (some (.ref b))) (h : IsBox S b c) (k : ∀ (j : Nat) S', (j : Int) < n → IsBox S' b (c + 1) → FrB b S S' → Q (.int j) S') (h0 : 0 < n := by decide) (h1 : n ≤ 100000000 := by decide) (hc : c ≤ 1000000 := by omega) :
    wpR (eCall tk (aCons (eVar i) (aCons (eC (.int n)) aNil)) sd S) Q E := by
  rw [v_call, v_cons, wpR_var]
  refine ⟨_, hv, ?_⟩
  rw [v_cons, wpR_c, v_nil]
  exact takes_k htk h k h0 h1 hc
theorem tkLen (htk : TkOk tk) {i l n : Nat} {d : D} (hv : sd[i]? = some (some (.ref b))) (hl : sd[l]? = some (some d)) (hd : lenD d S = some n) (h : IsBox S b c) (k : ∀ (j : Nat) S', j < n → IsBox S' b (c + 1) → FrB b S S' → Q (.int j) S') (h0 : 0 < n := by omega) (h1 : n ≤ 100000000 := by omega) (hc : c ≤ 1000000 := by omega) :
    wpR (eCall tk (aCons (eVar i) (aCons (eCallB pLen (aCons (eVar l) aNil)) aNil)) sd S) Q E := by
  rw [v_call, v_cons, wpR_var]
  refine ⟨_, hv, ?_⟩
  rw [v_cons, v_callB, v_cons, wpR_var]
  refine ⟨_, hl, ?_⟩
  rw [v_nil, wp_len]
  refine ⟨_, hd, ?_⟩
  rw [v_nil]
  exact takes_k htk h (fun j S' hj => k j S' (by omega)) (by omega) (by omega) hc
theorem tkLen1 (htk : TkOk tk) {i l n : Nat} {d : D} (hv : sd[i]? = some (some (.ref b))) (hl : sd[l]? = some (some d)) (hd : lenD d S = some n) (h : IsBox S b c) (k : ∀ (j : Nat) S', j ≤ n → IsBox S' b (c + 1) → FrB b S S' → Q (.int j) S') (h1 : n ≤ 10000000 := by omega) (hc : c ≤ 1000000 := by omega) :
    wpR (eCall tk (aCons (eVar i) (aCons (eBin pAdd (eCallB pLen (aCons (eVar l) aNil)) (eC (.int 1))) aNil)) sd S) Q E := by
  rw [v_call, v_cons, wpR_var]
  refine ⟨_, hv, ?_⟩
  rw [v_cons, v_bin, v_callB, v_cons, wpR_var]
  refine ⟨_, hl, ?_⟩
  rw [v_nil, wp_len]
  refine ⟨_, hd, ?_⟩
  rw [wpR_c, wp_add, v_nil]
  exact takes_k htk h (fun j S' hj => k j S' (by omega)) (by omega) (by omega) hc
/-- [..][take(box, n)] -/
theorem pick_k (htk : TkOk tk) {i : Nat} {n : Nat} {aa : EA} (P : Store → D → Prop) (pm : ∀ {S1 S2 : Store} {d : D}, FrB b S1 S2 → P S1 d → P S2 d) (hv : sd[i]? = some (some (.ref b))) (h : IsBox S b c)
    (hA : wpR (aa sd S) (fun xs S1 => Fr S S1 ∧ xs.length = n ∧ ∀ x ∈ xs, P S1 x) E) (k : ∀ (x : D) S', P S' x → IsBox S' b (c + 1) → FrB b S S' → Q x S') (h0 : 0 < n := by decide) (h1 : n ≤ 1000 := by decide) (hc : c ≤ 1000000 := by omega) :
    wpR (eBin pIx (eLst aa) (eCall tk (aCons (eVar i) (aCons (eC (.int (n : Nat))) aNil))) sd S) Q E := by
  rw [v_bin, v_lst]
  refine wpR_mono hA (fun xs S1 ⟨f1, hl, hp⟩ => ?_) fun _ _ z => z
  refine ⟨fits_of (by omega), ?_⟩
  rw [v_call, v_cons, wpR_var]
  refine ⟨_, hv, ?_⟩
  rw [v_cons, wpR_c, v_nil]
  have f2 : Fr S1 (S1 ++ [SO.lst xs]) := Fr.app _
  refine takes_k htk ((h.fr f1).fr f2) (fun j S2 hj b2 f3 => ?_) (by omega) (by omega) hc
  have e : S2[S1.length]? = some (.lst xs) := f3.at (last_at _ _) (by have := (h.fr f1).lt; omega)
  rw [wp_ixR]
  have hj' : j < xs.length := by omega
  refine ⟨xs, rdL_lst e, xs[j], by rw [atI_nat hj']; exact List.getElem?_eq_getElem hj', ?_⟩
  exact k _ S2 (pm ((f2.b b).trans f3) (hp _ (List.getElem_mem hj'))) b2 ((f1.trans f2).b b |>.trans f3)
/-- .. of constants -/
theorem pick_c (htk : TkOk tk) {i : Nat} {n : Nat} {aa : EA} (xs : List D) (haa : ∀ S1, aa sd S1 = .ok xs S1) (hv : sd[i]? = some (some (.ref b))) (h : IsBox S b c) (hn : xs.length = n)
    (k : ∀ (x : D) S', x ∈ xs → IsBox S' b (c + 1) → FrB b S S' → Q x S') (h0 : 0 < n := by decide) (h1 : n ≤ 1000 := by decide) (hc : c ≤ 1000000 := by omega) :
    wpR (eBin pIx (eLst aa) (eCall tk (aCons (eVar i) (aCons (eC (.int (n : Nat))) aNil))) sd S) Q E :=
  pick_k htk (fun _ x => x ∈ xs) (fun _ z => z) hv h (by rw [haa]; exact ⟨Fr.refl, hn, fun x hx => hx⟩) k h0 h1 hc
theorem pick_e (htk : TkOk tk) {i : Nat} {n : Nat} {aa : EA} (is : List Int) (hA : wpR (aa sd S) (fun xs S1 => S1 = S ∧ xs = is.map D.int) E) (hv : sd[i]? = some (some (.ref b))) (h : IsBox S b c) (hn : is.length = n)
    (k : ∀ (j : Int) S', j ∈ is → IsBox S' b (c + 1) → FrB b S S' → Q (.int j) S') (h0 : 0 < n := by decide) (h1 : n ≤ 1000 := by decide) (hc : c ≤ 1000000 := by omega) :
    wpR (eBin pIx (eLst aa) (eCall tk (aCons (eVar i) (aCons (eC (.int (n : Nat))) aNil))) sd S) Q E :=
  pick_k htk (fun _ x => ∃ j ∈ is, x = .int j) (fun _ z => z) hv h (wpR_mono hA (fun xs S1 ⟨e1, e2⟩ => by subst e1 e2; exact ⟨Fr.refl, by simpa using hn, fun x hx => by obtain ⟨j, hj, rfl⟩ := List.mem_map.mp hx; exact ⟨j, hj, rfl⟩⟩) fun _ _ z => z)
    (fun x S' ⟨j, hj, e⟩ b' f' => by subst e; exact k j S' hj b' f') h0 h1 hc
theorem pick_gd (htk : TkOk tk) {i : Nat} {n k : Nat} {aa : EA} (hv : sd[i]? = some (some (.ref b))) (h : IsBox S b c) (hA : GA b k n aa sd S)
    (kk : ∀ (x : D) S', gd b S' k x → IsBox S' b (c + 1) → FrB b S S' → Q x S') (h0 : 0 < n := by decide) (h1 : n ≤ 1000 := by decide) (hc : c ≤ 1000000 := by omega) :
    wpR (eBin pIx (eLst aa) (eCall tk (aCons (eVar i) (aCons (eC (.int (n : Nat))) aNil))) sd S) Q E :=
  pick_k htk (fun S x => gd b S k x) (fun f z => z.frb f) hv h (wpR_mono (hA S Fr.refl) (fun xs S1 z => z) fun _ _ z => z.elim) kk h0 h1 hc
end
/-- a comprehension that draws: its end -/
theorem lc_finL {S1 : Store} {b c m v : Nat} {te : EE} {chk : Store → Prop} {sd : SD} {vals : List D} {Q : Store → Prop} (P : Nat → Store → D → Prop)
    (pm : ∀ {j : Nat} {S2 S3 : Store} {d : D}, FrB b S2 S3 → P j S2 d → P j S3 d) (pm2 : ∀ {j : Nat} {S2 : Store} {o : SO} {d : D}, P j S2 d → P j (S2.set S1.length o) d)
    (hb : IsBox S1 b c) (hck : ∀ S', FrB b S1 S' → chk S') (hl : vals.length ≤ 100000)
    (step : ∀ (j : Nat) (d : D), vals[j]? = some d → ∀ S2, FrB b S1 S2 → S1.length < S2.length → IsBox S2 b (c + m * j) → wpR (te ((wipeD sd [v]).set v (some d)) S2) (fun y S4 => P j S4 y ∧ IsBox S4 b (c + m * (j + 1)) ∧ FrB b S2 S4) fun _ _ => False)
    (q : ∀ S' ys, FrB b S1 S' → IsBox S' b (c + m * vals.length) → S'[S1.length]? = some (.lst ys) → ys.length = vals.length → (∀ j y, ys[j]? = some y → P j S' y) → Q S') :
    ∃ S', lcD S1.length (gNm v) bTrue te [v] chk sd vals (S1 ++ [.lst []]) = some S' ∧ Q S' := by
  have hbl := hb.lt
  have key : ∃ S', lcD S1.length (gNm v) bTrue te [v] chk sd vals (S1 ++ [.lst []]) = some S' ∧ (FrB b S1 S' ∧ IsBox S' b (c + m * (0 + vals.length)) ∧ ∃ ys, S'[S1.length]? = some (.lst ys) ∧ ys.length = 0 + vals.length ∧ ∀ j y, ys[j]? = some y → P j S' y) := by
    refine wp_lc (fun i S' => FrB b S1 S' ∧ IsBox S' b (c + m * i) ∧ ∃ ys, S'[S1.length]? = some (.lst ys) ∧ ys.length = i ∧ ∀ j y, ys[j]? = some y → P j S' y) vals 0 _ ⟨(Fr.app _).b b, by simpa using hb.app _, [], by simp, rfl, fun j y e => by simp at e⟩ ?_ (fun S' h => hck _ h.1)
    rintro j d S2 hj ⟨f2, b2, ys, e2, l2, p2⟩
    rw [Nat.zero_add] at *
    refine ⟨hck _ f2, _, rfl, ?_⟩
    show wpR (bTrue _ _) _ _
    unfold bTrue
    rw [wpR_ok, if_pos rfl]
    refine wpR_mono (step j d hj S2 f2 (List.getElem?_eq_some_iff.mp e2).1 b2) (fun y S4 ⟨py, b4, f4⟩ => ?_) fun _ _ z => z
    have jl := (List.getElem?_eq_some_iff.mp hj).1
    have e4 : S4[S1.length]? = some (.lst ys) := f4.at e2 (by omega)
    have n4 := (List.getElem?_eq_some_iff.mp e4).1
    refine ⟨ys, e4, fits_of (by omega), (f2.trans f4).setB _ (Nat.le_refl _), ?_, ys ++ [y], by rw [List.getElem?_set_self n4], by simp [l2], ?_⟩
    · obtain ⟨g, f, mm, n, e, r⟩ := b4
      exact ⟨g, f, mm, n, by rw [List.getElem?_set_ne (by omega)]; exact e, r⟩
    · intro i z ez
      refine pm2 ?_
      by_cases hi : i < ys.length
      · rw [List.getElem?_append_left hi] at ez
        exact pm f4 (p2 i z ez)
      · have : i = ys.length := by
          have := (List.getElem?_eq_some_iff.mp ez).1
          simp at this
          omega
        subst this
        simp at ez
        subst ez
        rw [l2]
        exact py
  obtain ⟨S', e, f2, b2, ys, e2, l2, p2⟩ := key
  rw [Nat.zero_add] at *
  exact ⟨S', e, q S' ys f2 b2 e2 l2 p2⟩
theorem lc_fin {S1 : Store} {b c m v : Nat} {te : EE} {chk : Store → Prop} {sd : SD} {vals : List D} {Q : Store → Prop} (P : Nat → Store → D → Prop)
    (pm : ∀ {j : Nat} {S2 S3 : Store} {d : D}, FrB b S2 S3 → P j S2 d → P j S3 d) (pm2 : ∀ {j : Nat} {S2 : Store} {o : SO} {d : D}, P j S2 d → P j (S2.set S1.length o) d)
    (hb : IsBox S1 b c) (hck : ∀ S', FrB b S1 S' → chk S') (hl : vals.length ≤ 100000)
    (step : ∀ (j : Nat) (d : D), vals[j]? = some d → ∀ S2, FrB b S1 S2 → IsBox S2 b (c + m * j) → wpR (te ((wipeD sd [v]).set v (some d)) S2) (fun y S4 => P j S4 y ∧ IsBox S4 b (c + m * (j + 1)) ∧ FrB b S2 S4) fun _ _ => False)
    (q : ∀ S' ys, FrB b S1 S' → IsBox S' b (c + m * vals.length) → S'[S1.length]? = some (.lst ys) → ys.length = vals.length → (∀ j y, ys[j]? = some y → P j S' y) → Q S') :
    ∃ S', lcD S1.length (gNm v) bTrue te [v] chk sd vals (S1 ++ [.lst []]) = some S' ∧ Q S' :=
  lc_finL P pm pm2 hb hck hl (fun j d hd S2 f2 _ b2 => step j d hd S2 f2 b2) q
/-- a list by its name -/
theorem rdL_lt {S : Store} {n : Nat} {ds : List D} (h : rdL S n = some ds) : n < S.length := by
  unfold rdL at h
  cases e : S[n]? with
  | none => rw [e] at h; cases h
  | some o => exact (List.getElem?_eq_some_iff.mp e).1
theorem rdL_fr {S S' : Store} {n : Nat} {ds : List D} (f : Fr S S') (h : rdL S n = some ds) : rdL S' n = some ds := by
  unfold rdL at *
  rw [f n (rdL_lt (show rdL S n = some ds from h))]
  exact h
theorem rdL_frb {S S' : Store} {b n : Nat} {ds : List D} (f : FrB b S S') (h : rdL S n = some ds) (hn : n ≠ b) : rdL S' n = some ds := by
  unfold rdL at *
  rw [f.2 n (rdL_lt (show rdL S n = some ds from h)) hn]
  exact h
theorem lock_lst {i n : Nat} {m : EE} {sd : SD} {S : Store} {ds : List D} {Q : D → Store → Prop} {E : Ex → Store → Prop} (h : sd[i]? = some (some (.ref n))) (hn : rdL S n = some ds) (q : wpR (m sd S) Q E) : wpR (lockE i m sd S) Q E := by
  unfold lockE
  rw [h]
  dsimp only
  have : ∀ kvs, S[n]? ≠ some (.dct kvs) := fun kvs e => by
    unfold rdL at hn
    rw [e] at hn
    cases hn
  split
  · rename_i kvs e
    exact absurd e (this kvs)
  · exact q
theorem it_lst {i n : Nat} {sd : SD} {S : Store} {ds : List D} {QI : ITd → Store → Prop} {E : Ex → Store → Prop} (h : sd[i]? = some (some (.ref n))) (hn : rdL S n = some ds) (q : QI ⟨ds, fun S' => rdL S' n = some ds⟩ S) : wpR (itSeqK (eVar i) sd S) QI E := by
  unfold itSeqK
  rw [wpR_bind, wpR_var]
  refine ⟨_, h, ?_⟩
  dsimp only
  rw [hn]
  exact q
theorem lc_lst {i v n0 : Nat} {tt : EB} {te : EE} {sd : SD} {S : Store} {Q : D → Store → Prop} {E : Ex → Store → Prop} {vals : List D} (p : D → Bool) (f : D → D) (h : sd[i]? = some (some (.ref n0))) (hn : rdL S n0 = some vals) (hl : vals.length ≤ 10000000)
    (step : ∀ d ∈ vals, ∀ S1, Fr S S1 → wpR (tt ((wipeD sd [v]).set v (some d)) S1) (fun b S2 => b = p d ∧ Fr S1 S2 ∧ (p d = true → wpR (te ((wipeD sd [v]).set v (some d)) S2) (fun y S3 => y = f d ∧ Fr S2 S3) fun _ _ => False)) fun _ _ => False)
    (q : ∀ (n : Nat) S', S.length ≤ n → Fr S S' → S'[n]? = some (.lst ((vals.filter p).map f)) → Q (.ref n) S') : wpR (lockE i (eLc (itSeqK (eVar i)) (gNm v) tt te [v]) sd S) Q E :=
  lock_lst h hn (lc_map vals p f hl (fun QI k => it_lst h hn (k S _ Fr.refl fun S' f => rdL_fr f hn)) step q)
/-- the slot that a comprehension fills -/
theorem wipe_get {sd : SD} {v : Nat} {d : D} (h : v < sd.length) : ((wipeD sd [v]).set v (some d))[v]? = some (some d) := by
  show (((wipeD sd []).set v none).set v (some d))[v]? = _
  rw [List.getElem?_set_self]
  show v < (sd.set v none).length
  rw [List.length_set]; exact h
theorem wipe_ne {sd : SD} {v j : Nat} {d : D} (h : j ≠ v) : ((wipeD sd [v]).set v (some d))[j]? = sd[j]? := by
  show (((wipeD sd []).set v none).set v (some d))[j]? = _
  rw [List.getElem?_set_ne (Ne.symm h), List.getElem?_set_ne (Ne.symm h)]
  rfl
/-- one after the other, with what holds between -/
theorem w_mid {F G : FF} {P : Ps} {sd : SD} {S : Store} (Mid : SD → Store → Prop) (h1 : wpS (F sd S) { P with n := Mid }) (h2 : ∀ sd S, Mid sd S → wpS (G sd S) P) : wpS (sSeq F G sd S) P := by
  rw [w_seq]
  exact wpS_mono h1 (fun a S h => h2 a S h) (fun _ _ h => h) (fun _ _ h => h) (fun _ _ h => h) fun _ _ _ h => h
theorem lenL_of {S : Store} {n : Nat} {ds : List D} (h : S[n]? = some (.lst ds)) : lenD (.ref n) S = some ds.length := by rw [lenL, h]
theorem IsBox.setNe {S : Store} {b c n : Nat} {o : SO} (h : IsBox S b c) (hn : n ≠ b) : IsBox (S.set n o) b c := by
  obtain ⟨g, f, mm, k, e, r⟩ := h
  exact ⟨g, f, mm, k, by rw [List.getElem?_set_ne hn]; exact e, r⟩
/-- list[i] = d -/
theorem wp_gsub {fo fi : EE} {d : D} {sd : SD} {S : Store} {Q : SD → Store → Prop} (h : wpR (fo sd S) (fun o S1 => wpR (fi sd S1) (fun i S2 => ∃ n k ds, o = .ref n ∧ i = .int (k : Nat) ∧ S2[n]? = some (.lst ds) ∧ k < ds.length ∧ Q sd (S2.set n (.lst (ds.set k d)))) fun _ _ => False) fun _ _ => False) : wpP (gSubD fo fi d sd S) Q := by
  obtain ⟨o, S1, e1, h⟩ := wpR_ex h
  obtain ⟨i, S2, e2, n, k, ds, rfl, rfl, e3, hk, q⟩ := wpR_ex h
  have e4 : ixN ds.length (k : Int) = some k := by unfold ixN; rw [if_pos (by omega), if_pos (by omega)]; simp
  unfold gSubD
  rw [e1]
  dsimp only
  rw [e2]
  dsimp only
  unfold pSet
  dsimp only
  rw [e3]
  dsimp only
  rw [e4]
  exact q
theorem wp_addT {xs ys : List D} {S : Store} {Q : D → Store → Prop} (h : xs.length + ys.length ≤ 16777216 := by simp; omega) : wpP (pAdd (.tup xs) (.tup ys) S) Q = Q (.tup (xs ++ ys)) S := by
  unfold pAdd
  dsimp only
  rw [if_pos (fits_of h)]
  rfl
theorem wp_tupL {n : Nat} {ds : List D} {S : Store} {Q : D → Store → Prop} (h : rdL S n = some ds) : wpP (pTuple [.ref n] S) Q = Q (.tup ds) S := by
  unfold pTuple
  simp only [h, Option.map_some]
  rfl
/-- 0, 1, .. -/
def rngN (n : Nat) : List D := (List.range n).map fun (i : Nat) => D.int (i : Int)
@[simp] theorem rngN_len (n : Nat) : (rngN n).length = n := by simp [rngN]
theorem rngN_at {n j : Nat} {d : D} (h : (rngN n)[j]? = some d) : d = .int (j : Nat) ∧ j < n := by
  have hl := (List.getElem?_eq_some_iff.mp h).1
  rw [rngN_len] at hl
  exact ⟨by simpa [rngN, hl] using h.symm, hl⟩
theorem rng_eq (n : Nat) : rngD 0 (n : Int).toNat = rngN n := by
  unfold rngD rngN
  simp
theorem rg_k {aa : EA} {sd : SD} {S : Store} {QI : ITd → Store → Prop} {E : Ex → Store → Prop} (h : wpR (aa sd S) (fun xs S1 => ∃ n : Nat, xs = [.int n] ∧ n ≤ 1000000 ∧ QI ⟨rngN n, fun _ => True⟩ S1) E) : wpR (itRange aa sd S) QI E := by
  rw [v_itRange]
  refine wpR_mono h (fun xs S1 ⟨n, e, hn, q⟩ => ?_) fun _ _ z => z
  subst e
  rw [one_of, rgQ_int, rng_eq]
  exact And.intro (inR_of (by omega) (by omega)) q
theorem rgLen_k {i n : Nat} {d : D} {sd : SD} {S : Store} {QI : ITd → Store → Prop} {E : Ex → Store → Prop} (hv : sd[i]? = some (some d)) (hl : lenD d S = some n) (hn : n ≤ 1000000) (q : QI ⟨rngN n, fun _ => True⟩ S) : wpR (itRange (aCons (eCallB pLen (aCons (eVar i) aNil)) aNil) sd S) QI E := by
  refine rg_k ?_
  rw [v_cons, v_callB, v_cons, wpR_var]
  refine ⟨_, hv, ?_⟩
  rw [v_nil, wp_len]
  refine ⟨n, hl, ?_⟩
  rw [v_nil]
  exact ⟨n, rfl, hn, q⟩
theorem rgC_k {n : Nat} {z : Int} (hz : z = n) {sd : SD} {S : Store} {QI : ITd → Store → Prop} {E : Ex → Store → Prop} (q : QI ⟨rngN n, fun _ => True⟩ S) (hn : n ≤ 1000000 := by decide) : wpR (itRange (aCons (eC (.int z)) aNil) sd S) QI E := by
  refine rg_k ?_
  rw [v_cons, wpR_c, v_nil]
  exact ⟨n, by rw [hz], hn, q⟩
theorem rgV_k {n i : Nat} {sd : SD} {S : Store} {QI : ITd → Store → Prop} {E : Ex → Store → Prop} (hv : sd[i]? = some (some (.int (n : Nat)))) (hn : n ≤ 1000000) (q : QI ⟨rngN n, fun _ => True⟩ S) : wpR (itRange (aCons (eVar i) aNil) sd S) QI E := by
  refine rg_k ?_
  rw [v_cons, wpR_var]
  refine ⟨_, hv, ?_⟩
  rw [v_nil]
  exact ⟨n, rfl, hn, q⟩
/-- tuples: equal to ()? -/
theorem toPy_tup {ds : List D} {j : Nat} (hd : ∀ d ∈ ds, PD j d) (hj : j ≤ 60) (S : Store) : ∃ ps, toPy S 140 (.tup ds) = some (.tuple ps) ∧ SeqAt.shaped (.tuple ps) = true ∧ ps.length = ds.length := by
  obtain ⟨ps, h1, h2, h3, h4⟩ := toPys_of (S := S) (j := j) (k := 139) (by omega) (ds := ds) fun d hd' => by
    obtain ⟨p, q1, q2, q3⟩ := hd d hd'
    exact ⟨p, q1 S _ (by omega), q2, q3⟩
  refine ⟨ps, ?_, ?_, h4⟩
  · simp only [toPy]
    rw [h1]
    rfl
  · unfold SeqAt.shaped
    rw [Bool.and_eq_true]
    refine ⟨by simpa [PyData.canLay0] using h2, decide_eq_true ?_⟩
    simp only [PyData.depth]
    omega
theorem pEqB_tnil {ds : List D} {j : Nat} {S : Store} (hd : ∀ d ∈ ds, PD j d) (hj : j ≤ 60) : pEqB (.tup ds) (.tup []) S = some ds.isEmpty := by
  obtain ⟨ps, h1, h2, h3⟩ := toPy_tup hd hj S
  obtain ⟨qs, g1, g2, g3⟩ := toPy_tup (ds := []) (j := 0) (fun d hd => by simp at hd) (by omega) S
  unfold pEqB
  rw [h1, g1]
  simp only [h2, g2, Bool.and_self, if_true]
  congr 1
  have : qs = [] := List.eq_nil_of_length_eq_zero g3
  subst this
  cases ds with
  | nil =>
    have : ps = [] := List.eq_nil_of_length_eq_zero h3
    subst this
    rfl
  | cons d ds =>
    cases ps with
    | nil => simp at h3
    | cons p ps => rfl
theorem wp_netnil {ds : List D} {j : Nat} {S : Store} {Q : D → Store → Prop} (hd : ∀ d ∈ ds, PD j d) (hj : j ≤ 60 := by decide) : wpP (pNe (.tup ds) (.tup []) S) Q = Q (.bl (!ds.isEmpty)) S := by
  unfold pNe; rw [pEqB_tnil hd hj]; rfl
theorem wp_eqtnil {ds : List D} {j : Nat} {S : Store} {Q : D → Store → Prop} (hd : ∀ d ∈ ds, PD j d) (hj : j ≤ 60 := by decide) : wpP (pEq (.tup ds) (.tup []) S) Q = Q (.bl ds.isEmpty) S := by
  unfold pEq; rw [pEqB_tnil hd hj]; rfl
theorem bd_mem {ks : List Int} {k : Int} {n : Nat} (h : k ∈ ks) (hd : (ks.all fun k => decide (k.natAbs < 2 ^ n)) = true) : Bd n k := show k.natAbs < 2 ^ n from of_decide_eq_true (List.all_eq_true.mp hd k h)
theorem Bd.sum {m k : Nat} {l : List Int} (h : ∀ x ∈ l, Bd m x) (hl : l.length ≤ 2 ^ k) : Bd (m + k + 1) l.sum := by
  have key : ∀ l : List Int, (∀ x ∈ l, Bd m x) → l.sum.natAbs ≤ l.length * 2 ^ m := fun l => by
    induction l with
    | nil => intro _; simp
    | cons x l ih =>
      intro h
      have h1 := h x (by simp)
      have h2 := ih fun y hy => h y (by simp [hy])
      unfold Bd at h1
      rw [List.sum_cons, List.length_cons, Nat.succ_mul]
      have := Int.natAbs_add_le x l.sum
      omega
  have h1 := key l h
  unfold Bd
  have h2 : l.length * 2 ^ m ≤ 2 ^ k * 2 ^ m := Nat.mul_le_mul_right _ hl
  have h3 : 2 ^ (m + k + 1) = 2 * (2 ^ k * 2 ^ m) := by rw [Nat.pow_succ, Nat.pow_add]; rw [Nat.mul_comm (2 ^ m)]; omega
  have h4 : 0 < 2 ^ k * 2 ^ m := Nat.mul_pos (Nat.two_pow_pos _) (Nat.two_pow_pos _)
  omega
end Lay

set_option Elab.async false
set_option linter.all false
set_option maxRecDepth 100000
set_option maxHeartbeats 4000000
/-! L25: kinds of what expressions tell, while digits are drawn. -/
namespace Lay
open PySem PySem.Spec PyProof.Rows L2
open Classical
/-- the expression's value is P, at most m digits are drawn -/
def GP (b m : Nat) (P : Store → D → Prop) (e : EE) (sd : SD) (S : Store) : Prop := ∀ S1 c, FrB b S S1 → IsBox S1 b c → c + m ≤ 1000000 → wpR (e sd S1) (fun x S2 => FrB b S1 S2 ∧ IsBox S2 b (c + m) ∧ P S2 x) fun _ _ => False
/-- the arguments are n, each is P -/
def GPA (b m : Nat) (P : Store → D → Prop) (n : Nat) (aa : EA) (sd : SD) (S : Store) : Prop := ∀ S1 c, FrB b S S1 → IsBox S1 b c → c + m ≤ 1000000 → wpR (aa sd S1) (fun xs S2 => FrB b S1 S2 ∧ IsBox S2 b (c + m) ∧ xs.length = n ∧ ∀ x ∈ xs, P S2 x) fun _ _ => False
/-- it outlives what comes behind -/
def PMo (b : Nat) (P : Store → D → Prop) : Prop := ∀ S S' x, FrB b S S' → P S x → P S' x
abbrev IG (b k : Nat) : Store → D → Prop := fun S x => gd b S k x
def IT (b k m : Nat) : Store → D → Prop := fun S x => ∃ ds, x = .tup ds ∧ ds.length ≤ m ∧ ∀ d ∈ ds, gd b S k d
def IL (b k m : Nat) : Store → D → Prop := fun S x => ∃ n ds, x = .ref n ∧ n ≠ b ∧ S[n]? = some (.lst ds) ∧ ds.length ≤ m ∧ ∀ d ∈ ds, gd b S k d
abbrev ILn (b k n : Nat) : Store → D → Prop := fun S x => LGd b k n S x
def IB (m : Nat) : Store → D → Prop := fun _ x => ∃ i : Int, x = .int i ∧ Bd m i
def INat (n : Nat) : Store → D → Prop := fun _ x => ∃ j : Nat, x = .int j ∧ j < n
def IBl : Store → D → Prop := fun _ x => ∃ v, x = .bl v
theorem pm_g {b k : Nat} : PMo b (IG b k) := fun _ _ _ f h => h.frb f
theorem pm_t {b k m : Nat} : PMo b (IT b k m) := fun _ _ _ f ⟨ds, e, l, h⟩ => ⟨ds, e, l, fun d hd => (h d hd).frb f⟩
theorem pm_l {b k m : Nat} : PMo b (IL b k m) := fun _ _ _ f ⟨n, ds, e, hn, h1, l, h⟩ => ⟨n, ds, e, hn, f.at h1 hn, l, fun d hd => (h d hd).frb f⟩
theorem pm_ln {b k n : Nat} : PMo b (ILn b k n) := fun _ _ _ f h => h.frb f
theorem pm_b {b m : Nat} : PMo b (IB m) := fun _ _ _ _ h => h
theorem pm_n {b m : Nat} : PMo b (INat m) := fun _ _ _ _ h => h
theorem pm_bl {b : Nat} : PMo b IBl := fun _ _ _ _ h => h
theorem gd_of_t {b k m : Nat} {S : Store} {x : D} (h : IT b k m S x) (hm : m ≤ 400 := by decide) : gd b S (k + 1) x := by
  obtain ⟨ds, rfl, l, h⟩ := h
  exact gd.tup (by omega) h
theorem gd_of_l {b k m : Nat} {S : Store} {x : D} (h : IL b k m S x) (hm : m ≤ 400 := by decide) : gd b S (k + 1) x := by
  obtain ⟨n, ds, rfl, hn, e, l, h⟩ := h
  exact gd.lst e hn (by omega) h
theorem gd_of_ln {b k n : Nat} {S : Store} {x : D} (h : ILn b k n S x) (hm : n ≤ 400 := by decide) : gd b S (k + 1) x := by
  obtain ⟨p, ds, rfl, hn, e, l, h⟩ := h
  exact gd.lst e hn (by omega) h
theorem il_of_ln {b k n : Nat} {S : Store} {x : D} (h : ILn b k n S x) : IL b k n S x := by
  obtain ⟨p, ds, rfl, hn, e, l, h⟩ := h
  exact ⟨p, ds, rfl, hn, e, by omega, h⟩
theorem gd_of_b {b k m : Nat} {S : Store} {x : D} (h : IB m S x) (hm : m ≤ 1000 := by decide) : gd b S k x := by
  obtain ⟨i, rfl, h⟩ := h
  exact gd.int (h.mono hm)
theorem gd_of_bl {b k : Nat} {S : Store} {x : D} (h : IBl S x) : gd b S k x := by
  obtain ⟨v, rfl⟩ := h
  exact gd.bl v
section
variable {b m m' k n : Nat} {P P' : Store → D → Prop} {e e' e2 : EE} {aa : EA} {sd : SD} {S : Store} {t : EB} {tk : List D → M D}
/-- the use -/
theorem GP.use {c : Nat} {Q : D → Store → Prop} {E : Ex → Store → Prop} (h : GP b m P e sd S) (hb : IsBox S b c) (k : ∀ x S', P S' x → IsBox S' b (c + m) → FrB b S S' → Q x S') (hc : c + m ≤ 1000000 := by omega) : wpR (e sd S) Q E :=
  wpR_mono (h S c FrB.refl hb hc) (fun x S' ⟨f, b', p⟩ => k x S' p b' f) fun _ _ z => z.elim
theorem GPA.use {c : Nat} {Q : List D → Store → Prop} {E : Ex → Store → Prop} (h : GPA b m P n aa sd S) (hb : IsBox S b c) (k : ∀ xs S', xs.length = n → (∀ x ∈ xs, P S' x) → IsBox S' b (c + m) → FrB b S S' → Q xs S') (hc : c + m ≤ 1000000 := by omega) : wpR (aa sd S) Q E :=
  wpR_mono (h S c FrB.refl hb hc) (fun x S' ⟨f, b', l, p⟩ => k x S' l p b' f) fun _ _ z => z.elim
theorem GP.frb {S' : Store} (h : GP b m P e sd S) (f : FrB b S S') : GP b m P e sd S' := fun S1 c f1 => h S1 c (f.trans f1)
theorem GP.mono (h : GP b m P e sd S) (hm : m ≤ m') : GP b m' P e sd S := fun S1 c f1 b1 hc => wpR_mono (h S1 c f1 b1 (by omega)) (fun x S2 ⟨f, b2, p⟩ => ⟨f, b2.mono (by omega), p⟩) fun _ _ z => z
theorem GP.weak (h : GP b m P e sd S) (hp : ∀ S x, P S x → P' S x) : GP b m P' e sd S := fun S1 c f1 b1 hc => wpR_mono (h S1 c f1 b1 hc) (fun x S2 ⟨f, b2, p⟩ => ⟨f, b2, hp _ _ p⟩) fun _ _ z => z
/-- from a rule of a def of ours -/
theorem gp_of (h : ∀ S1 c, FrB b S S1 → IsBox S1 b c → c + m ≤ 1000000 → ∀ Q : D → Store → Prop, (∀ x S2, P S2 x → IsBox S2 b (c + m) → FrB b S1 S2 → Q x S2) → wpR (e sd S1) Q fun _ _ => False) : GP b m P e sd S := fun S1 c f1 b1 hc => h S1 c f1 b1 hc _ fun x S2 p b2 f2 => ⟨f2, b2, p⟩
theorem gp_c {d : D} (h : ∀ S, P S d) : GP b 0 P (eC d) sd S := fun S1 c f1 b1 hc => by
  rw [wpR_c]; exact ⟨FrB.refl, b1, h S1⟩
theorem gp_var {i : Nat} {d : D} (h : sd[i]? = some (some d)) (pm : PMo b P) (hd : P S d) : GP b 0 P (eVar i) sd S := fun S1 c f1 b1 hc => by
  rw [wpR_var]; exact ⟨d, h, FrB.refl, b1, pm _ _ _ f1 hd⟩
theorem gp_non : GP b 0 (IG b k) (eC .non) sd S := gp_c fun _ => gd.non
theorem gp_bl {v : Bool} : GP b 0 (IG b k) (eC (.bl v)) sd S := gp_c fun _ => gd.bl v
theorem gp_int {i : Int} (h : Bd 1000 i) : GP b 0 (IG b k) (eC (.int i)) sd S := gp_c fun _ => gd.int h
theorem gp_str {x : Str} (h : okS x = true) : GP b 0 (IG b k) (eC (.str x)) sd S := gp_c fun _ => gd.str h
theorem gp_neg {i : Int} (h : Bd 1000 (-i)) : GP b 0 (IG b k) (eNeg (eC (.int i))) sd S := fun S1 c f1 b1 hc => by
  rw [v_neg, v_c]; exact ⟨i, rfl, FrB.refl, b1, gd.int h⟩
theorem gp_ib {i : Int} (h : Bd n i) : GP b 0 (IB n) (eC (.int i)) sd S := gp_c fun _ => ⟨i, rfl, h⟩
theorem gp_nil : GPA b 0 P 0 aNil sd S := fun S1 c f1 b1 hc => by
  rw [v_nil]; exact ⟨FrB.refl, b1, rfl, fun x hx => by simp at hx⟩
theorem gp_cons (pm : PMo b P) (h : GP b m P e sd S) (t : GPA b m' P n aa sd S) : GPA b (m + m') P (n + 1) (aCons e aa) sd S := fun S1 c f1 b1 hc => by
  rw [v_cons]
  refine wpR_mono (h S1 c f1 b1 (by omega)) (fun x S2 ⟨f2, b2, p2⟩ => ?_) fun _ _ z => z
  refine wpR_mono (t S2 (c + m) (f1.trans f2) b2 (by omega)) (fun xs S3 ⟨f3, b3, l3, p3⟩ => ?_) fun _ _ z => z
  refine ⟨f2.trans f3, by rw [← Nat.add_assoc]; exact b3, by simp [l3], fun y hy => ?_⟩
  rcases List.mem_cons.mp hy with rfl | hy
  · exact pm _ _ _ f3 p2
  · exact p3 y hy
theorem ga_c (h : GP b m (IG b k) e sd S) (t : GPA b m' (IG b k) n aa sd S) : GPA b (m + m') (IG b k) (n + 1) (aCons e aa) sd S := gp_cons pm_g h t
theorem gt_tup (h : GPA b m (IG b k) n aa sd S) (hn : n ≤ 1000 := by decide) : GP b m (IT b k n) (eTup aa) sd S := fun S1 c f1 b1 hc => by
  rw [v_tup]
  refine wpR_mono (h S1 c f1 b1 hc) (fun xs S2 ⟨f2, b2, l2, p2⟩ => ?_) fun _ _ z => z
  exact ⟨fits_of (by omega), f2, b2, xs, rfl, by omega, p2⟩
theorem gp_tup (h : GPA b m (IG b k) n aa sd S) (hn : n ≤ 400 := by decide) : GP b m (IG b (k + 1)) (eTup aa) sd S := (gt_tup h (by omega)).weak fun S x z => gd_of_t z hn
theorem gln_lst (h : GPA b m (IG b k) n aa sd S) (hn : n ≤ 1000 := by decide) : GP b m (ILn b k n) (eLst aa) sd S := fun S1 c f1 b1 hc => by
  rw [v_lst]
  refine wpR_mono (h S1 c f1 b1 hc) (fun xs S2 ⟨f2, b2, l2, p2⟩ => ?_) fun _ _ z => z
  have := b2.lt
  exact ⟨fits_of (by omega), f2.trans ((Fr.app _).b b), b2.app _, S2.length, xs, rfl, by omega, last_at _ _, l2, fun d hd => (p2 d hd).fr (Fr.app _)⟩
theorem gp_lst (h : GPA b m (IG b k) n aa sd S) (hn : n ≤ 400 := by decide) : GP b m (IG b (k + 1)) (eLst aa) sd S := (gln_lst h (by omega)).weak fun S x z => gd_of_ln z hn
theorem gp_dct0 : GP b 0 (IG b (k + 1)) eDct0 sd S := fun S1 c f1 b1 hc => by
  rw [v_dct0]
  have := b1.lt
  exact ⟨(Fr.app _).b b, b1.app _, gd.dct (last_at _ _) (by omega) (by simp) (by simp) (by simp)⟩
theorem gp_tup' (h : GPA b m (IG b k) n aa sd S) (hn : n ≤ 400) : GP b m (IG b (k + 1)) (eTup aa) sd S := gp_tup h hn
theorem gp_lst' (h : GPA b m (IG b k) n aa sd S) (hn : n ≤ 400) : GP b m (IG b (k + 1)) (eLst aa) sd S := gp_lst h hn
/-- a dict of constants -/
theorem gp_dctR {ks : List Key} {ds : List D} (haa : ∀ S1, aa sd S1 = .ok ds S1) (hk : ks.length = ds.length) (hn : ds.length ≤ 400) (hd : ks.Nodup) (hp : ∀ d ∈ ds, plain k d) : GP b 0 (fun S x => gd b S (k + 1) x ∧ ∃ n, x = .ref n) (eDct ks aa) sd S := fun S1 c f1 b1 hc => by
  have hl := b1.lt
  unfold eDct
  rw [haa]
  dsimp only
  have e : (S1 ++ [SO.dct []])[S1.length]? = some (.dct []) := last_at _ _
  have e2 : (S1 ++ [SO.dct []]).set S1.length (.dct (ks.zip ds)) = S1 ++ [SO.dct (ks.zip ds)] := by
    rw [List.set_append_right _ _ (Nat.le_refl _)]; simp
  have mp : (ks.zip ds).map (·.1) = ks := by
    rw [List.map_fst_zip (by omega)]
  simp only [e, hk, if_true, e2, wpR_ok]
  refine ⟨(Fr.app _).b b, b1.app _, gd.dct (last_at _ _) (by omega) (by rw [List.length_zip]; omega) (by rw [mp]; exact hd) (fun p hp2 => hp p.2 (List.of_mem_zip hp2).2), _, rfl⟩
theorem gp_dct {ks : List Key} {ds : List D} (haa : ∀ S1, aa sd S1 = .ok ds S1) (hk : ks.length = ds.length) (hn : ds.length ≤ 400) (hd : ks.Nodup) (hp : ∀ d ∈ ds, plain k d) : GP b 0 (IG b (k + 1)) (eDct ks aa) sd S := (gp_dctR haa hk hn hd hp).weak fun S x z => z.1
/-- an item of a list -/
theorem gp_ixl (h : GP b m (ILn b k n) e sd S) (h2 : GP b m' (INat n) e2 sd S) : GP b (m + m') (IG b k) (eBin pIx e e2) sd S := fun S1 c f1 b1 hc => by
  rw [v_bin]
  refine wpR_mono (h S1 c f1 b1 (by omega)) (fun x S2 ⟨f2, b2, q, xs, e1, hq, e2, l2, p2⟩ => ?_) fun _ _ z => z
  subst e1
  refine wpR_mono (h2 S2 (c + m) (f1.trans f2) b2 (by omega)) (fun y S3 ⟨f3, b3, j, e3, hj⟩ => ?_) fun _ _ z => z
  subst e3
  have e4 := f3.at e2 hq
  rw [wp_ixR]
  have hj' : j < xs.length := by omega
  exact ⟨xs, rdL_lst e4, xs[j], by rw [atI_nat hj']; exact List.getElem?_eq_getElem hj', f2.trans f3, by rw [← Nat.add_assoc]; exact b3, (p2 _ (List.getElem_mem hj')).frb f3⟩
theorem gn_take (htk : TkOk tk) {i : Nat} {z : Int} (hv : sd[i]? = some (some (.ref b))) (hz : z = n) (h0 : 0 < n := by decide) (h1 : n ≤ 100000000 := by decide) : GP b 1 (INat n) (eCall tk (aCons (eVar i) (aCons (eC (.int z)) aNil))) sd S := fun S1 c f1 b1 hc => by
  refine tkE htk hv b1 (fun j S2 hj b2 f2 => ?_) (by omega) (by omega)
  exact ⟨f2, b2, j, rfl, by omega⟩
theorem gp_pick (htk : TkOk tk) {i : Nat} {z : Int} (hv : sd[i]? = some (some (.ref b))) (hz : z = n) (h : GPA b m (IG b k) n aa sd S) (h0 : 0 < n := by decide) (h1 : n ≤ 1000 := by decide) : GP b (m + 1) (IG b k) (eBin pIx (eLst aa) (eCall tk (aCons (eVar i) (aCons (eC (.int z)) aNil)))) sd S := gp_ixl (gln_lst h h1) (gn_take htk hv hz h0 (by omega))
theorem wp_gtup3 {i j l : Nat} {x y z : D} {sd : SD} {S : Store} {Q : SD → Store → Prop} : wpP (gTupD 3 (gsCons (gNm i) (gsCons (gNm j) (gsCons (gNm l) gsNil))) (.tup [x, y, z]) sd S) Q = Q (((sd.set i (some x)).set j (some y)).set l (some z)) S := nr rfl
theorem gp_if {t : EB} {e e' : EE} {m1 m2 : Nat} (ht : ∀ S1 c, FrB b S S1 → IsBox S1 b c → c + m ≤ 1000000 → wpR (t sd S1) (fun _ S2 => FrB b S1 S2 ∧ IsBox S2 b (c + m)) fun _ _ => False) (h : GP b m1 P e sd S) (h2 : GP b m2 P e' sd S) : GP b (m + (m1 + m2)) P (eIf t e e') sd S := fun S1 c f1 b1 hc => by
  rw [v_if]
  refine wpR_mono (ht S1 c f1 b1 (by omega)) (fun v S2 ⟨f2, b2⟩ => ?_) fun _ _ z => z
  cases v with
  | true =>
    simp only [if_true]
    exact wpR_mono (h S2 (c + m) (f1.trans f2) b2 (by omega)) (fun x S3 ⟨f3, b3, p⟩ => ⟨f2.trans f3, b3.mono (by omega), p⟩) fun _ _ z => z
  | false =>
    simp only [Bool.false_eq_true, if_false]
    exact wpR_mono (h2 S2 (c + m) (f1.trans f2) b2 (by omega)) (fun x S3 ⟨f3, b3, p⟩ => ⟨f2.trans f3, b3.mono (by omega), p⟩) fun _ _ z => z
/-! ### rows -/
theorem mem_cut {ds : List D} {lo hi : Option Int} {d : D} (h : d ∈ cutD ds lo hi) : d ∈ ds := List.mem_of_mem_drop (List.mem_of_mem_take h)
theorem cut_len {ds : List D} {lo hi : Option Int} : (cutD ds lo hi).length ≤ ds.length := by
  unfold cutD
  rw [List.length_take, List.length_drop]
  omega
def GO (o : EO) (sd : SD) (S : Store) (b : Nat) : Prop := ∀ S1, FrB b S S1 → wpR (o sd S1) (fun _ S2 => S2 = S1) fun _ _ => False
theorem go_none : GO oNone sd S b := fun S1 _ => by rw [v_onone]
theorem go_c {i : Int} : GO (oSome (eC (.int i))) sd S b := fun S1 _ => by rw [v_osome, v_c]; exact ⟨i, rfl, rfl⟩
theorem go_neg {i : Int} : GO (oSome (eNeg (eC (.int i)))) sd S b := fun S1 _ => by rw [v_osome, v_neg, v_c]; exact ⟨i, rfl, _, rfl, rfl⟩
theorem go_var {i : Nat} {z : Int} (h : sd[i]? = some (some (.int z))) : GO (oSome (eVar i)) sd S b := fun S1 _ => by rw [v_osome, wpR_var]; exact ⟨_, h, z, rfl, rfl⟩
theorem go_add {i : Nat} {z w : Int} (h : sd[i]? = some (some (.int z))) : GO (oSome (eBin pAdd (eVar i) (eC (.int w)))) sd S b := fun S1 _ => by rw [v_osome, v_bin, wpR_var]; exact ⟨_, h, by rw [v_c, wp_add]; exact ⟨_, rfl, rfl⟩⟩
theorem gt_sl {lo hi : EO} (h : GP b m (IT b k n) e sd S) (h1 : GO lo sd S b) (h2 : GO hi sd S b) : GP b m (IT b k n) (eSl e lo hi) sd S := fun S1 c f1 b1 hc => by
  rw [v_sl]
  refine wpR_mono (h S1 c f1 b1 hc) (fun x S2 ⟨f2, b2, ds, e1, l2, p2⟩ => ?_) fun _ _ z => z
  subst e1
  refine wpR_mono (h1 S2 (f1.trans f2)) (fun l S3 e3 => ?_) fun _ _ z => z
  subst e3
  refine wpR_mono (h2 S3 (f1.trans f2)) (fun hh S4 e4 => ?_) fun _ _ z => z
  subst e4
  show wpP (pSl (.tup ds) l hh S4) _
  exact ⟨f2, b2, _, rfl, Nat.le_trans cut_len l2, fun d hd => p2 d (mem_cut hd)⟩
theorem gt_add {n' : Nat} (h : GP b m (IT b k n) e sd S) (h2 : GP b m' (IT b k n') e2 sd S) (hn : n + n' ≤ 10000 := by decide) : GP b (m + m') (IT b k (n + n')) (eBin pAdd e e2) sd S := fun S1 c f1 b1 hc => by
  rw [v_bin]
  refine wpR_mono (h S1 c f1 b1 (by omega)) (fun x S2 ⟨f2, b2, ds, e1, l2, p2⟩ => ?_) fun _ _ z => z
  subst e1
  refine wpR_mono (h2 S2 (c + m) (f1.trans f2) b2 (by omega)) (fun y S3 ⟨f3, b3, es, e3, l3, p3⟩ => ?_) fun _ _ z => z
  subst e3
  rw [wp_addT (by omega)]
  refine ⟨f2.trans f3, by rw [← Nat.add_assoc]; exact b3, _, rfl, by simp; omega, fun d hd => ?_⟩
  rcases List.mem_append.mp hd with hd | hd
  · exact (p2 d hd).frb f3
  · exact p3 d hd
theorem gl_add' {n' : Nat} (h : GP b m (IL b k n) e sd S) (h2 : GP b m' (IL b k n') e2 sd S) (hn : n + n' ≤ 10000 := by decide) : GP b (m + m') (IL b k (n + n')) (eBin pAdd e e2) sd S := fun S1 c f1 b1 hc => by
  rw [v_bin]
  refine wpR_mono (h S1 c f1 b1 (by omega)) (fun x S2 ⟨f2, b2, q, ds, e1, hq, e2, l2, p2⟩ => ?_) fun _ _ z => z
  subst e1
  refine wpR_mono (h2 S2 (c + m) (f1.trans f2) b2 (by omega)) (fun y S3 ⟨f3, b3, q', es, e3, hq', e4, l3, p3⟩ => ?_) fun _ _ z => z
  subst e3
  rw [wp_addL (f3.at e2 hq) e4 (by omega)]
  have := b3.lt
  refine ⟨f2.trans (f3.trans ((Fr.app _).b b)), by rw [← Nat.add_assoc]; exact b3.app _, _, _, rfl, by omega, last_at _ _, by simp; omega, fun d hd => ?_⟩
  rcases List.mem_append.mp hd with hd | hd
  · exact ((p2 d hd).frb f3).fr (Fr.app _)
  · exact (p3 d hd).fr (Fr.app _)
theorem gln_add {n' : Nat} (h : GP b m (ILn b k n) e sd S) (h2 : GP b m' (ILn b k n') e2 sd S) (hn : n + n' ≤ 10000 := by decide) : GP b (m + m') (ILn b k (n + n')) (eBin pAdd e e2) sd S := fun S1 c f1 b1 hc => by
  rw [v_bin]
  refine wpR_mono (h S1 c f1 b1 (by omega)) (fun x S2 ⟨f2, b2, q, ds, e1, hq, e2, l2, p2⟩ => ?_) fun _ _ z => z
  subst e1
  refine wpR_mono (h2 S2 (c + m) (f1.trans f2) b2 (by omega)) (fun y S3 ⟨f3, b3, q', es, e3, hq', e4, l3, p3⟩ => ?_) fun _ _ z => z
  subst e3
  rw [wp_addL (f3.at e2 hq) e4 (by omega)]
  have := b3.lt
  refine ⟨f2.trans (f3.trans ((Fr.app _).b b)), by rw [← Nat.add_assoc]; exact b3.app _, _, _, rfl, by omega, last_at _ _, by simp; omega, fun d hd => ?_⟩
  rcases List.mem_append.mp hd with hd | hd
  · exact ((p2 d hd).frb f3).fr (Fr.app _)
  · exact (p3 d hd).fr (Fr.app _)
theorem gl_list (h : GP b m (IT b k n) e sd S) : GP b m (IL b k n) (eCallB pList (aCons e aNil)) sd S := fun S1 c f1 b1 hc => by
  rw [v_callB, v_cons]
  refine wpR_mono (h S1 c f1 b1 hc) (fun x S2 ⟨f2, b2, ds, e1, l2, p2⟩ => ?_) fun _ _ z => z
  subst e1
  rw [v_nil]
  show wpP (some (D.ref S2.length, S2 ++ [SO.lst ds])) _
  rw [wpP_some]
  have := b2.lt
  exact ⟨f2.trans ((Fr.app _).b b), b2.app _, _, ds, rfl, by omega, last_at _ _, l2, fun d hd => (p2 d hd).fr (Fr.app _)⟩
theorem gt_tuple (h : GP b m (IL b k n) e sd S) : GP b m (IT b k n) (eCallB pTuple (aCons e aNil)) sd S := fun S1 c f1 b1 hc => by
  rw [v_callB, v_cons]
  refine wpR_mono (h S1 c f1 b1 hc) (fun x S2 ⟨f2, b2, q, ds, e1, hq, e2, l2, p2⟩ => ?_) fun _ _ z => z
  subst e1
  rw [v_nil, wp_tupL (rdL_lst e2)]
  exact ⟨f2, b2, ds, rfl, l2, p2⟩
/-- (d,) * len(..) -/
theorem gt_mul {e2 : EE} {bb : EA} (h : GPA b m (IG b k) 1 bb sd S) (h2 : GP b m' (INat (n + 1)) e2 sd S) (h0 : GP b m' (fun _ x => ∃ j : Nat, x = .int j ∧ 1 ≤ j) e2 sd S) (hn : n ≤ 1000 := by decide) : GP b (m + m') (IT b k n) (eBin pMulT (eTup bb) e2) sd S := fun S1 c f1 b1 hc => by
  rw [v_bin, v_tup]
  refine wpR_mono (h S1 c f1 b1 (by omega)) (fun xs S2 ⟨f2, b2, l2, p2⟩ => ?_) fun _ _ z => z
  refine ⟨fits_of (by omega), ?_⟩
  have r2 := h2 S2 (c + m) (f1.trans f2) b2 (by omega)
  have r0 := h0 S2 (c + m) (f1.trans f2) b2 (by omega)
  cases hh : e2 sd S2 with
  | bad => rw [hh] at r2; exact r2.elim
  | exc x S' => rw [hh] at r2; exact r2.elim
  | ok y S3 =>
    rw [hh] at r2 r0
    obtain ⟨f3, b3, j, rfl, hj⟩ := r2
    obtain ⟨_, _, j', ej, hj1⟩ := r0
    rw [wpR_ok]
    obtain ⟨x, rfl⟩ : ∃ x, xs = [x] := List.length_eq_one_iff.mp l2
    cases ej
    have gx := p2 x (by simp)
    unfold pMulT
    dsimp only
    by_cases h1 : (j : Int) = 1
    · rw [if_pos h1, wpP_some]
      exact ⟨f2.trans f3, by rw [← Nat.add_assoc]; exact b3, _, rfl, by simp; omega, fun d hd => by rw [List.mem_singleton.mp hd]; exact gx.frb f3⟩
    · rw [if_neg h1, if_pos (by simp; omega), wpP_some]
      refine ⟨f2.trans f3, by rw [← Nat.add_assoc]; exact b3, _, rfl, by simp; omega, fun d hd => ?_⟩
      simp at hd
      rw [hd.2]
      exact gx.frb f3
end
/-! ### lists of things of a kind -/
def ILP (b : Nat) (P : Store → D → Prop) (n : Nat) : Store → D → Prop := fun S x => ∃ p ds, x = .ref p ∧ p ≠ b ∧ S[p]? = some (.lst ds) ∧ ds.length = n ∧ ∀ d ∈ ds, P S d
theorem pm_lp {b n : Nat} {P : Store → D → Prop} (pm : PMo b P) : PMo b (ILP b P n) := fun S S' x f ⟨p, ds, e, hp, e1, l, h⟩ => ⟨p, ds, e, hp, f.at e1 hp, l, fun d hd => pm _ _ _ f (h d hd)⟩
section
variable {b m m' k n : Nat} {P : Store → D → Prop} {e e2 : EE} {aa : EA} {sd : SD} {S : Store} {tk : List D → M D}
theorem gq_lst (pm : PMo b P) (h : GPA b m P n aa sd S) (hn : n ≤ 1000 := by decide) : GP b m (ILP b P n) (eLst aa) sd S := fun S1 c f1 b1 hc => by
  rw [v_lst]
  refine wpR_mono (h S1 c f1 b1 hc) (fun xs S2 ⟨f2, b2, l2, p2⟩ => ?_) fun _ _ z => z
  have := b2.lt
  exact ⟨fits_of (by omega), f2.trans ((Fr.app _).b b), b2.app _, S2.length, xs, rfl, by omega, last_at _ _, l2, fun d hd => pm _ _ _ ((Fr.app _).b b) (p2 d hd)⟩
theorem gq_ix (pm : PMo b P) (h : GP b m (ILP b P n) e sd S) (h2 : GP b m' (INat n) e2 sd S) : GP b (m + m') P (eBin pIx e e2) sd S := fun S1 c f1 b1 hc => by
  rw [v_bin]
  refine wpR_mono (h S1 c f1 b1 (by omega)) (fun x S2 ⟨f2, b2, q, xs, e1, hq, e2, l2, p2⟩ => ?_) fun _ _ z => z
  subst e1
  refine wpR_mono (h2 S2 (c + m) (f1.trans f2) b2 (by omega)) (fun y S3 ⟨f3, b3, j, e3, hj⟩ => ?_) fun _ _ z => z
  subst e3
  have e4 := f3.at e2 hq
  rw [wp_ixR]
  have hj' : j < xs.length := by omega
  exact ⟨xs, rdL_lst e4, xs[j], by rw [atI_nat hj']; exact List.getElem?_eq_getElem hj', f2.trans f3, by rw [← Nat.add_assoc]; exact b3, pm _ _ _ f3 (p2 _ (List.getElem_mem hj'))⟩
end
/-- the end of a comprehension that maps what passes -/
theorem lc_at {S1 : Store} {v : Nat} {tt : EB} {te : EE} {chk : Store → Prop} {sd : SD} {vals : List D} {Q : Store → Prop} (p : D → Bool) (f : D → D) (hl : vals.length ≤ 10000000) (hck : ∀ S', Fr S1 S' → chk S')
    (step : ∀ d ∈ vals, ∀ S2, Fr S1 S2 → wpR (tt ((wipeD sd [v]).set v (some d)) S2) (fun b S3 => b = p d ∧ Fr S2 S3 ∧ (p d = true → wpR (te ((wipeD sd [v]).set v (some d)) S3) (fun y S4 => y = f d ∧ Fr S3 S4) fun _ _ => False)) fun _ _ => False)
    (q : ∀ S', Fr S1 S' → S'[S1.length]? = some (.lst ((vals.filter p).map f)) → Q S') : ∃ S', lcD S1.length (gNm v) tt te [v] chk sd vals (S1 ++ [.lst []]) = some S' ∧ Q S' := by
  have key : ∃ S', lcD S1.length (gNm v) tt te [v] chk sd vals (S1 ++ [.lst []]) = some S' ∧ (Fr S1 S' ∧ S'[S1.length]? = some (.lst (((vals.take (0 + vals.length)).filter p).map f))) := by
    refine wp_lc (fun i S' => Fr S1 S' ∧ S'[S1.length]? = some (.lst (((vals.take i).filter p).map f))) vals 0 _ ⟨Fr.app _, by simp⟩ ?_ (fun S' h => hck _ h.1)
    rintro j d S2 hj ⟨f2, e2⟩
    rw [Nat.zero_add] at e2 ⊢
    refine ⟨hck _ f2, _, rfl, ?_⟩
    have hd := List.mem_of_getElem? hj
    have jl := (List.getElem?_eq_some_iff.mp hj).1
    have tk : vals.take (j + 1) = vals.take j ++ [d] := by
      rw [List.take_add_one, hj]
      rfl
    have n2 : S1.length < S2.length := (List.getElem?_eq_some_iff.mp e2).1
    refine wpR_mono (step d hd S2 f2) (fun b S3 ⟨eb, f3, h3⟩ => ?_) fun _ _ z => z
    subst eb
    cases hp : p d with
    | false =>
      simp only [Bool.false_eq_true, if_false]
      refine ⟨f2.trans f3, ?_⟩
      rw [f3 _ n2, e2, tk, List.filter_append, List.map_append]
      simp [hp]
    | true =>
      simp only [if_true]
      refine wpR_mono (h3 hp) (fun y S4 ⟨ey, f4⟩ => ?_) fun _ _ z => z
      subst ey
      have e4 : S4[S1.length]? = some (.lst (((vals.take j).filter p).map f)) := by
        rw [f4 _ (Nat.lt_of_lt_of_le n2 f3.le), f3 _ n2, e2]
      have n4 := (List.getElem?_eq_some_iff.mp e4).1
      refine ⟨_, e4, fits_of ?_, ?_, ?_⟩
      · rw [List.length_map]
        have := List.length_filter_le p (vals.take j)
        rw [List.length_take] at this
        omega
      · have ft := f2.trans (f3.trans f4)
        intro i hi
        rw [List.getElem?_set_ne (by omega)]
        exact ft i hi
      · rw [List.getElem?_set_self n4, tk, List.filter_append, List.map_append]
        simp [hp]
  obtain ⟨S', e, f2, e2⟩ := key
  rw [Nat.zero_add, List.take_length] at e2
  exact ⟨S', e, q S' f2 e2⟩
/-- the end of a comprehension whose items are of a kind; no digits are drawn -/
theorem lc_pred {S1 : Store} {v : Nat} {te : EE} {chk : Store → Prop} {sd : SD} {vals : List D} {Q : Store → Prop} (P : Nat → Store → D → Prop)
    (pm : ∀ {j : Nat} {S2 S3 : Store} {d : D}, Fr S2 S3 → P j S2 d → P j S3 d) (pm2 : ∀ {j : Nat} {S2 : Store} {o : SO} {d : D}, P j S2 d → P j (S2.set S1.length o) d)
    (hck : ∀ S', Fr S1 S' → chk S') (hl : vals.length ≤ 100000)
    (step : ∀ (j : Nat) (d : D), vals[j]? = some d → ∀ S2, Fr S1 S2 → S1.length < S2.length → wpR (te ((wipeD sd [v]).set v (some d)) S2) (fun y S4 => P j S4 y ∧ Fr S2 S4) fun _ _ => False)
    (q : ∀ S' ys, Fr S1 S' → S'[S1.length]? = some (.lst ys) → ys.length = vals.length → (∀ j y, ys[j]? = some y → P j S' y) → Q S') :
    ∃ S', lcD S1.length (gNm v) bTrue te [v] chk sd vals (S1 ++ [.lst []]) = some S' ∧ Q S' := by
  have key : ∃ S', lcD S1.length (gNm v) bTrue te [v] chk sd vals (S1 ++ [.lst []]) = some S' ∧ (Fr S1 S' ∧ ∃ ys, S'[S1.length]? = some (.lst ys) ∧ ys.length = 0 + vals.length ∧ ∀ j y, ys[j]? = some y → P j S' y) := by
    refine wp_lc (fun i S' => Fr S1 S' ∧ ∃ ys, S'[S1.length]? = some (.lst ys) ∧ ys.length = i ∧ ∀ j y, ys[j]? = some y → P j S' y) vals 0 _ ⟨Fr.app _, [], by simp, rfl, fun j y e => by simp at e⟩ ?_ (fun S' h => hck _ h.1)
    rintro j d S2 hj ⟨f2, ys, e2, l2, p2⟩
    rw [Nat.zero_add] at *
    refine ⟨hck _ f2, _, rfl, ?_⟩
    show wpR (bTrue _ _) _ _
    unfold bTrue
    rw [wpR_ok, if_pos rfl]
    have n2 := (List.getElem?_eq_some_iff.mp e2).1
    refine wpR_mono (step j d hj S2 f2 n2) (fun y S4 ⟨py, f4⟩ => ?_) fun _ _ z => z
    have jl := (List.getElem?_eq_some_iff.mp hj).1
    have e4 : S4[S1.length]? = some (.lst ys) := f4.at e2
    have n4 := (List.getElem?_eq_some_iff.mp e4).1
    refine ⟨ys, e4, fits_of (by omega), (f2.trans f4).set _ (Nat.le_refl _), ys ++ [y], by rw [List.getElem?_set_self n4], by simp [l2], ?_⟩
    intro i z ez
    refine pm2 ?_
    by_cases hi : i < ys.length
    · rw [List.getElem?_append_left hi] at ez
      exact pm f4 (p2 i z ez)
    · have : i = ys.length := by
        have := (List.getElem?_eq_some_iff.mp ez).1
        simp at this
        omega
      subst this
      simp at ez
      subst ez
      rw [l2]
      exact py
  obtain ⟨S', e, f2, ys, e2, l2, p2⟩ := key
  rw [Nat.zero_add] at *
  exact ⟨S', e, q S' ys f2 e2 l2 p2⟩
end Lay

set_option Elab.async false
set_option linter.all false
set_option maxRecDepth 100000
set_option maxHeartbeats 4000000
/-! the pure law: numbers -/
namespace Lay
namespace Kk12
open PySem PySem.Spec PyProof.Rows L2
open Classical
/-- Euclid -/
theorem divisor_ok (a b : Nat) (S : Store) : g_divisor [.int a, .int b] S = .ok (.int (Nat.gcd a b : Nat)) S := by
  refine eq_of (wp_fn rfl ?_)
  rw [w_seq]
  refine wp_while (fun n sd S' => ∃ x y : Nat, sd = [some (.int x), some (.int y)] ∧ S' = S ∧ n = y ∧ Nat.gcd x y = Nat.gcd a b) ?_ b _ _ ⟨a, b, rfl, rfl, rfl, rfl⟩
  rintro n sd S' ⟨x, y, rfl, rfl, rfl, hg⟩
  simp
  rcases Nat.eq_zero_or_pos n with h | h
  · left; subst h; exact ⟨rfl, by rw [← hg, Nat.gcd_zero_right]⟩
  · exact .inr ⟨by omega, h, x % n, Nat.mod_lt _ h, n, x % n, ⟨rfl, by simp⟩, rfl, by rw [← hg, Nat.gcd_comm, ← Nat.gcd_rec, Nat.gcd_comm]⟩
/-- in lowest terms, the base above 0 -/
def gN (top base : Int) : Nat := top.natAbs.gcd base.natAbs
def lowD (top base : Int) : D := if 0 < base then .tup [.int (top / (gN top base : Nat)), .int (base / (gN top base : Nat))] else .tup [.int (-(top / (gN top base : Nat))), .int (-(base / (gN top base : Nat)))]
theorem gcd_pos {top base : Int} (h : base ≠ 0) : 0 < (gN top base : Int) := by
  have : gN top base ≠ 0 := fun e => h (Int.natAbs_eq_zero.mp (Nat.gcd_eq_zero_iff.mp e).2)
  omega
theorem gcd_bd {top base : Int} {n : Nat} (h : base ≠ 0) (hb : Bd n base) : Bd n (gN top base : Nat) := by
  unfold Bd at *
  have h1 : gN top base ∣ base.natAbs := Nat.gcd_dvd_right _ _
  have h2 := Nat.le_of_dvd (by omega) h1
  rw [Int.natAbs_natCast]
  omega
theorem dvd_top (top base : Int) : (gN top base : Int) ∣ top := Int.ofNat_dvd_left.mpr (Nat.gcd_dvd_left _ _)
theorem dvd_base (top base : Int) : (gN top base : Int) ∣ base := Int.ofNat_dvd_left.mpr (Nat.gcd_dvd_right _ _)
theorem lowest_ok {top base : Int} (S : Store) (h0 : base ≠ 0) (ht : Bd 8000 top) (hb : Bd 8000 base) : g_lowest [.int top, .int base] S = .ok (lowD top base) S := by
  refine eq_of (wp_fn rfl ?_)
  have hg := gcd_pos (top := top) h0
  have hgb := gcd_bd (top := top) h0 hb
  have hd : ∀ x : Int, divFits x (gN top base : Nat) = true := fun x => divFits_of hgb hg
  have m1 : mulFits (-1) top = true := mulFits_of bdm1 ht
  have m2 : mulFits (-1) base = true := mulFits_of bdm1 hb
  have m3 : mulFits 1 top = true := mulFits_of bd1 ht
  have m4 : mulFits 1 base = true := mulFits_of bd1 hb
  simp [startD, N_lowest, abs_nat, divisor_ok, m1, m2, m3, m4, show top.natAbs.gcd base.natAbs = gN top base from rfl, hd]
  by_cases h : 0 < base
  · right
    exact ⟨h, rfl, by unfold lowD; rw [if_pos h]⟩
  · left
    exact ⟨by omega, rfl, by unfold lowD; rw [if_neg h, Int.neg_ediv_of_dvd (dvd_top top base), Int.neg_ediv_of_dvd (dvd_base top base)]⟩
theorem law_low_ok {top base : Int} (S : Store) (h0 : base ≠ 0) (ht : Bd 8000 top) (hb : Bd 8000 base) : g__law_low [.int top, .int base] S = .ok (lowD top base) S := by
  refine eq_of (wp_fn rfl ?_)
  have hg := gcd_pos (top := top) h0
  have hgb := gcd_bd (top := top) h0 hb
  have hd : ∀ x : Int, divFits x (gN top base : Nat) = true := fun x => divFits_of hgb hg
  have m1 : mulFits (-1) top = true := mulFits_of bdm1 ht
  have m2 : mulFits (-1) base = true := mulFits_of bdm1 hb
  have m3 : mulFits 1 top = true := mulFits_of bd1 ht
  have m4 : mulFits 1 base = true := mulFits_of bd1 hb
  simp [startD, N__law_low, abs_nat]
  refine wp_while (fun n sd S' => ∃ x y : Nat, sd = [some (.int top), some (.int base), none, some (.int x), some (.int y)] ∧ S' = S ∧ n = y ∧ Nat.gcd x y = gN top base) ?_ base.natAbs _ _ ⟨top.natAbs, base.natAbs, rfl, rfl, rfl, rfl⟩
  rintro n sd S' ⟨x, y, rfl, rfl, rfl, hgx⟩
  simp
  rcases Nat.eq_zero_or_pos n with h | h
  · left
    subst h
    rw [Nat.gcd_zero_right] at hgx
    subst hgx
    refine ⟨rfl, ?_⟩
    by_cases hp : 0 < base
    · right
      simp [hp, m3, m4, hd, fits_of]
      unfold lowD; rw [if_pos hp]
    · left
      refine ⟨by omega, ?_⟩
      simp [m1, m2, hd, fits_of]
      unfold lowD; rw [if_neg hp, Int.neg_ediv_of_dvd (dvd_top top base), Int.neg_ediv_of_dvd (dvd_base top base)]
  · exact .inr ⟨by omega, h, x % n, Nat.mod_lt _ h, n, x % n, ⟨rfl, by simp⟩, rfl, by rw [← hgx, Nat.gcd_comm, ← Nat.gcd_rec, Nat.gcd_comm]⟩
/-! ### kinds -/
theorem is_integer_ok {d : D} {S : Store} (h : (kd d S).isSome = true) : g_is_integer [d] S = .ok (.bl (isI d)) S := by
  refine eq_of (wp_fn rfl ?_)
  obtain ⟨k, hk⟩ := Option.isSome_iff_exists.mp h
  cases d with
  | ref n => rcases kd_ref hk with rfl | rfl <;> simp [startD, N_is_integer, hk, subD, isI]
  | _ => simp [startD, N_is_integer, subD, isI]
theorem whole_ok {d : D} {S : Store} (h : (kd d S).isSome = true) : g__law_whole [d] S = .ok (.bl (isI d)) S := by
  refine eq_of (wp_fn rfl ?_)
  obtain ⟨k, hk⟩ := Option.isSome_iff_exists.mp h
  cases d with
  | ref n => rcases kd_ref hk with rfl | rfl <;> simp [startD, N__law_whole, hk, subD, isI]
  | _ => simp [startD, N__law_whole, subD, isI]
/-- is it a number in lowest terms? -/
def isN : D → Bool
  | .tup [.int a, .int b] => decide (0 < b) && decide (gN a b = 1)
  | _ => false
theorem div_self (i : Int) {j : Int} (h : 0 < j) : (j / (gN i j : Int) = j) = (gN i j = 1) := by
  obtain ⟨q, e⟩ := dvd_base i j
  have hg := gcd_pos (top := i) (show j ≠ 0 by omega)
  apply propext
  generalize gN i j = g at *
  constructor
  · intro h1
    have h2 : j / (g : Int) = q := by
      rw [e]; exact Int.mul_ediv_cancel_left _ (by omega)
    rw [h2] at h1
    rw [← h1] at e
    have hq : 0 < q := by rw [h1]; exact h
    have h3 : (g : Int) * q = 1 * q := by rw [Int.one_mul]; exact e.symm
    have h4 := Int.eq_of_mul_eq_mul_right (by omega) h3
    omega
  · intro h1
    rw [h1]; simp
def isT (n : Int) : D → Bool
  | .tup ds => decide ((ds.length : Int) = n)
  | _ => false
theorem is_tuple_ok {d : D} {S : Store} {n : Int} (h : (kd d S).isSome = true) : g_is_tuple [d, .int n] S = .ok (.bl (isT n d)) S := by
  refine eq_of (wp_fn rfl ?_)
  obtain ⟨k, hk⟩ := Option.isSome_iff_exists.mp h
  cases d with
  | ref n => rcases kd_ref hk with rfl | rfl <;> simp [startD, N_is_tuple, hk, subD, isT]
  | tup ds => simp [startD, N_is_tuple, subD, isT]
  | _ => simp [startD, N_is_tuple, subD, isT]
theorem good_item {S : Store} {k : Nat} {ds : List D} {d : D} (h : good S k (.tup ds)) (hd : d ∈ ds) : ∃ j, k = j + 1 ∧ good S j d := by
  cases k with
  | zero => simp [good] at h
  | succ k =>
    simp only [good] at h
    exact ⟨k, rfl, h.2 d hd⟩
theorem isT2_inv {d : D} (h : isT 2 d = true) : ∃ x y, d = .tup [x, y] := by
  cases d with
  | tup ds =>
    rcases ds with _ | ⟨x, _ | ⟨y, _ | ⟨z, r⟩⟩⟩ <;> first
      | exact ⟨_, _, rfl⟩
      | (simp [isT] at h; omega)
      | simp [isT] at h
  | _ => simp [isT] at h
theorem isN_not {d : D} (h : isT 2 d = false) : isN d = false := by
  cases d with
  | tup ds =>
    rcases ds with _ | ⟨x, _ | ⟨y, _ | ⟨z, r⟩⟩⟩ <;> first
      | rfl
      | (cases x <;> rfl)
      | (simp [isT] at h; done)
      | (cases x <;> cases y <;> rfl)
  | _ => rfl
theorem is_number_ok {d : D} {S : Store} {k : Nat} (h : good S k d) : g_is_number [d] S = .ok (.bl (isN d)) S := by
  refine eq_of (wp_fn rfl ?_)
  simp [startD, N_is_number, is_tuple_ok (good_kd h)]
  by_cases h2 : isT 2 d = true
  · obtain ⟨x, y, rfl⟩ := isT2_inv h2
    obtain ⟨j, rfl, gx⟩ := good_item h (d := x) (by simp)
    obtain ⟨j', e, gy⟩ := good_item h (d := y) (by simp)
    simp [h2, is_integer_ok (good_kd gx), is_integer_ok (good_kd gy)]
    cases x with
    | int i =>
      cases y with
      | int j =>
        simp [isI, isN]
        by_cases hj : 0 < j
        · obtain ⟨m, rfl⟩ := Int.eq_ofNat_of_zero_le (show 0 ≤ j by omega)
          right
          have e : gN i (m : Int) = i.natAbs.gcd m := rfl
          simp [hj, abs_nat, divisor_ok, e]
          have hm : 0 < m := by omega
          exact ⟨hm, by simp [hm]; omega⟩
        · left
          exact ⟨by omega, fun z => absurd z hj⟩
      | _ => simp [isI, isN]
    | _ => simp [isI, isN]
  · have h2' : isT 2 d = false := by simpa using h2
    simp [h2', isN_not h2']
theorem wp_eqP {a b c d : Int} {S : Store} {Q : D → Store → Prop} : wpP (pEq (.tup [.int a, .int b]) (.tup [.int c, .int d]) S) Q = Q (.bl (decide (a = c ∧ b = d))) S := by
  have e : pEqB (.tup [.int a, .int b]) (.tup [.int c, .int d]) S = some (decide (a = c ∧ b = d)) := by
    have t : ∀ x y : Int, toPy S 140 (.tup [.int x, .int y]) = some (.tuple [.int x, .int y]) := fun x y => by simp [toPy, toPys]
    have s : ∀ x y : Int, SeqAt.shaped (.tuple [.int x, .int y]) = true := fun x y => by simp [SeqAt.shaped, PyData.canLay0, PyData.canLayAll0, PyData.depth, PyData.depthAll]
    unfold pEqB
    rw [t, t]
    simp only [s, Bool.and_self, if_true]
    congr 1
    simp [PyData.eqv, PyData.eqvAll]
    by_cases h1 : a = c <;> by_cases h2 : b = d <;> simp [h1, h2]
  unfold pEq; rw [e]; rfl
theorem low_self {i j : Int} (h : 0 < j) : (lowD i j = .tup [.int i, .int j]) ↔ gN i j = 1 := by
  unfold lowD
  rw [if_pos h]
  constructor
  · intro e
    injection e with e
    injection e with e1 e2
    injection e2 with e2 e3
    injection e2 with e2
    rw [div_self i h] at e2
    exact e2
  · intro e
    rw [e]; simp
theorem lowT {i j : Int} (h : 0 < j) : lowD i j = .tup [.int (i / (gN i j : Nat)), .int (j / (gN i j : Nat))] := by unfold lowD; rw [if_pos h]
theorem law_is_number_ok {d : D} {S : Store} {k : Nat} (h : good S k d) : g__law_is_number [d] S = .ok (.bl (isN d)) S := by
  refine eq_of (wp_fn rfl ?_)
  simp [startD, N__law_is_number]
  obtain ⟨kk, hk⟩ := Option.isSome_iff_exists.mp (good_kd h)
  cases d with
  | ref n => rcases kd_ref hk with rfl | rfl <;> simp [hk, subD, isN]
  | tup ds =>
    simp [subD]
    rcases ds with _ | ⟨x, _ | ⟨y, _ | ⟨z, r⟩⟩⟩
    · simp [isN]
    · simp [isN]
    · obtain ⟨j, rfl, gx⟩ := good_item h (d := x) (by simp)
      obtain ⟨j', e, gy⟩ := good_item h (d := y) (by simp)
      simp [whole_ok (good_kd gx), whole_ok (good_kd gy)]
      cases x with
      | int i =>
        cases y with
        | int j =>
          simp [isI, isN]
          by_cases j0 : 0 < j
          · left
            have gy' : Bd 1000 j := by cases j' <;> simpa [good] using gy
            have gx' : Bd 1000 i := by cases j' <;> (cases e; simpa [good] using gx)
            have jn : j ≠ 0 := by omega
            rw [law_low_ok S jn (gx'.mono (by decide)) (gy'.mono (by decide)), lowT j0]
            simp [j0, wp_eqP]
            have := low_self (i := i) j0
            rw [lowT j0] at this
            simp at this
            refine ⟨by omega, ?_⟩
            rw [← Bool.decide_and]
            exact decide_eq_decide.mpr this
          · right; exact ⟨by omega, fun z => absurd z j0⟩
        | _ => simp [isI, isN]
      | _ => simp [isI, isN]
    · simp [isN]
      omega
  | _ => simp [subD, isN]
/-! ### sums, products -/
section
variable {a b c d : Int} {S : Store} (hb : 0 < b) (hd : 0 < d) (ba : Bd 3500 a) (bb : Bd 3500 b) (bc : Bd 3500 c) (bd : Bd 3500 d)
include hb hd ba bb bc bd
theorem sum_ok : g_sum_of [.tup [.int a, .int b], .tup [.int c, .int d]] S = .ok (lowD (a * d + c * b) (b * d)) S := by
  refine eq_of (wp_fn rfl ?_)
  have h0 : b * d ≠ 0 := Int.ne_of_gt (Int.mul_pos hb hd)
  simp [startD, N_sum_of, mulFits_of ba bd, mulFits_of bc bb, mulFits_of bb bd, lowest_ok S h0 (((ba.mul bd).add (bc.mul bb)).mono (by decide)) ((bb.mul bd).mono (by decide))]
theorem product_ok : g_product_of [.tup [.int a, .int b], .tup [.int c, .int d]] S = .ok (lowD (a * c) (b * d)) S := by
  refine eq_of (wp_fn rfl ?_)
  have h0 : b * d ≠ 0 := Int.ne_of_gt (Int.mul_pos hb hd)
  simp [startD, N_product_of, mulFits_of ba bc, mulFits_of bb bd, lowest_ok S h0 ((ba.mul bc).mono (by decide)) ((bb.mul bd).mono (by decide))]
theorem plus_ok : g__law_plus [.tup [.int a, .int b], .tup [.int c, .int d]] S = .ok (lowD (a * d + c * b) (b * d)) S := by
  refine eq_of (wp_fn rfl ?_)
  have h0 : b * d ≠ 0 := Int.ne_of_gt (Int.mul_pos hb hd)
  simp [startD, N__law_plus, mulFits_of ba bd, mulFits_of bc bb, mulFits_of bb bd, law_low_ok S h0 (((ba.mul bd).add (bc.mul bb)).mono (by decide)) ((bb.mul bd).mono (by decide))]
end
end Kk12
end Lay

set_option Elab.async false
set_option linter.all false
set_option maxRecDepth 100000
set_option maxHeartbeats 4000000
/-! the pure law: told rows, systems -/
namespace Lay
namespace Kk12
open PySem PySem.Spec PyProof.Rows L2
open Classical
@[simp] theorem v_true {sd : SD} {S : Store} {Q : Bool → Store → Prop} {E : Ex → Store → Prop} : wpR (bTrue sd S) Q E = Q true S := nr rfl
def nz : D → Bool
  | .int i => !decide (i = 0)
  | _ => true
/-- a told row over n places -/
def isTold (n : Int) : D → Bool
  | .tup ds => decide ((ds.length : Int) = n + 1) && (ds.all isI && ds.any nz)
  | _ => false
theorem good_len {S : Store} {k : Nat} {ds : List D} (h : good S k (.tup ds)) : ds.length ≤ 400 ∧ ∀ d ∈ ds, good S k d := by
  cases k with
  | zero => simp [good] at h
  | succ k =>
    simp only [good] at h
    exact ⟨h.1, fun d hd => good_mono (h.2 d hd) (Nat.le_succ _)⟩
theorem filt_true (l : List D) (f : D → D) : (l.filter fun _ => true).map f = l.map f := by
  rw [List.filter_eq_self.mpr fun _ _ => rfl]
theorem told_k {d : D} {n : Int} {S : Store} {k : Nat} {Q : D → Store → Prop} {E : Ex → Store → Prop} (h : good S k d) (kk : ∀ S', Fr S S' → Q (.bl (isTold n d)) S') : wpR (g_is_told [d, .int n] S) Q E := by
  refine wp_fn rfl ?_
  simp [startD, N_is_told, is_tuple_ok (good_kd h)]
  by_cases ht : isT (n + 1) d = true
  · obtain ⟨ds, rfl⟩ : ∃ ds, d = .tup ds := by cases d <;> simp [isT] at ht; exact ⟨_, rfl⟩
    have hl : (ds.length : Int) = n + 1 := by simpa [isT] using ht
    obtain ⟨l4, hg⟩ := good_len h
    right
    refine ⟨ht, ?_⟩
    refine lc_tup (vals := ds) (fun _ => true) (fun x => .bl (isI x)) rfl (by omega) (fun x hx S1 f1 => ?_) (fun m S1 hm f1 e1 => ?_)
    · simp [wipeD, is_integer_ok (good_kd (good_fr f1 (hg x hx)))]
      exact Fr.refl
    · rw [filt_true] at e1
      rw [wp_all (bs := ds.map isI) (rdL_lst (by rw [e1, List.map_map]; rfl))]
      by_cases ha : ds.all isI = true
      · have e2 : ((ds.map isI).all id) = true := by rw [List.all_map]; simpa using ha
        simp [e2]
        refine lc_tup (vals := ds) (fun _ => true) (fun x => .bl (nz x)) rfl (by omega) (fun x hx S2 f2 => ?_) (fun m2 S2 hm2 f2 e3 => ?_)
        · obtain ⟨i, rfl⟩ : ∃ i, x = .int i := by
            have := List.all_eq_true.mp ha x hx
            cases x <;> simp [isI] at this
            exact ⟨_, rfl⟩
          simp [wipeD, nz]
          exact Fr.refl
        · rw [filt_true] at e3
          rw [wp_any (bs := ds.map nz) (rdL_lst (by rw [e3, List.map_map]; rfl))]
          have : ((ds.map nz).any id) = isTold n (.tup ds) := by
            rw [List.any_map]
            simp [isTold, hl, ha]
          rw [this]
          exact kk S2 (f1.trans f2)
      · have e2 : ((ds.map isI).all id) = false := by
          rw [List.all_map]
          simpa using ha
        simp [e2]
        have : isTold n (.tup ds) = false := by simp [isTold, ha]
        rw [← this]
        exact kk S1 f1
  · left
    refine ⟨by simpa using ht, ?_⟩
    have : isTold n d = false := by
      cases d with
      | tup ds =>
        have hne : ¬ (ds.length : Int) = n + 1 := by simpa [isT] using ht
        simp [isTold, hne]
      | _ => rfl
    rw [← this]
    exact kk S Fr.refl
def isRows (n : Int) : D → Bool
  | .tup ds => decide (ds.length ≤ 120) && ds.all (isTold n)
  | _ => false
def isSys : D → Bool
  | .tup [.int n, a, b] => decide (0 ≤ n ∧ n ≤ 80) && (isRows n a && isRows n b)
  | _ => false
theorem rows_k {d : D} {n : Int} {S : Store} {k : Nat} {Q : D → Store → Prop} {E : Ex → Store → Prop} (h : good S k d) (kk : ∀ S', Fr S S' → Q (.bl (isRows n d)) S') : wpR (g_are_rows_of [d, .int n] S) Q E := by
  refine wp_fn rfl ?_
  obtain ⟨kn, hk⟩ := Option.isSome_iff_exists.mp (good_kd h)
  cases d with
  | tup ds =>
    obtain ⟨l4, hg⟩ := good_len h
    simp [startD, N_are_rows_of, subD, c_MOST_ROWS]
    by_cases hl : ds.length ≤ 120
    · left
      refine ⟨by omega, ?_⟩
      refine lc_tup (vals := ds) (fun _ => true) (fun x => .bl (isTold n x)) rfl (by omega) (fun x hx S1 f1 => ?_) (fun m S1 hm f1 e1 => ?_)
      · simp [wipeD]
        refine ⟨Fr.refl, ?_⟩
        refine told_k (good_fr f1 (hg x hx)) fun S2 f2 => ?_
        exact ⟨rfl, f2⟩
      · rw [filt_true] at e1
        rw [wp_all (bs := ds.map (isTold n)) (rdL_lst (by rw [e1, List.map_map]; rfl))]
        have : ((ds.map (isTold n)).all id) = isRows n (.tup ds) := by
          rw [List.all_map]
          simp [isRows, hl]
        rw [this]
        exact kk S1 f1
    · right
      refine ⟨by omega, ?_⟩
      have : isRows n (.tup ds) = false := by simp [isRows]; omega
      rw [← this]
      exact kk S Fr.refl
  | ref m =>
    have : isRows n (.ref m) = false := rfl
    rw [this] at kk
    rcases kd_ref hk with rfl | rfl <;> simp [startD, N_are_rows_of, hk, subD] <;> exact kk S Fr.refl
  | _ =>
    simp [startD, N_are_rows_of, subD]
    exact kk S Fr.refl
theorem between_ok {d : D} {S : Store} (h : (kd d S).isSome = true) : g_is_between [d, .int 0, .int 80] S = .ok (.bl (match d with
    | .int n => decide (0 ≤ n ∧ n ≤ 80)
    | _ => false)) S := by
  refine eq_of (wp_fn rfl ?_)
  simp [startD, N_is_between, is_integer_ok h]
  cases d with
  | int n =>
    simp [isI]
    by_cases h0 : 0 ≤ n <;> simp [h0]
  | _ => simp [isI]
theorem isT3_inv {d : D} (h : isT 3 d = true) : ∃ x y z, d = .tup [x, y, z] := by
  cases d with
  | tup ds =>
    rcases ds with _ | ⟨x, _ | ⟨y, _ | ⟨z, _ | ⟨u, r⟩⟩⟩⟩ <;> first
      | exact ⟨_, _, _, rfl⟩
      | (simp [isT] at h; omega)
      | simp [isT] at h
  | _ => simp [isT] at h
theorem isSys_not {d : D} (h : isT 3 d = false) : isSys d = false := by
  cases d with
  | tup ds =>
    rcases ds with _ | ⟨x, _ | ⟨y, _ | ⟨z, _ | ⟨u, r⟩⟩⟩⟩ <;> first
      | rfl
      | (cases x <;> rfl)
      | (simp [isT] at h; done)
  | _ => rfl
theorem system_k {d : D} {S : Store} {k : Nat} {Q : D → Store → Prop} {E : Ex → Store → Prop} (h : good S k d) (kk : ∀ S', Fr S S' → Q (.bl (isSys d)) S') : wpR (g_is_system [d] S) Q E := by
  refine wp_fn rfl ?_
  simp [startD, N_is_system, is_tuple_ok (good_kd h), c_MOST_PLACES]
  by_cases ht : isT 3 d = true
  · right
    refine ⟨ht, ?_⟩
    obtain ⟨x, y, z, rfl⟩ := isT3_inv ht
    obtain ⟨_, hg⟩ := good_len h
    have gx := hg x (by simp)
    have gy := hg y (by simp)
    have gz := hg z (by simp)
    simp [between_ok (good_kd gx)]
    cases x with
    | int n =>
      simp
      by_cases hn : 0 ≤ n ∧ n ≤ 80
      · simp [hn]
        right
        refine rows_k gy fun S1 f1 => ?_
        cases hy : isRows n y with
        | false =>
          simp
          have : isSys (.tup [.int n, y, z]) = false := by simp [isSys, hy]
          rw [← this]
          exact kk S1 f1
        | true =>
          simp
          refine rows_k (good_fr f1 gz) fun S2 f2 => ?_
          have : isRows n z = isSys (.tup [.int n, y, z]) := by simp [isSys, hy, hn]
          rw [this]
          exact kk S2 (f1.trans f2)
      · have : isSys (.tup [.int n, y, z]) = false := by simp [isSys, hn]
        rw [this] at kk
        have hn' : (decide (0 ≤ n) && decide (n ≤ 80)) = false := by
          rw [← Bool.decide_and]; exact decide_eq_false hn
        simp [hn]
        exact ⟨by omega, kk S Fr.refl⟩
    | _ =>
      simp
      exact kk S Fr.refl
  · left
    refine ⟨by simpa using ht, ?_⟩
    rw [← isSys_not (by simpa using ht)]
    exact kk S Fr.refl
end Kk12
end Lay

set_option Elab.async false
set_option linter.all false
set_option maxRecDepth 100000
set_option maxHeartbeats 4000000
/-! the pure law: the law's own judging -/
namespace Lay
namespace Kk12
open PySem PySem.Spec PyProof.Rows L2
open Classical
theorem ones_pd (l : List D) (p : D → Bool) : ∀ d ∈ (l.filter p).map fun _ => D.int 1, PD 0 d := fun d hd => by
  obtain ⟨_, _, rfl⟩ := List.mem_map.mp hd
  exact .int _
theorem ones_nil (l : List D) (p : D → Bool) : ((l.filter p).map fun _ => D.int 1).isEmpty = !l.any p := by
  induction l with
  | nil => rfl
  | cons x l ih =>
    cases hp : p x with
    | true => simp [hp]
    | false => simpa [hp] using ih
theorem ltold_k {d : D} {n : Int} {S : Store} {k : Nat} {Q : D → Store → Prop} {E : Ex → Store → Prop} (h : good S k d) (kk : ∀ S', Fr S S' → Q (.bl (isTold n d)) S') : wpR (g__law_is_told [d, .int n] S) Q E := by
  refine wp_fn rfl ?_
  have f0 : fits 0 = true := by decide
  obtain ⟨kn, hk⟩ := Option.isSome_iff_exists.mp (good_kd h)
  cases d with
  | tup ds =>
    obtain ⟨l4, hg⟩ := good_len h
    simp [startD, N__law_is_told, subD]
    by_cases hl : (ds.length : Int) = n + 1
    · left
      refine ⟨hl, ?_⟩
      refine lc_tup (vals := ds) (fun x => !isI x) (fun x => .int 1) rfl (by omega) (fun x hx S1 f1 => ?_) (fun m S1 hm f1 e1 => ?_)
      · simp [wipeD, whole_ok (good_kd (good_fr f1 (hg x hx)))]
        cases isI x <;> simp <;> exact Fr.refl
      · simp only [f0, true_and]
        rw [wp_nel (rdL_lst ((Fr.app _).at e1)) (rdL_lst (last_at _ _)) (ones_pd _ _), ones_nil]
        by_cases ha : ds.all isI = true
        · have e2 : (ds.any fun x => !isI x) = false := by
            rw [Bool.eq_false_iff]
            intro z
            obtain ⟨x, hx, hy⟩ := List.any_eq_true.mp z
            rw [List.all_eq_true.mp ha x hx] at hy
            cases hy
          simp [e2]
          refine lc_tup (vals := ds) nz (fun x => .int 1) rfl (by omega) (fun x hx S2 f2 => ?_) (fun m2 S2 hm2 f2 e3 => ?_)
          · obtain ⟨i, rfl⟩ : ∃ i, x = .int i := by
              have := List.all_eq_true.mp ha x hx
              cases x <;> simp [isI] at this
              exact ⟨_, rfl⟩
            simp [wipeD, nz]
            by_cases hi : i = 0
            · exact .inl ⟨hi, Fr.refl, fun _ => Fr.refl⟩
            · exact .inr ⟨hi, Fr.refl, fun _ => Fr.refl⟩
          · rw [wp_nel (rdL_lst ((Fr.app _).at e3)) (rdL_lst (last_at _ _)) (ones_pd _ _), ones_nil]
            have : (!!ds.any nz) = isTold n (.tup ds) := by simp [isTold, hl, ha]
            rw [this]
            exact kk _ (f1.trans ((Fr.app _).trans (f2.trans (Fr.app _))))
        · have e2 : (ds.any fun x => !isI x) = true := by
            rw [Bool.not_eq_true] at ha
            rw [List.any_eq_true]
            rw [List.all_eq_false] at ha
            obtain ⟨x, hx, hy⟩ := ha
            exact ⟨x, hx, by simpa using hy⟩
          simp [e2]
          have : isTold n (.tup ds) = false := by simp [isTold, ha]
          rw [← this]
          exact kk _ (f1.trans (Fr.app _))
    · right
      refine ⟨hl, ?_⟩
      have : isTold n (.tup ds) = false := by simp [isTold, hl]
      rw [← this]
      exact kk S Fr.refl
  | ref m =>
    have : isTold n (.ref m) = false := rfl
    rw [this] at kk
    rcases kd_ref hk with rfl | rfl <;> simp [startD, N__law_is_told, hk, subD] <;> exact kk S Fr.refl
  | _ =>
    simp [startD, N__law_is_told, subD]
    exact kk S Fr.refl
theorem wp_slT {ds : List D} {lo hi : Option Int} {S : Store} {Q : D → Store → Prop} : wpP (pSl (.tup ds) lo hi S) Q = Q (.tup (cutD ds lo hi)) S := nr rfl
theorem cut_tail (x y z : D) : cutD [x, y, z] (some 1) none = [y, z] := rfl
/-- one turn: the rows are judged -/
theorem lrows_step {y : D} {n : Int} {S : Store} {k : Nat} {sd : SD} {P : Ps} {b c : D} (h : good S k y) (h0 : sd[0]? = some (some (.tup [.int n, b, c]))) (h1 : sd[1]? = some (some y)) (hs : 2 < sd.length)
    (q : ∀ S', Fr S S' → if isRows n y = true then P.n sd S' else P.r (.bl false) S') :
    wpS (sIf (bOr (bNot (eTru (eIsi Tb [.ty "tuple"] (eVar 1)))) (bOr (asB (eBin pGt (eCallB pLen (aCons (eVar 1) aNil)) (eC (.int 120)))) (asB (eBin pNe (lockE 1 (eLc (itSeqK (eVar 1)) (gNm 2) (bNot (eTru (eCall g__law_is_told (aCons (eVar 2) (aCons (eBin pIx (eVar 0) (eC (.int 0))) aNil))))) (eC (.int 1)) [2])) (eLst aNil))))) (sRet (eC (.bl false))) sNext sd S) P := by
  have f0 : fits 0 = true := by decide
  obtain ⟨kn, hk⟩ := Option.isSome_iff_exists.mp (good_kd h)
  cases y with
  | tup ds =>
    obtain ⟨l4, hg⟩ := good_len h
    simp [h1, subD]
    by_cases hl : ds.length ≤ 120
    · left
      refine ⟨by omega, ?_⟩
      refine lc_tup (vals := ds) (fun x => !isTold n x) (fun x => .int 1) h1 (by omega) (fun x hx S1 f1 => ?_) (fun m S1 hm f1 e1 => ?_)
      · have e0 : ((wipeD sd [2]).set 2 (some x))[0]? = some (some (.tup [.int n, b, c])) := by
          rw [List.getElem?_set_ne (by decide)]
          show ((wipeD sd []).set 2 none)[0]? = _
          rw [List.getElem?_set_ne (by decide)]
          exact h0
        have e2 : ((wipeD sd [2]).set 2 (some x))[2]? = some (some x) := by
          rw [List.getElem?_set_self]
          show 2 < ((wipeD sd []).set 2 none).length
          rw [List.length_set]
          exact hs
        simp only [v_bnot, v_tru, v_call, v_cons, v_nil, wpR_var, v_bin, v_c, wpR_c]
        refine ⟨x, e2, _, e0, ?_⟩
        simp
        refine ltold_k (good_fr f1 (hg x hx)) fun S2 f2 => ?_
        cases isTold n x <;> simp <;> first
          | exact f2
          | exact ⟨f2, Fr.refl⟩
      · simp only [f0, true_and]
        rw [wp_nel (rdL_lst ((Fr.app _).at e1)) (rdL_lst (last_at _ _)) (ones_pd _ _), ones_nil]
        have q' := q _ (f1.trans (Fr.app [SO.lst []]))
        have e2 : isRows n (.tup ds) = !(ds.any fun x => !isTold n x) := by
          simp [isRows, hl]
          rw [List.not_any_eq_all_not]
          simp
        rw [e2] at q'
        cases hz : (ds.any fun x => !isTold n x) <;> simp [hz] at q' ⊢ <;> exact q'
    · right
      refine ⟨by omega, ?_⟩
      have q' := q S Fr.refl
      have : isRows n (.tup ds) = false := by simp [isRows]; omega
      rw [this] at q'
      simpa using q'
  | ref m =>
    have q' := q S Fr.refl
    have : isRows n (.ref m) = false := rfl
    rw [this] at q'
    rcases kd_ref hk with rfl | rfl <;> simp [h1, hk, subD] <;> simpa using q'
  | _ =>
    have q' := q S Fr.refl
    simp [isRows] at q'
    simp [h1, subD]
    exact q'
theorem lsystem_k {d : D} {S : Store} {k : Nat} {Q : D → Store → Prop} {E : Ex → Store → Prop} (h : good S k d) (kk : ∀ S', Fr S S' → Q (.bl (isSys d)) S') : wpR (g__law_is_system [d] S) Q E := by
  refine wp_fn rfl ?_
  obtain ⟨kn, hk⟩ := Option.isSome_iff_exists.mp (good_kd h)
  by_cases ht : isT 3 d = true
  · obtain ⟨x, y, z, rfl⟩ := isT3_inv ht
    obtain ⟨_, hg⟩ := good_len h
    have gx := hg x (by simp)
    have gy := hg y (by simp)
    have gz := hg z (by simp)
    simp [startD, N__law_is_system, subD, whole_ok (good_kd gx)]
    cases x with
    | int n =>
      by_cases hn : 0 ≤ n ∧ n ≤ 80
      · simp [isI, hn]
        rw [wp_slT, cut_tail, seqQ_tup, w_forCons]
        refine ⟨trivial, _, rfl, ?_⟩
        refine lrows_step gy rfl rfl (by simp) fun S1 f1 => ?_
        cases hy : isRows n y with
        | false =>
          have : isSys (.tup [.int n, y, z]) = false := by simp [isSys, hy]
          rw [this] at kk
          exact kk S1 f1
        | true =>
          simp only [if_true]
          rw [w_forCons]
          refine ⟨trivial, _, rfl, ?_⟩
          refine lrows_step (good_fr f1 gz) rfl rfl (by simp) fun S2 f2 => ?_
          have : isRows n z = isSys (.tup [.int n, y, z]) := by simp [isSys, hy, hn]
          have kk2 := kk S2 (f1.trans f2)
          rw [← this] at kk2
          cases hz : isRows n z with
          | false => rw [hz] at kk2; exact kk2
          | true =>
            rw [hz] at kk2
            simp only [if_true]
            rw [w_forNil]
            exact ⟨trivial, kk2⟩
      · have : isSys (.tup [.int n, y, z]) = false := by simp [isSys, hn]
        rw [this] at kk
        simp [isI]
        by_cases h0 : 0 ≤ n
        · simp [h0]
          left
          exact ⟨by omega, kk S Fr.refl⟩
        · simp [h0]
          exact kk S Fr.refl
    | _ =>
      simp [isI]
      exact kk S Fr.refl
  · have h3 : isT 3 d = false := by simpa using ht
    rw [isSys_not h3] at kk
    cases d with
    | tup ds =>
      have hl : ¬ (ds.length = 3) := by
        simp [isT] at h3
        omega
      simp [startD, N__law_is_system, subD]
      right
      exact ⟨by omega, kk S Fr.refl⟩
    | ref m => rcases kd_ref hk with rfl | rfl <;> simp [startD, N__law_is_system, hk, subD] <;> exact kk S Fr.refl
    | _ =>
      simp [startD, N__law_is_system, subD]
      exact kk S Fr.refl
end Kk12
end Lay

set_option Elab.async false
set_option linter.all false
set_option maxRecDepth 100000
set_option maxHeartbeats 4000000
/-! the pure law: rows divided by their greatest common factor -/
namespace Lay
namespace Kk12
open PySem PySem.Spec PyProof.Rows L2
open Classical
def iLs (ns : List Int) : List D := ns.map D.int
def gcdL : Nat → List Int → Nat
  | g, [] => g
  | g, n :: ns => gcdL (Nat.gcd g n.natAbs) ns
theorem v_seqK {i : Nat} {sd : SD} {S : Store} {ds : List D} {F : FF} {g : GD} {P : Ps} (h : sd[i]? = some (some (.tup ds))) (q : wpS (forD g F (fun _ => True) ds sd S) P) : wpS (sFor (itSeqK (eVar i)) g F sd S) P := by
  rw [w_for]
  exact it_tup h q
theorem iLs_get {ns : List Int} {j : Nat} {d : D} (h : (iLs ns)[j]? = some d) : ∃ n, ns[j]? = some n ∧ d = .int n := by
  unfold iLs at h
  rw [List.getElem?_map] at h
  obtain ⟨n, e, rfl⟩ := Option.map_eq_some_iff.mp h
  exact ⟨n, e, rfl⟩
theorem gcd_take {ns : List Int} {j : Nat} {n : Int} (h : ns[j]? = some n) : ∀ g, gcdL g (ns.take (j + 1)) = Nat.gcd (gcdL g (ns.take j)) n.natAbs := by
  have e : ns.take (j + 1) = ns.take j ++ [n] := by rw [List.take_add_one, h]; rfl
  rw [e]
  have : ∀ (l : List Int) g, gcdL g (l ++ [n]) = Nat.gcd (gcdL g l) n.natAbs := fun l => by
    induction l with
    | nil => intro g; rfl
    | cons x l ih => intro g; exact ih _
  exact this _
theorem divisor_of_ok (ns : List Int) (S : Store) : g_divisor_of [.tup (iLs ns)] S = .ok (.int (gcdL 0 ns : Nat)) S := by
  refine eq_of (wp_fn rfl ?_)
  rw [w_seq, w_set, wpR_c]
  show wpS (sSeq _ _ [some (.tup (iLs ns)), some (.int 0), none] S) _
  rw [w_seq]
  refine v_seqK rfl ?_
  refine wp_for (fun i sd S' => S' = S ∧ ∃ x, sd = [some (.tup (iLs ns)), some (.int (gcdL 0 (ns.take i) : Nat)), x]) (iLs ns) 0 _ _ ⟨rfl, none, rfl⟩ ?_ ?_
  · rintro j d sd S' hj ⟨rfl, x, rfl⟩
    obtain ⟨n, en, rfl⟩ := iLs_get hj
    refine ⟨trivial, _, rfl, ?_⟩
    simp [abs_nat, divisor_ok]
    rw [gcd_take en]
  · rintro sd S' ⟨rfl, x, rfl⟩
    refine ⟨trivial, ?_⟩
    simp [iLs]
theorem gcdL_dvd {ns : List Int} {n : Int} (h : n ∈ ns) : ∀ g, (gcdL g ns : Int) ∣ n := by
  have base : ∀ (l : List Int) g, gcdL g l ∣ g := fun l => by
    induction l with
    | nil => intro g; exact Nat.dvd_refl _
    | cons x l ih => intro g; exact Nat.dvd_trans (ih _) (Nat.gcd_dvd_left _ _)
  induction ns with
  | nil => simp at h
  | cons x l ih =>
    intro g
    rcases List.mem_cons.mp h with rfl | h
    · exact Int.ofNat_dvd_left.mpr (Nat.dvd_trans (base l _) (Nat.gcd_dvd_right _ _))
    · exact ih h _
theorem gcdL_bd {ns : List Int} {n : Int} (h : n ∈ ns) (hn : n ≠ 0) {k : Nat} (hb : Bd k n) : gcdL 0 ns ≠ 0 ∧ Bd k (gcdL 0 ns : Nat) := by
  have d := gcdL_dvd h 0
  have d' : gcdL 0 ns ∣ n.natAbs := Int.ofNat_dvd_left.mp d
  have le := Nat.le_of_dvd (by omega) d'
  refine ⟨fun e => ?_, ?_⟩
  · rw [e] at d'
    have := Nat.eq_zero_of_zero_dvd d'
    omega
  · unfold Bd at *
    rw [Int.natAbs_natCast]
    omega
def divL (ns : List Int) : List Int := ns.map fun n => n / (gcdL 0 ns : Nat)
theorem wp_tupR {n : Nat} {ds : List D} {S : Store} {Q : D → Store → Prop} (h : rdL S n = some ds) : wpP (pTuple [.ref n] S) Q = Q (.tup ds) S := by
  unfold pTuple
  simp only [h, Option.map_some]
  rfl
theorem divided_k {ns : List Int} {S : Store} {Q : D → Store → Prop} {E : Ex → Store → Prop} {n : Int} (h : n ∈ ns) (hn : n ≠ 0) (hb : Bd 1000 n) (hl : ns.length ≤ 1000) (kk : ∀ S', Fr S S' → Q (.tup (iLs (divL ns))) S') : wpR (g__law_divided [.tup (iLs ns)] S) Q E := by
  obtain ⟨g0, gb⟩ := gcdL_bd h hn hb
  refine wp_fn rfl ?_
  rw [w_seq, w_set, wpR_c]
  show wpS (sSeq _ _ [some (.tup (iLs ns)), some (.int 0), none, none, none] S) _
  rw [w_seq]
  refine v_seqK rfl ?_
  refine wp_for (fun i sd S' => S' = S ∧ ∃ x y z, sd = [some (.tup (iLs ns)), some (.int (gcdL 0 (ns.take i) : Nat)), x, y, z]) (iLs ns) 0 _ _ ⟨rfl, none, none, none, rfl⟩ ?_ ?_
  · rintro j d sd S' hj ⟨rfl, x, y, z, rfl⟩
    obtain ⟨m, en, rfl⟩ := iLs_get hj
    refine ⟨trivial, _, rfl, ?_⟩
    simp only [Nat.zero_add]
    simp [abs_nat]
    refine wp_while (fun q sd S1 => S1 = S' ∧ ∃ a b : Nat, sd = [some (.tup (iLs ns)), some (.int (gcdL 0 (ns.take j) : Nat)), some (.int m), some (.int a), some (.int b)] ∧ q = b ∧ Nat.gcd a b = Nat.gcd m.natAbs (gcdL 0 (ns.take j))) ?_ (gcdL 0 (ns.take j)) _ _ ⟨rfl, m.natAbs, gcdL 0 (ns.take j), rfl, rfl, rfl⟩
    rintro q sd S1 ⟨rfl, a, b, rfl, rfl, hg⟩
    simp
    rcases Nat.eq_zero_or_pos q with h0 | h0
    · left
      subst h0
      rw [Nat.gcd_zero_right] at hg
      refine ⟨rfl, ?_⟩
      rw [hg, gcd_take en, Nat.gcd_comm]
    · exact .inr ⟨by omega, h0, a % q, Nat.mod_lt _ h0, q, a % q, ⟨rfl, by simp⟩, rfl, by rw [← hg, Nat.gcd_comm, ← Nat.gcd_rec, Nat.gcd_comm]⟩
  · rintro sd S' ⟨rfl, x, y, z, rfl⟩
    refine ⟨trivial, ?_⟩
    have e : gcdL 0 (ns.take (0 + (iLs ns).length)) = gcdL 0 ns := by simp [iLs]
    rw [e]
    simp
    refine lc_tup (vals := iLs ns) (fun _ => true) (fun d => match d with
      | .int m => .int (m / (gcdL 0 ns : Nat))
      | d => d) rfl (by simp [iLs]; omega) (fun d hd S1 f1 => ?_) (fun m S1 hm f1 e1 => ?_)
    · obtain ⟨m, hm, rfl⟩ := List.mem_map.mp hd
      simp [wipeD, divFits_of gb (show 0 < (gcdL 0 ns : Int) by omega)]
      exact Fr.refl
    · rw [filt_true] at e1
      rw [wp_tupR (rdL_lst e1)]
      have : (iLs ns).map (fun d => match d with
        | .int m => D.int (m / (gcdL 0 ns : Nat))
        | d => d) = iLs (divL ns) := by
        unfold iLs divL
        rw [List.map_map, List.map_map]
        rfl
      rw [this]
      exact kk S1 f1
def firstN (ns : List Int) : Int := (ns.filter fun n => !decide (n = 0)).headD 0
def negL (ns : List Int) : List Int := ns.map fun n => 0 - n
theorem filt_nz (ns : List Int) : ((iLs ns).filter nz).map (fun d => d) = iLs (ns.filter fun n => !decide (n = 0)) := by
  induction ns with
  | nil => rfl
  | cons n ns ih =>
    simp only [iLs, List.map_cons, List.map_id'] at *
    by_cases h : n = 0
    · simp [h, nz, ih]
    · simp [h, nz, ih]
theorem first_ok {ns : List Int} (h : ∃ n ∈ ns, n ≠ 0) : atI (iLs (ns.filter fun n => !decide (n = 0))) 0 = some (.int (firstN ns)) ∧ firstN ns ≠ 0 := by
  unfold firstN
  cases e : ns.filter fun n => !decide (n = 0) with
  | nil =>
    obtain ⟨n, hn, h0⟩ := h
    have : n ∈ ns.filter fun n => !decide (n = 0) := List.mem_filter.mpr ⟨hn, by simp [h0]⟩
    rw [e] at this
    simp at this
  | cons a l =>
    have : a ∈ ns.filter fun n => !decide (n = 0) := by rw [e]; simp
    have h2 := (List.mem_filter.mp this).2
    exact ⟨by simp [iLs], by simpa using h2⟩
theorem div_zero {n : Int} {g : Nat} (h : (g : Int) ∣ n) (hg : g ≠ 0) : (n / (g : Int) = 0) ↔ n = 0 := by
  obtain ⟨q, rfl⟩ := h
  rw [Int.mul_ediv_cancel_left _ (by omega)]
  constructor
  · intro e; rw [e]; simp
  · intro e
    rcases Int.mul_eq_zero.mp e with z | z
    · omega
    · exact z
theorem first_div {ns : List Int} (hg : gcdL 0 ns ≠ 0) : firstN (divL ns) = firstN ns / (gcdL 0 ns : Nat) := by
  unfold firstN divL
  have dv : ∀ n ∈ ns, (gcdL 0 ns : Int) ∣ n := fun n h => gcdL_dvd h 0
  generalize gcdL 0 ns = g at *
  induction ns with
  | nil => simp
  | cons n ns ih =>
    have d := dv n (by simp)
    by_cases h : n = 0
    · subst h
      simp
      simpa using ih fun m hm => dv m (by simp [hm])
    · have : ¬ n / (g : Int) = 0 := fun e => h ((div_zero d hg).mp e)
      simp [h, this]
/-- the first number that is not 0 -/
theorem turned_k {ns : List Int} {S : Store} {Q : D → Store → Prop} {E : Ex → Store → Prop} {n : Int} (h : n ∈ ns) (hn : n ≠ 0) (hb : Bd 1000 n) (hl : ns.length ≤ 1000) (kk : ∀ S', Fr S S' → Q (.tup (iLs (if 0 < firstN (divL ns) then divL ns else negL (divL ns)))) S') : wpR (g__law_turned [.tup (iLs ns)] S) Q E := by
  obtain ⟨g0, gb⟩ := gcdL_bd h hn hb
  have ex : ∃ m ∈ divL ns, m ≠ 0 := ⟨n / (gcdL 0 ns : Nat), List.mem_map.mpr ⟨n, h, rfl⟩, fun e => hn ((div_zero (gcdL_dvd h 0) g0).mp e)⟩
  refine wp_fn rfl ?_
  rw [w_seq, w_set, v_call, v_cons, wpR_var]
  refine ⟨_, rfl, ?_⟩
  rw [v_nil]
  refine divided_k h hn hb hl fun S1 f1 => ?_
  obtain ⟨a0, nz0⟩ := first_ok ex
  show wpS (sRet _ [some (.tup (iLs (divL ns))), none] S1) _
  rw [w_ret, v_if, v_asB, v_bin, v_bin]
  refine lc_tup (vals := iLs (divL ns)) nz (fun d => d) rfl (by simp [iLs, divL]; omega) (fun d hd S2 f2 => ?_) (fun m S2 hm f2 e2 => ?_)
  · obtain ⟨m, hm, rfl⟩ := List.mem_map.mp hd
    simp [wipeD, nz]
    by_cases h0 : m = 0
    · exact .inl ⟨h0, Fr.refl, fun _ => Fr.refl⟩
    · exact .inr ⟨h0, Fr.refl, fun _ => Fr.refl⟩
  · rw [filt_nz] at e2
    simp [rdL_lst e2, a0]
    by_cases hp : 0 < firstN (divL ns)
    · have k2 := kk S2 (f1.trans f2)
      rw [if_pos hp] at k2
      exact .inr ⟨hp, k2⟩
    · refine .inl ⟨by omega, ?_⟩
      refine lc_tup (vals := iLs (divL ns)) (fun _ => true) (fun d => match d with
        | .int m => .int (0 - m)
        | d => d) rfl (by simp [iLs, divL]; omega) (fun d hd S3 f3 => ?_) (fun m S3 hm f3 e3 => ?_)
      · obtain ⟨m, hm, rfl⟩ := List.mem_map.mp hd
        simp [wipeD]
        exact Fr.refl
      · rw [filt_true] at e3
        rw [wp_tupR (rdL_lst e3)]
        have : (iLs (divL ns)).map (fun d => match d with
          | .int m => D.int (0 - m)
          | d => d) = iLs (negL (divL ns)) := by
          unfold iLs negL
          rw [List.map_map, List.map_map]
          rfl
        rw [this]
        have k2 := kk S3 (f1.trans (f2.trans f3))
        rw [if_neg hp] at k2
        exact k2
theorem tidy_in_k {ns : List Int} {b : Bool} {S : Store} {Q : D → Store → Prop} {E : Ex → Store → Prop} {n : Int} (h : n ∈ ns) (hn : n ≠ 0) (hb : Bd 1000 n) (hl : ns.length ≤ 1000) (kk : ∀ S', Fr S S' → Q (.tup (iLs (if b = true ∧ firstN ns < 0 then negL (divL ns) else divL ns))) S') : wpR (g_tidy_in [.tup (iLs ns), .bl b] S) Q E := by
  obtain ⟨g0, gb⟩ := gcdL_bd h hn hb
  obtain ⟨a0, nz0⟩ := first_ok ⟨n, h, hn⟩
  refine wp_fn rfl ?_
  rw [w_seq, w_set, v_bin]
  refine lc_tup (vals := iLs ns) nz (fun d => d) rfl (by simp [iLs]; omega) (fun d hd S1 f1 => ?_) (fun m S1 hm f1 e1 => ?_)
  · obtain ⟨m, hm, rfl⟩ := List.mem_map.mp hd
    simp [wipeD, nz, startD, N_tidy_in]
    by_cases h0 : m = 0
    · exact .inl ⟨h0, Fr.refl, fun _ => Fr.refl⟩
    · exact .inr ⟨h0, Fr.refl, fun _ => Fr.refl⟩
  rw [filt_nz] at e1
  rw [wpR_c, wp_ixR]
  refine ⟨_, rdL_lst e1, _, a0, ?_⟩
  show wpS (sSeq _ _ [some (.tup (iLs ns)), some (.bl b), some (.int (firstN ns)), none, none] S1) _
  have gN0 : (gcdL 0 ns : Int) ≠ 0 := by omega
  -- the rest, for a divisor c
  have rest : ∀ (c : Int), divFitsN 0 c = true → (ns.map fun m => m.fdiv c) = (if b = true ∧ firstN ns < 0 then negL (divL ns) else divL ns) →
      wpS (sRet (eCallB pTuple (aCons (lockE 0 (eLc (itSeqK (eVar 0)) (gNm 4) bTrue (eBin pDivN (eVar 4) (eVar 3)) [4])) aNil)) [some (.tup (iLs ns)), some (.bl b), some (.int (firstN ns)), some (.int c), none] S1) { n := fun _ S' => Q .non S', r := Q, e := fun x _ S' => E x S' } := fun c hc hl2 => by
    rw [w_ret, v_callB, v_cons]
    refine lc_tup (vals := iLs ns) (fun _ => true) (fun d => match d with
      | .int m => .int (m.fdiv c)
      | d => d) rfl (by simp [iLs]; omega) (fun d hd S2 f2 => ?_) (fun m S2 hm f2 e2 => ?_)
    · obtain ⟨m, hm, rfl⟩ := List.mem_map.mp hd
      simp [wipeD, wp_divN, show divFitsN m c = true from hc]
      exact Fr.refl
    · rw [filt_true] at e2
      rw [v_nil, wp_tupR (rdL_lst e2)]
      have : (iLs ns).map (fun d => match d with
        | .int m => D.int (m.fdiv c)
        | d => d) = iLs (if b = true ∧ firstN ns < 0 then negL (divL ns) else divL ns) := by
        rw [← hl2]
        unfold iLs
        rw [List.map_map, List.map_map]
        rfl
      rw [this]
      exact kk S2 (f1.trans f2)
  have fit : ∀ c : Int, c.natAbs = gcdL 0 ns → divFitsN 0 c = true := fun c hc => by
    have lg := gb.log (by decide)
    rw [Int.natAbs_natCast] at lg
    exact decide_eq_true ⟨by omega, by rw [hc]; omega⟩
  have up : (ns.map fun m => m.fdiv (gcdL 0 ns : Nat)) = divL ns := by
    unfold divL
    refine List.map_congr_left fun m hm => ?_
    exact Int.fdiv_eq_ediv_of_nonneg _ (by omega)
  have down : (ns.map fun m => m.fdiv (-(gcdL 0 ns : Nat))) = negL (divL ns) := by
    unfold divL negL
    rw [List.map_map]
    refine List.map_congr_left fun m hm => ?_
    obtain ⟨q, e⟩ := gcdL_dvd hm 0
    show m.fdiv (-(gcdL 0 ns : Nat)) = 0 - m / (gcdL 0 ns : Nat)
    rw [Int.fdiv_eq_ediv_of_dvd ⟨-q, by rw [Int.neg_mul_neg]; exact e⟩, Int.ediv_neg]
    omega
  rw [w_seq, w_set, v_if]
  have dv := divisor_of_ok ns S1
  by_cases hc : b = true ∧ firstN ns < 0
  · obtain ⟨rfl, hneg⟩ := hc
    simp [hneg, dv]
    simpa using rest (-(gcdL 0 ns : Nat)) (fit _ (by omega)) (by rw [down, if_pos ⟨rfl, hneg⟩])
  · have r2 := rest (gcdL 0 ns : Nat) (fit _ (by omega)) (by rw [up, if_neg hc])
    cases b with
    | false => simp [dv]; simpa using r2
    | true =>
      have hneg : ¬ firstN ns < 0 := fun z => hc ⟨rfl, z⟩
      simp [hneg, dv]
      simpa using r2
end Kk12
end Lay

set_option Elab.async false
set_option linter.all false
set_option maxRecDepth 100000
set_option maxHeartbeats 4000000
/-! the pure law: rational sums -/
namespace Lay
namespace Kk12
open PySem PySem.Spec PyProof.Rows L2
open Classical
def lw (t b : Int) : Int × Int := if 0 < b then (t / (gN t b : Nat), b / (gN t b : Nat)) else (-(t / (gN t b : Nat)), -(b / (gN t b : Nat)))
def nD (p : Int × Int) : D := .tup [.int p.1, .int p.2]
theorem lowD_nD (t b : Int) : lowD t b = nD (lw t b) := by unfold lowD lw nD; split <;> rfl
/-- a number in lowest terms -/
structure Low (a b : Nat) (p : Int × Int) : Prop where
  pos : 0 < p.2
  one : gN p.1 p.2 = 1
  top : Bd a p.1
  base : Bd b p.2
theorem Low.mono {a b c d : Nat} {p : Int × Int} (h : Low a b p) (hc : a ≤ c) (hd : b ≤ d) : Low c d p := ⟨h.pos, h.one, h.top.mono hc, h.base.mono hd⟩
theorem bd_dvd {g : Nat} {q t : Int} {m : Nat} (e : t = (g : Int) * q) (hg : 0 < g) (h : Bd m t) : Bd m q := by
  unfold Bd at *
  have : t.natAbs = g * q.natAbs := by rw [e, Int.natAbs_mul, Int.natAbs_natCast]
  have : q.natAbs ≤ g * q.natAbs := Nat.le_mul_of_pos_left _ hg
  omega
theorem lw_low {t b : Int} {m n : Nat} (h : b ≠ 0) (ht : Bd m t) (hb : Bd n b) : Low m n (lw t b) := by
  obtain ⟨q, eq⟩ := dvd_top t b
  obtain ⟨r, er⟩ := dvd_base t b
  have gp := gcd_pos (top := t) h
  have gdef : gN t b = t.natAbs.gcd b.natAbs := rfl
  generalize hg : gN t b = g at *
  have g0 : 0 < g := by omega
  have e1 : t / (g : Int) = q := by rw [eq]; exact Int.mul_ediv_cancel_left _ (by omega)
  have e2 : b / (g : Int) = r := by rw [er]; exact Int.mul_ediv_cancel_left _ (by omega)
  have bq := bd_dvd eq g0 ht
  have br := bd_dvd er g0 hb
  have one : q.natAbs.gcd r.natAbs = 1 := by
    have : g = g * (q.natAbs.gcd r.natAbs) := by
      rw [← Nat.gcd_mul_left]
      have z1 : t.natAbs = g * q.natAbs := by rw [eq, Int.natAbs_mul, Int.natAbs_natCast]
      have z2 : b.natAbs = g * r.natAbs := by rw [er, Int.natAbs_mul, Int.natAbs_natCast]
      rw [← z1, ← z2]; exact gdef
    have h2 : g * 1 = g * (q.natAbs.gcd r.natAbs) := by omega
    exact (Nat.eq_of_mul_eq_mul_left g0 h2).symm
  unfold lw
  rw [hg, e1, e2]
  by_cases hp : 0 < b
  · rw [if_pos hp]
    refine ⟨?_, one, bq, br⟩
    show 0 < r
    rw [er] at hp
    exact Int.pos_of_mul_pos_right (a := (g : Int)) hp (by omega) |> fun z => z
  · rw [if_neg hp]
    refine ⟨?_, ?_, bq.neg, br.neg⟩
    · show 0 < -r
      have hb2 : b < 0 := by omega
      rw [er] at hb2
      have : r < 0 := by
        rcases Int.lt_or_le r 0 with z | z
        · exact z
        · have := Int.mul_nonneg (show (0 : Int) ≤ (g : Int) by omega) z
          omega
      omega
    · show gN (-q) (-r) = 1
      unfold gN
      rw [Int.natAbs_neg, Int.natAbs_neg]
      exact one
theorem lw_self {p : Int × Int} {a b : Nat} (h : Low a b p) : lw p.1 p.2 = p := by
  unfold lw
  rw [if_pos h.pos, h.one]
  simp
theorem lw_zero {b : Int} (h : 0 < b) : lw 0 b = (0, 1) := by
  unfold lw
  rw [if_pos h]
  have : gN 0 b = b.natAbs := by unfold gN; simp
  rw [this]
  have e : (b.natAbs : Int) = b := by omega
  rw [e, Int.zero_ediv, Int.ediv_self (by omega)]
def addP (p q : Int × Int) : Int × Int := lw (p.1 * q.2 + q.1 * p.2) (p.2 * q.2)
theorem addP_low {p q : Int × Int} {a b c d : Nat} (hp : Low a b p) (hq : Low c d q) {m n : Nat} (hm : a + d + 1 ≤ m) (hm2 : c + b + 1 ≤ m) (hn : b + d ≤ n) : Low m n (addP p q) :=
  lw_low (Int.ne_of_gt (Int.mul_pos hp.pos hq.pos)) (by
    have h1 := (hp.top.mul hq.base).mono (show a + d ≤ m - 1 by omega)
    have h2 := (hq.top.mul hp.base).mono (show c + b ≤ m - 1 by omega)
    exact (h1.add h2).mono (by omega)) ((hp.base.mul hq.base).mono hn)
theorem addP_zero {p : Int × Int} {a b : Nat} (hp : Low a b p) : addP p (0, 1) = p := by
  unfold addP
  simp
  exact lw_self hp
/-- the row's value at numbers -/
def wor : Int × Int → List Int → List (Int × Int) → Int × Int
  | f, w :: ws, q :: qs => wor (addP f (lw (w * q.1) q.2)) ws qs
  | f, _, _ => f
theorem wor_take : ∀ {ws : List Int} {qs : List (Int × Int)} {i : Nat} {w : Int} {q : Int × Int} (f : Int × Int), ws[i]? = some w → qs[i]? = some q → wor f (ws.take (i + 1)) (qs.take (i + 1)) = addP (wor f (ws.take i) (qs.take i)) (lw (w * q.1) q.2)
  | [], _, i, _, _, _, h, _ => by simp at h
  | _ :: _, [], i, _, _, _, _, h => by simp at h
  | a :: ws, b :: qs, 0, w, q, f, h1, h2 => by
    simp at h1 h2
    subst h1 h2
    rfl
  | a :: ws, b :: qs, i + 1, w, q, f, h1, h2 => by
    simp only [List.take_succ_cons, wor]
    exact wor_take _ (by simpa using h1) (by simpa using h2)
/-- the row's value is small on the way -/
def Wok (f : Int × Int) (ws : List Int) (qs : List (Int × Int)) : Prop := ∀ i, i ≤ qs.length → Low 3200 3200 (wor f (ws.take i) (qs.take i))
theorem wok_of {f : Int × Int} {ws : List Int} {qs : List (Int × Int)} (hf : Low 300 1 f) (hw : ∀ w ∈ ws, Bd 100 w) (hq : ∀ q ∈ qs, Low 60 60 q) (hl : qs.length ≤ ws.length) (h40 : qs.length ≤ 40) : Wok f ws qs := by
  have key : ∀ i, i ≤ qs.length → Low (300 + 70 * i) (1 + 60 * i) (wor f (ws.take i) (qs.take i)) := fun i => by
    induction i with
    | zero => intro _; simpa [wor] using hf
    | succ i ih =>
      intro hi
      obtain ⟨w, ew⟩ : ∃ w, ws[i]? = some w := ⟨ws[i]'(by omega), List.getElem?_eq_getElem (by omega)⟩
      obtain ⟨q, eq⟩ : ∃ q, qs[i]? = some q := ⟨qs[i]'(by omega), List.getElem?_eq_getElem (by omega)⟩
      rw [wor_take f ew eq]
      have lq := hq q (List.mem_of_getElem? eq)
      have l2 : Low 160 60 (lw (w * q.1) q.2) := lw_low (Int.ne_of_gt lq.pos) ((hw w (List.mem_of_getElem? ew)).mul lq.top) lq.base
      exact addP_low (ih (by omega)) l2 (by omega) (by omega) (by omega)
  intro i hi
  exact (key i hi).mono (by omega) (by omega)
theorem wok_zero {f : Int × Int} {ws : List Int} {n : Nat} (hf : Low 3200 3200 f) : Wok f ws (List.replicate n (0, 1)) ∧ wor f ws (List.replicate n (0, 1)) = f := by
  have key : ∀ (ws : List Int) (n : Nat), wor f ws (List.replicate n (0, 1)) = f := fun ws => by
    induction ws with
    | nil => intro n; cases n <;> rfl
    | cons w ws ih =>
      intro n
      cases n with
      | zero => rfl
      | succ n =>
        rw [List.replicate_succ]
        show wor (addP f (lw (w * 0) 1)) ws _ = f
        rw [Int.mul_zero, lw_zero (by decide), addP_zero hf]
        exact ih n
  refine ⟨fun i hi => ?_, key _ _⟩
  rw [List.take_replicate, key]
  exact hf
theorem zipT_k {aa : EA} {sd : SD} {S : Store} {QI : ITd → Store → Prop} {E : Ex → Store → Prop} (h : wpR (aa sd S) (fun xs S1 => ∃ ds es, xs = [.tup ds, .tup es] ∧ QI ⟨zipD ds es, fun _ => True⟩ S1) E) : wpR (itZip aa sd S) QI E := by
  unfold itZip
  rw [wpR_bind]
  refine wpR_mono h (fun xs S1 ⟨ds, es, e, q⟩ => ?_) fun _ _ z => z
  subst e
  exact q
theorem atI_last (l : List D) (x : D) : atI (l ++ [x]) (-1) = some x := by
  have e : ixN (l ++ [x]).length (-1) = some l.length := by
    unfold ixN
    rw [if_neg (by decide), if_pos (by simp; omega)]
    simp
    omega
  unfold atI
  rw [e]
  simp
theorem low1 {n : Nat} {x : Int} (h : Bd n x) : Low n 1 (x, 1) := ⟨show (0 : Int) < 1 by decide, by unfold gN; simp, h, bd1⟩
theorem get_iLs {ws : List Int} {i : Nat} {w : Int} (h : ws[i]? = some w) : (iLs ws)[i]? = some (.int w) := by simp [iLs, h]
section
variable {ws : List Int} {last : Int} {qs : List (Int × Int)} {S : Store}
/-- the program's value -/
theorem value_ok (hw : ∀ w ∈ ws, Bd 100 w) (hq : ∀ q ∈ qs, Low 60 60 q) (hl : ws.length = qs.length) (wk : Wok (last, 1) ws qs) : g_value_at [.tup (iLs (ws ++ [last])), .tup (qs.map nD)] S = .ok (nD (wor (last, 1) ws qs)) S := by
  have hat : atI (iLs (ws ++ [last])) (-1) = some (.int last) := by
    unfold iLs; rw [List.map_append]; exact atI_last _ _
  refine eq_of (wp_fn rfl ?_)
  simp [startD, N_value_at, hat, fits_of]
  refine zipT_k ?_
  simp
  refine ⟨_, _, ⟨rfl, rfl⟩, ?_⟩
  refine wp_for (fun i sd S' => S' = S ∧ ∃ x y, sd = [some (.tup (iLs (ws ++ [last]))), some (.tup (qs.map nD)), some (nD (wor (last, 1) (ws.take i) (qs.take i))), x, y]) _ 0 _ _ ⟨rfl, none, none, by simp [wor]; rfl⟩ ?_ ?_
  · rintro j d sd S' hj ⟨rfl, x, y, rfl⟩
    rw [Nat.zero_add]
    have hz : ∃ w q, ws[j]? = some w ∧ qs[j]? = some q ∧ d = .tup [.int w, nD q] := by
      unfold zipD at hj
      rw [List.getElem?_map] at hj
      obtain ⟨p, hp, rfl⟩ := Option.map_eq_some_iff.mp hj
      rw [List.getElem?_zip_eq_some] at hp
      obtain ⟨h1, h2⟩ := hp
      obtain ⟨w, hw1, hw2⟩ := iLs_get h1
      rw [List.getElem?_map] at h2
      obtain ⟨q, hq1, hq2⟩ := Option.map_eq_some_iff.mp h2
      have hj2 := (List.getElem?_eq_some_iff.mp hq1).1
      rw [List.getElem?_append_left (by omega)] at hw1
      exact ⟨w, q, hw1, hq1, by rw [hw2, ← hq2]⟩
    obtain ⟨w, q, ew, eq, rfl⟩ := hz
    refine ⟨trivial, _, rfl, ?_⟩
    have hj2 := (List.getElem?_eq_some_iff.mp eq).1
    have lq := hq q (List.mem_of_getElem? eq)
    have bw := hw w (List.mem_of_getElem? ew)
    have l2 : Low 160 60 (lw (w * q.1) q.2) := lw_low (Int.ne_of_gt lq.pos) (bw.mul lq.top) lq.base
    have lf := wk j (by omega)
    have e1 : ∀ S, g_product_of [.tup [.int w, .int 1], nD q] S = .ok (nD (lw (w * q.1) q.2)) S := fun S => by
      have := product_ok (S := S) (show (0 : Int) < 1 by decide) lq.pos (bw.mono (by decide)) (bd1.mono (by decide)) (lq.top.mono (by decide)) (lq.base.mono (by decide))
      rw [Int.one_mul, lowD_nD] at this
      exact this
    have e2 : ∀ S, g_sum_of [nD (wor (last, 1) (ws.take j) (qs.take j)), nD (lw (w * q.1) q.2)] S = .ok (nD (wor (last, 1) (ws.take (j + 1)) (qs.take (j + 1)))) S := fun S => by
      have := sum_ok (S := S) lf.pos l2.pos (lf.top.mono (by decide)) (lf.base.mono (by decide)) (l2.top.mono (by decide)) (l2.base.mono (by decide))
      rw [lowD_nD] at this
      rw [wor_take _ ew eq]
      exact this
    simp [e1, e2, fits_of]
  · rintro sd S' ⟨rfl, x, y, rfl⟩
    refine ⟨trivial, ?_⟩
    have : (0 + (zipD (iLs (ws ++ [last])) (qs.map nD)).length) = qs.length := by simp [zipD, iLs, hl]
    rw [this, List.take_of_length_le (Nat.le_refl _), List.take_of_length_le (by omega)]
    simp
/-- the law's -/
theorem worth_ok (hw : ∀ w ∈ ws, Bd 100 w) (hq : ∀ q ∈ qs, Low 60 60 q) (hl : ws.length = qs.length) (h80 : qs.length ≤ 1000) (wk : Wok (last, 1) ws qs) : g__law_worth [.tup (iLs (ws ++ [last])), .tup (qs.map nD)] S = .ok (nD (wor (last, 1) ws qs)) S := by
  have hat : atI (iLs (ws ++ [last])) (-1) = some (.int last) := by
    unfold iLs; rw [List.map_append]; exact atI_last _ _
  refine eq_of (wp_fn rfl ?_)
  simp [startD, N__law_worth, hat, fits_of]
  refine ⟨inR_of (by omega) (by omega), ?_⟩
  refine wp_for (fun i sd S' => S' = S ∧ ∃ x, sd = [some (.tup (iLs (ws ++ [last]))), some (.tup (qs.map nD)), some (nD (wor (last, 1) (ws.take i) (qs.take i))), x]) _ 0 _ _ ⟨rfl, none, by simp [wor]; rfl⟩ ?_ ?_
  · rintro j d sd S' hj ⟨rfl, x, rfl⟩
    rw [Nat.zero_add]
    have hlj := (List.getElem?_eq_some_iff.mp hj).1
    rw [rng_len] at hlj
    obtain rfl : d = .int j := by simpa [rngD, hlj] using hj.symm
    obtain ⟨w, ew⟩ : ∃ w, ws[j]? = some w := ⟨ws[j]'(by omega), List.getElem?_eq_getElem (by omega)⟩
    obtain ⟨q, eq⟩ : ∃ q, qs[j]? = some q := ⟨qs[j]'(by omega), List.getElem?_eq_getElem (by omega)⟩
    refine ⟨trivial, _, rfl, ?_⟩
    have lq := hq q (List.mem_of_getElem? eq)
    have bw := hw w (List.mem_of_getElem? ew)
    have l2 : Low 160 60 (lw (w * q.1) q.2) := lw_low (Int.ne_of_gt lq.pos) (bw.mul lq.top) lq.base
    have lf := wk j (by omega)
    have a1 : atI (iLs (ws ++ [last])) (j : Int) = some (.int w) := atI_of (by
      refine get_iLs ?_
      rw [List.getElem?_append_left (by omega)]
      exact ew)
    have a2 : atI (qs.map nD) (j : Int) = some (nD q) := atI_of (by rw [List.getElem?_map, eq]; rfl)
    rw [wor_take _ ew eq]
    by_cases w0 : w = 0
    · subst w0
      simp [a1]
      rw [lw_zero lq.pos, addP_zero lf]
    · have e1 : ∀ S, g__law_low [.int (w * q.1), .int q.2] S = .ok (nD (lw (w * q.1) q.2)) S := fun S => by
        rw [← lowD_nD]
        exact law_low_ok S (Int.ne_of_gt lq.pos) ((bw.mul lq.top).mono (by decide)) (lq.base.mono (by decide))
      have e2 : ∀ S, g__law_plus [nD (wor (last, 1) (ws.take j) (qs.take j)), nD (lw (w * q.1) q.2)] S = .ok (nD (addP (wor (last, 1) (ws.take j) (qs.take j)) (lw (w * q.1) q.2))) S := fun S => by
        have := plus_ok (S := S) lf.pos l2.pos (lf.top.mono (by decide)) (lf.base.mono (by decide)) (l2.top.mono (by decide)) (l2.base.mono (by decide))
        rw [lowD_nD] at this
        exact this
      have a3 : ∀ S Q, wpP (pIx (nD q) (.int 0) S) Q = Q (.int q.1) S := fun S Q => by unfold nD; simp
      have a4 : ∀ S Q, wpP (pIx (nD q) (.int 1) S) Q = Q (.int q.2) S := fun S Q => by unfold nD; simp
      simp [a1, w0, a2, a3, a4, mulFits_of bw lq.top, e1, e2]
  · rintro sd S' ⟨rfl, x, rfl⟩
    refine ⟨trivial, ?_⟩
    simp [rng_len]
    rw [List.take_of_length_le (by omega)]
end
end Kk12
end Lay

set_option Elab.async false
set_option linter.all false
set_option maxRecDepth 100000
set_option maxHeartbeats 4000000
/-! the pure law: whether a system holds at numbers -/
namespace Lay
namespace Kk12
open PySem PySem.Spec PyProof.Rows L2
open Classical
/-- a told row: its numbers, the last one -/
abbrev TR := List Int × Int
def tD (r : TR) : D := .tup (iLs (r.1 ++ [r.2]))
def tDs (rs : List TR) : D := .tup (rs.map tD)
def sysD (n : Nat) (A B : List TR) : D := .tup [.int n, tDs A, tDs B]
def val (r : TR) (qs : List (Int × Int)) : Int := (wor (r.2, 1) r.1 qs).1
structure RowOk (qs : List (Int × Int)) (r : TR) : Prop where
  len : r.1.length = qs.length
  bd : ∀ w ∈ r.1, Bd 100 w
  wk : Wok (r.2, 1) r.1 qs
def holdsB (A B : List TR) (qs : List (Int × Int)) : Bool := (A.all fun r => decide (val r qs = 0)) && B.all fun r => decide (0 ≤ val r qs)
theorem lc_seqT {m : EE} {v : Nat} {tt : EB} {te : EE} {sd : SD} {S : Store} {Q : D → Store → Prop} {E : Ex → Store → Prop} {vals : List D} (p : D → Bool) (f : D → D) (hl : vals.length ≤ 10000000)
    (hm : ∀ (Q : D → Store → Prop), Q (.tup vals) S → wpR (m sd S) Q E)
    (step : ∀ d ∈ vals, ∀ S1, Fr S S1 → wpR (tt ((wipeD sd [v]).set v (some d)) S1) (fun b S2 => b = p d ∧ Fr S1 S2 ∧ (p d = true → wpR (te ((wipeD sd [v]).set v (some d)) S2) (fun y S3 => y = f d ∧ Fr S2 S3) fun _ _ => False)) fun _ _ => False)
    (q : ∀ (n : Nat) S', S.length ≤ n → Fr S S' → S'[n]? = some (.lst ((vals.filter p).map f)) → Q (.ref n) S') : wpR (eLc (itSeq m) (gNm v) tt te [v] sd S) Q E :=
  lc_map vals p f hl (fun QI k => by
    rw [v_itSeq]
    refine hm _ ?_
    rw [seqQ_tup]
    exact k S _ Fr.refl fun _ _ => trivial) step q
theorem tD_mem {rs : List TR} {d : D} (h : d ∈ rs.map tD) : ∃ r ∈ rs, d = tD r := by
  obtain ⟨r, h1, h2⟩ := List.mem_map.mp h
  exact ⟨r, h1, h2.symm⟩
/-- the first of the row's value, as the data know it -/
noncomputable def valD' (qs : List (Int × Int)) (d : D) : Int := if h : ∃ r, d = tD r then val h.choose qs else 0
theorem iLs_inj {a b : List Int} (h : iLs a = iLs b) : a = b := by
  induction a generalizing b with
  | nil =>
    cases b with
    | nil => rfl
    | cons y b => cases h
  | cons x a ih =>
    cases b with
    | nil => cases h
    | cons y b =>
      unfold iLs at h ih
      simp only [List.map_cons, List.cons.injEq] at h
      injection h.1 with h1
      rw [h1, ih h.2]
theorem tD_inj {r s : TR} (h : tD r = tD s) : r = s := by
  unfold tD at h
  injection h with h
  have := iLs_inj h
  obtain ⟨h1, h2⟩ := List.append_inj' this rfl
  cases r; cases s
  simp at h1 h2
  simp [h1, h2]
theorem valD'_of (qs : List (Int × Int)) (r : TR) : valD' qs (tD r) = val r qs := by
  unfold valD'
  have h : ∃ s, tD r = tD s := ⟨r, rfl⟩
  rw [dif_pos h]
  rw [← tD_inj h.choose_spec]
theorem nD_0 {p : Int × Int} {S : Store} {Q : D → Store → Prop} : wpP (pIx (nD p) (.int 0) S) Q = Q (.int p.1) S := by unfold nD; simp
theorem holds_in_k {n : Nat} {A B : List TR} {qs : List (Int × Int)} {S : Store} {Q : D → Store → Prop} {E : Ex → Store → Prop} (hA : ∀ r ∈ A, RowOk qs r) (hB : ∀ r ∈ B, RowOk qs r) (hq : ∀ q ∈ qs, Low 60 60 q) (lA : A.length ≤ 1000) (lB : B.length ≤ 1000)
    (kk : ∀ S', Fr S S' → Q (.bl (holdsB A B qs)) S') : wpR (g_holds_in [sysD n A B, .tup (qs.map nD)] S) Q E := by
  refine wp_fn rfl ?_
  have val_k : ∀ {r : TR} {S : Store}, RowOk qs r → g_value_at [tD r, .tup (qs.map nD)] S = .ok (nD (wor (r.2, 1) r.1 qs)) S := fun {r S} h => value_ok h.bd hq h.len h.wk
  simp [startD, N_holds_in]
  refine lc_seqT (vals := A.map tD) (fun _ => true) (fun d => .bl (!decide (valD' qs d = 0))) (by simp; omega) (fun Q h => by simp [sysD, tDs]; exact h) (fun d hd S1 f1 => ?_) (fun m S1 hm f1 e1 => ?_)
  · obtain ⟨r, hr, rfl⟩ := tD_mem hd
    simp [wipeD, val_k (hA r hr), nD_0, valD'_of, val]
    exact Fr.refl
  · rw [filt_true] at e1
    rw [wp_any (bs := (A.map tD).map fun d => !decide (valD' qs d = 0)) (rdL_lst (by rw [e1]; congr 2; simp only [List.map_map]; rfl))]
    have eA : (((A.map tD).map fun d => !decide (valD' qs d = 0)).any id) = !(A.all fun r => decide (val r qs = 0)) := by
      rw [List.map_map, List.any_map, List.not_all_eq_any_not]
      congr 1
      funext r
      simp [valD'_of]
    rw [eA]
    cases hAA : (A.all fun r => decide (val r qs = 0)) with
    | false =>
      simp
      have : holdsB A B qs = false := by simp [holdsB, hAA]
      rw [← this]
      exact kk S1 f1
    | true =>
      simp
      refine lc_seqT (vals := B.map tD) (fun _ => true) (fun d => .bl (decide (0 ≤ valD' qs d))) (by simp; omega) (fun Q h => by simp [sysD, tDs]; exact h) (fun d hd S2 f2 => ?_) (fun m2 S2 hm2 f2 e2 => ?_)
      · obtain ⟨r, hr, rfl⟩ := tD_mem hd
        simp [wipeD, val_k (hB r hr), nD_0, valD'_of, val]
        exact Fr.refl
      · rw [filt_true] at e2
        rw [wp_all (bs := (B.map tD).map fun d => decide (0 ≤ valD' qs d)) (rdL_lst (by rw [e2]; congr 2; simp only [List.map_map]; rfl))]
        have eB : (((B.map tD).map fun d => decide (0 ≤ valD' qs d)).all id) = holdsB A B qs := by
          unfold holdsB
          rw [hAA, List.map_map, List.all_map]
          simp [valD'_of]
          congr 1
          funext r
          simp [valD'_of]
        rw [eB]
        exact kk S2 (f1.trans f2)
end Kk12
end Lay

set_option Elab.async false
set_option linter.all false
set_option maxRecDepth 100000
set_option maxHeartbeats 4000000
/-! the pure law: numbers and rows drawn -/
namespace Lay
namespace Kk12
open PySem PySem.Spec PyProof.Rows L2
open Classical
def LowL (a b : Nat) (qs : List (Int × Int)) : Prop := ∀ q ∈ qs, Low a b q
theorem take_eq : g__law_take = takeF 15487493 179426105 := rfl
theorem htk : TkOk g__law_take := by rw [take_eq]; exact tkOk (by decide) (by decide)
section
variable {S : Store} {b c : Nat} {Q : D → Store → Prop} {E : Ex → Store → Prop}
theorem number_k (h : IsBox S b c) (k : ∀ (q : Int × Int) S', Low 40 30 q → IsBox S' b (c + 2) → FrB b S S' → Q (nD q) S') (hc : c + 2 ≤ 1000000 := by omega) : wpR (g__law_number [.ref b] S) Q E := by
  refine wp_fn rfl ?_
  rw [w_ret, v_call, v_cons]
  refine pick_c htk (n := 10) ([0, 1, -1, 2, 3, -2, 1, 5, -3, 1].map D.int) (fun S1 => rfl) rfl h rfl fun x S1 hx b1 f1 => ?_
  rw [v_cons]
  refine pick_c htk (n := 6) ([1, 1, 1, 2, 1, 3].map D.int) (fun S1 => rfl) rfl b1 rfl fun y S2 hy b2 f2 => ?_
  rw [v_nil]
  obtain ⟨i, hi, rfl⟩ := List.mem_map.mp hx
  obtain ⟨j, hj, rfl⟩ := List.mem_map.mp hy
  have hj0 : j ≠ 0 := by
    rintro rfl
    revert hj
    decide
  have bi : Bd 5 i := bd_mem hi (by decide)
  have bj : Bd 5 j := bd_mem hj (by decide)
  rw [law_low_ok S2 hj0 (bi.mono (by decide)) (bj.mono (by decide)), lowD_nD, wpR_ok]
  exact k _ _ ((lw_low hj0 bi bj).mono (by decide) (by decide)) b2 (f1.trans f2)
theorem tops_k {n : Nat} {z : Int} (hz : z = n) (h : IsBox S b c) (hn : n ≤ 80) (k : ∀ (qs : List (Int × Int)) S', qs.length = n → LowL 40 30 qs → IsBox S' b (c + 6 * n) → FrB b S S' → Q (.tup (qs.map nD)) S') (hc : c + 6 * n ≤ 1000000 := by omega) : wpR (g__law_tops [.ref b, .int z] S) Q E := by
  refine wp_fn rfl ?_
  have p7 : powFits 10 7 = true := by decide
  have p8 : powFits 10 8 = true := by decide
  simp [startD, N__law_tops, fits_of]
  refine ⟨inR_of (by omega) (by omega), ?_⟩
  have hb := h.lt
  refine wp_for (fun i sd S' => IsBox S' b (c + 6 * i) ∧ FrB b S S' ∧ ∃ (qs : List (Int × Int)) (x y u : Option D), qs.length = i ∧ LowL 40 30 qs ∧ S'[S.length]? = some (.lst (qs.map nD)) ∧ sd = [some (.ref b), some (.int z), some (.ref S.length), x, y, u]) _ 0 _ _ ⟨h.app _, (Fr.app _).b b, [], none, none, none, rfl, (fun q hq => by simp at hq), by simp, rfl⟩ ?_ ?_
  · rintro j d sd S1 hj ⟨b1, f1, qs, x, y, u0, lq, hq, e1, rfl⟩
    rw [Nat.zero_add] at *
    have hlj := (List.getElem?_eq_some_iff.mp hj).1
    rw [rng_len] at hlj
    refine ⟨trivial, _, rfl, ?_⟩
    simp
    refine takes_k htk b1 fun w S2 hw b2 f2 => ?_
    simp [p7, p8]
    refine takes_k htk b2 fun t S3 ht b3 f3 => ?_
    have bt : Bd 24 (t : Int) := by unfold Bd; omega
    simp [mulFits_of bt (show Bd 6 37 by unfold Bd; decide)]
    refine takes_k htk b3 fun u S4 hu b4 f4 => ?_
    have f24 := f2.trans (f3.trans f4)
    simp
    have h0 : (1 + (u : Int)) ≠ 0 := by omega
    have bt2 : Bd 30 ((t : Int) * 37 - 100000000) := by unfold Bd; omega
    have bu2 : Bd 25 (1 + (u : Int)) := by unfold Bd; omega
    rw [law_low_ok S4 h0 (bt2.mono (by decide)) (bu2.mono (by decide)), lowD_nD]
    have l1 := lw_low h0 bt2 bu2
    have e4 : S4[S.length]? = some (.lst (qs.map nD)) := f24.at e1 (by omega)
    -- what is appended
    have fin : ∀ (q : Int × Int) (S5 : Store), Low 40 30 q → IsBox S5 b (c + 6 * (j + 1)) → FrB b S1 S5 → wpP (pAppend (.ref S.length) [nD q] S5) fun d S' => IsBox S' b (c + 6 * (j + 1)) ∧ FrB b S S' ∧ ∃ (qs : List (Int × Int)) , qs.length = j + 1 ∧ LowL 40 30 qs ∧ S'[S.length]? = some (.lst (qs.map nD)) := fun q S5 lq5 b5 f5 => by
      have e5 : S5[S.length]? = some (.lst (qs.map nD)) := f5.at e1 (by omega)
      have n5 := (List.getElem?_eq_some_iff.mp e5).1
      rw [wp_append e5 (by simp; omega)]
      refine ⟨?_, (f1.trans f5).setB _ (Nat.le_refl _), qs ++ [q], by simp [lq], fun z hz => ?_, by rw [List.getElem?_set_self n5]; simp⟩
      · obtain ⟨g, f, mm, n, e, r⟩ := b5
        exact ⟨g, f, mm, n, by rw [List.getElem?_set_ne (by omega)]; exact e, r⟩
      · rcases List.mem_append.mp hz with z | z
        · exact hq _ z
        · rw [List.mem_singleton.mp z]; exact lq5
    simp [rdL_lst e4]
    by_cases w0 : w = 0
    · subst w0
      simp
      exact fin _ _ (l1.mono (by decide) (by decide)) (b4.mono (by omega)) f24
    · by_cases w1 : w = 1
      · subst w1
        simp [fits_of]
        exact fin (0, 1) _ ⟨by decide, by decide, by unfold Bd; decide, by unfold Bd; decide⟩ (b4.mono (by omega)) f24
      · have w0' : ¬ ((w : Int) = 0) := by omega
        have w1' : ¬ ((w : Int) = 1) := by omega
        simp [w0', w1', w0, w1]
        refine number_k b4 fun q S5 lq5 b5 f5 => ?_
        exact fin _ _ lq5 (b5.mono (by omega)) (f24.trans f5)
  · rintro sd S1 ⟨b1, f1, qs, x, y, u0, lq, hq, e1, rfl⟩
    refine ⟨trivial, ?_⟩
    simp [rdL_lst e1] at *
    rw [wp_tupR (rdL_lst e1)]
    have zt : z.toNat = n := by omega
    rw [rng_len, zt] at lq b1
    exact k qs S1 lq hq b1 f1
end
end Kk12
end Lay

set_option Elab.async false
set_option linter.all false
set_option maxRecDepth 100000
set_option maxHeartbeats 4000000
/-! the pure law: rows and systems drawn -/
namespace Lay
namespace Kk12
open PySem PySem.Spec PyProof.Rows L2
open Classical
/-- a told row at numbers -/
structure RowG (n : Nat) (r : TR) : Prop where
  len : r.1.length = n
  bd : ∀ w ∈ r.1, Bd 60 w
  last : Bd 80 r.2
  nz : ∃ w ∈ r.1 ++ [r.2], w ≠ 0
theorem RowG.ok {r : TR} {qs : List (Int × Int)} (h : RowG qs.length r) (hq : LowL 60 60 qs) (hl : qs.length ≤ 40) : RowOk qs r :=
  ⟨h.len, fun w hw => (h.bd w hw).mono (by decide), wok_of ((low1 h.last).mono (by decide) (by decide)) (fun w hw => (h.bd w hw).mono (by decide)) hq (by rw [h.len]; exact Nat.le_refl _) hl⟩
theorem LowL.mono {a b a' b' : Nat} {qs : List (Int × Int)} (h : LowL a b qs) (ha : a ≤ a') (hb : b ≤ b') : LowL a' b' qs := fun q hq => (h q hq).mono ha hb
theorem nD_pd (q : Int × Int) : PD 1 (nD q) := PD.tup fun d hd => by
  rcases (by simpa using hd : d = .int q.1 ∨ d = .int q.2) with rfl | rfl <;> exact .int _
theorem ones_iL (l : List Int) : ((iLs l).any nz) = l.any fun n => !decide (n = 0) := by
  unfold iLs
  rw [List.any_map]
  rfl
section
variable {S : Store} {b c : Nat} {Q : D → Store → Prop} {QB : Bool → Store → Prop} {E : Ex → Store → Prop}
theorem nzstep {v : Nat} {sd : SD} {ns : List Int} (hvl : v < sd.length) : ∀ d ∈ iLs ns, ∀ S1 : Store, wpR (asB (eBin pNe (eVar v) (eC (.int 0))) ((wipeD sd [v]).set v (some d)) S1) (fun b S2 => b = nz d ∧ Fr S1 S2 ∧ (nz d = true → wpR (eC (.int 1) ((wipeD sd [v]).set v (some d)) S2) (fun y S3 => y = .int 1 ∧ Fr S2 S3) fun _ _ => False)) fun _ _ => False := fun d hd S1 => by
  obtain ⟨m, hm, rfl⟩ := List.mem_map.mp hd
  rw [v_asB, v_bin, wpR_var]
  refine ⟨_, wipe_get hvl, ?_⟩
  rw [wpR_c, wp_ne]
  refine ⟨_, rfl, rfl, Fr.refl, fun _ => ?_⟩
  rw [wpR_c]
  exact ⟨rfl, Fr.refl⟩
/-- [1 for item in list if item != 0] == [] -/
theorem nonz_k {i v n0 : Nat} {sd : SD} {ns : List Int} (hv : sd[i]? = some (some (.ref n0))) (hn : rdL S n0 = some (iLs ns)) (hvl : v < sd.length) (hl : ns.length ≤ 1000) (k : ∀ S', Fr S S' → QB (!ns.any fun n => !decide (n = 0)) S') :
    wpR (asB (eBin pEq (lockE i (eLc (itSeqK (eVar i)) (gNm v) (asB (eBin pNe (eVar v) (eC (.int 0)))) (eC (.int 1)) [v])) (eLst aNil)) sd S) QB E := by
  rw [v_asB, v_bin]
  refine lc_lst (vals := iLs ns) nz (fun _ => .int 1) hv hn (by simp [iLs]; omega) (fun d hd S1 f1 => nzstep hvl d hd S1) (fun m S1 hm f1 e1 => ?_)
  rw [v_lst, v_nil]
  refine ⟨fits_of (by simp), ?_⟩
  rw [wp_eql (rdL_lst ((Fr.app _).at e1)) (rdL_lst (last_at _ _)) (ones_pd _ _), ones_nil, ones_iL]
  exact ⟨_, rfl, k _ (f1.trans (Fr.app _))⟩
/-- [1 for item in tuple if item != 0] != [] -/
theorem nonzT_k {i v : Nat} {sd : SD} {ns : List Int} (hv : sd[i]? = some (some (.tup (iLs ns)))) (hvl : v < sd.length) (hl : ns.length ≤ 1000) (k : ∀ S', Fr S S' → QB (ns.any fun n => !decide (n = 0)) S') :
    wpR (asB (eBin pNe (lockE i (eLc (itSeqK (eVar i)) (gNm v) (asB (eBin pNe (eVar v) (eC (.int 0)))) (eC (.int 1)) [v])) (eLst aNil)) sd S) QB E := by
  rw [v_asB, v_bin]
  refine lc_tup (vals := iLs ns) nz (fun _ => .int 1) hv (by simp [iLs]; omega) (fun d hd S1 f1 => nzstep hvl d hd S1) (fun m S1 hm f1 e1 => ?_)
  rw [v_lst, v_nil]
  refine ⟨fits_of (by simp), ?_⟩
  rw [wp_nel (rdL_lst ((Fr.app _).at e1)) (rdL_lst (last_at _ _)) (ones_pd _ _), ones_nil, ones_iL]
  exact ⟨_, by rw [Bool.not_not], k _ (f1.trans (Fr.app _))⟩
theorem sgn2 {i : Nat} (h : (i : Int) < 2) : (1 - 2 * (i : Int) = 1 ∨ 1 - 2 * (i : Int) = -1) := by omega
theorem ints_of {m : Nat} {ys : List D} (h : ∀ (j : Nat) y, ys[j]? = some y → ∃ i : Int, y = .int i ∧ Bd m i) : ∃ is : List Int, ys = iLs is ∧ ∀ i ∈ is, Bd m i := by
  induction ys with
  | nil => exact ⟨[], rfl, by simp⟩
  | cons y ys ih =>
    obtain ⟨i, rfl, hi⟩ := h 0 y rfl
    obtain ⟨is, rfl, his⟩ := ih fun j y e => h (j + 1) y (by simpa using e)
    refine ⟨i :: is, rfl, fun x hx => ?_⟩
    rcases List.mem_cons.mp hx with rfl | hx
    · exact hi
    · exact his x hx
theorem iLs_len (l : List Int) : (iLs l).length = l.length := by simp [iLs]
theorem mulf {x y : Int} {n m : Nat} (hx : Bd n x) (hy : Bd m y) (h : n + m < 1000000 := by decide) (hn : n ≠ 0 := by decide) (hm : m ≠ 0 := by decide) : mulFits x y = true := mulFits_of hx hy hn hm h
theorem zip_iLs {ps : List Int} {qs : List (Int × Int)} {ys : List D} (hl : ps.length = qs.length) (ly : ys.length = qs.length) (h : ∀ (j : Nat) y, ys[j]? = some y → ∃ p q, ps[j]? = some p ∧ qs[j]? = some q ∧ y = .int (p * q.2)) : ys = iLs (List.zipWith (fun p q => p * q.2) ps qs) := by
  induction ps generalizing qs ys with
  | nil =>
    have : qs = [] := List.length_eq_zero_iff.mp (by simpa using hl.symm)
    subst this
    have : ys = [] := List.length_eq_zero_iff.mp (by simpa using ly)
    subst this
    rfl
  | cons p ps ih =>
    cases qs with
    | nil => simp at hl
    | cons q qs =>
      cases ys with
      | nil => simp at ly
      | cons y ys =>
        obtain ⟨p', q', e1, e2, rfl⟩ := h 0 y rfl
        simp at e1 e2
        subst e1 e2
        have := ih (qs := qs) (ys := ys) (by simpa using hl) (by simpa using ly) fun j y e => by simpa using h (j + 1) y (by simpa using e)
        rw [this]
        rfl
/-- the slots behind told_at's list -/
abbrev slt (b : Nat) (qs : List (Int × Int)) (worth : Int) (n : Nat) : SD := [some (.ref b), some (.tup (qs.map nD)), some (.int worth), some (.ref n), none, none, none, none, none]
theorem told_at_k {qs : List (Int × Int)} {worth : Int} (h : IsBox S b c) (hq : LowL 40 30 qs) (hl : qs.length ≤ 8) (hw : Bd 40 worth) (k : ∀ (r : TR) S', RowG qs.length r → IsBox S' b (c + (qs.length + 3)) → FrB b S S' → Q (tD r) S') (hc : c + (qs.length + 3) ≤ 1000000 := by omega) : wpR (g__law_told_at [.ref b, .tup (qs.map nD), .int worth] S) Q E := by
  refine wp_fn rfl ?_
  have hb := h.lt
  refine w_mid (fun sd S1 => ∃ ps : List Int, sd = slt b qs worth S.length ∧ ps.length = qs.length ∧ (∀ p ∈ ps, Bd 3 p) ∧ S1[S.length]? = some (.lst (iLs ps)) ∧ IsBox S1 b (c + qs.length) ∧ FrB b S S1) ?_ ?_
  · rw [w_set]
    refine lock_tup rfl (wp_eLc (it_tup rfl ?_))
    refine lc_fin (m := 1) (fun _ _ d => ∃ i : Int, d = .int i ∧ Bd 3 i) (fun _ z => z) (fun z => z) h (fun _ _ => trivial) (by simp; omega) (fun j d hd S2 f2 b2 => ?_) (fun S1 ys f1 b1 e1 l1 p1 => ?_)
    · have jl := (List.getElem?_eq_some_iff.mp hd).1
      rw [List.length_map] at jl
      refine pick_c htk (n := 8) ([0, 1, -1, 0, 2, -3, 0, 1].map D.int) (fun S1 => rfl) rfl b2 rfl fun x S3 hx b3 f3 => ?_
      obtain ⟨i, hi, rfl⟩ := List.mem_map.mp hx
      exact ⟨⟨i, rfl, bd_mem hi (by decide)⟩, b3.mono (by omega), f3⟩
    · obtain ⟨ps, rfl, hps⟩ := ints_of p1
      rw [iLs_len, List.length_map] at l1
      rw [List.length_map] at b1
      exact ⟨ps, rfl, l1, hps, e1, b1.mono (by omega), f1⟩
  rintro sd S1 ⟨ps, rfl, l1, hps, e1, b1, f1⟩
  refine w_mid (fun sd S1 => ∃ ps : List Int, sd = slt b qs worth S.length ∧ ps.length = qs.length ∧ (∀ p ∈ ps, Bd 3 p) ∧ (qs ≠ [] → ∃ p ∈ ps, p ≠ 0) ∧ S1[S.length]? = some (.lst (iLs ps)) ∧ IsBox S1 b (c + (qs.length + 2)) ∧ FrB b S S1) ?_ ?_
  · rw [w_if, v_band, v_asB, v_bin, wpR_var]
    refine ⟨_, rfl, ?_⟩
    rw [v_tup, v_nil]
    refine ⟨fits_of (by simp), ?_⟩
    rw [wp_netnil (j := 1) (fun d hd => by obtain ⟨q, _, rfl⟩ := List.mem_map.mp hd; exact nD_pd q)]
    refine ⟨_, rfl, ?_⟩
    by_cases hne : qs = []
    · subst hne
      exact ⟨ps, rfl, l1, hps, fun z => absurd rfl z, e1, b1.mono (by omega), f1⟩
    · have e0 : (qs.map nD).isEmpty = false := by cases qs <;> simp at hne ⊢
      rw [e0]
      simp only [Bool.not_false, if_true]
      refine nonz_k rfl (rdL_lst e1) (by simp) (by omega) fun S2 f2 => ?_
      have e2 := f2.at e1
      cases ha : (ps.any fun n => !decide (n = 0)) with
      | true =>
        obtain ⟨p, hp, hz⟩ := List.any_eq_true.mp ha
        exact ⟨ps, rfl, l1, hps, fun _ => ⟨p, hp, by simpa using hz⟩, e2, (b1.fr f2).mono (by omega), f1.trans (f2.b b)⟩
      | false =>
        simp only [Bool.not_false, if_true]
        rw [w_asg, v_bin, wpR_c, v_bin, wpR_c, v_call, v_cons, wpR_var]
        refine ⟨_, rfl, ?_⟩
        rw [v_cons, wpR_c, v_nil]
        refine takes_k htk (b1.fr f2) fun s S3 hs b3 f3 => ?_
        have bs : Bd 2 (s : Int) := by unfold Bd; omega
        rw [wp_mul, wp_sub]
        refine ⟨mulf (show Bd 2 2 by unfold Bd; decide) bs, ?_⟩
        have ql : 0 < qs.length := by cases qs <;> simp at hne ⊢
        refine wp_gsub ?_
        rw [wpR_var]
        refine ⟨_, rfl, ?_⟩
        rw [v_call, v_cons, wpR_var]
        refine ⟨_, rfl, ?_⟩
        rw [v_cons, v_callB, v_cons, wpR_var]
        refine ⟨_, rfl, ?_⟩
        rw [v_nil, wp_len]
        refine ⟨_, rfl, ?_⟩
        rw [v_nil]
        refine takes_k htk b3 (fun i S4 hi b4 f4 => ?_) (by simp; omega) (by simp; omega)
        rw [List.length_map] at hi
        have e4 : S4[S.length]? = some (.lst (iLs ps)) := f4.at (f3.at e2 (by omega)) (by omega)
        have n4 := (List.getElem?_eq_some_iff.mp e4).1
        refine ⟨_, i, _, rfl, rfl, e4, by rw [iLs_len]; omega, ps.set i (1 - 2 * (s : Int)), rfl, by simpa using l1, fun p hp => ?_, fun _ => ?_, ?_, ?_, ?_⟩
        · rcases List.mem_or_eq_of_mem_set hp with z | z
          · exact hps _ z
          · subst z
            unfold Bd
            omega
        · refine ⟨1 - 2 * (s : Int), ?_, by omega⟩
          exact List.mem_iff_getElem?.mpr ⟨i, List.getElem?_set_self (by omega)⟩
        · rw [List.getElem?_set_self n4]
          unfold iLs
          rw [List.map_set]
        · obtain ⟨g, f, mm, n, e, r⟩ := b4.mono (show _ ≤ c + (qs.length + 2) by omega)
          exact ⟨g, f, mm, n, by rw [List.getElem?_set_ne (by omega)]; exact e, r⟩
        · exact (f1.trans ((f2.b b).trans (f3.trans f4))).setB _ (Nat.le_refl _)
  rintro sd S2 ⟨ps, rfl, l2, hp2, hnz, e2, b2, f2⟩
  have at_ : ∀ (j : Nat), j < qs.length → ∃ p q, ps[j]? = some p ∧ qs[j]? = some q ∧ Bd 3 p ∧ Low 40 30 q := fun j hj => by
    have e1 : ps[j]? = some (ps[j]'(by omega)) := List.getElem?_eq_getElem (by omega)
    have e2 : qs[j]? = some (qs[j]'(by omega)) := List.getElem?_eq_getElem (by omega)
    exact ⟨_, _, e1, e2, hp2 _ (List.mem_of_getElem? e1), hq _ (List.mem_of_getElem? e2)⟩
  -- the last integer
  rw [w_seq, w_set, v_bin, wpR_var]
  refine ⟨_, rfl, ?_⟩
  rw [v_callB, v_cons]
  refine wp_eLc ?_
  refine rgLen_k (n := qs.length) rfl (by rw [len_tup, List.length_map]) (by omega) ?_
  refine lc_fin (m := 0) (fun _ _ d => ∃ i : Int, d = .int i ∧ Bd 43 i) (fun _ z => z) (fun z => z) b2 (fun _ _ => trivial) (by rw [rngN_len]; omega) (fun j d hd S3 f3 b3 => ?_) (fun S3 ys f3 b3 e3 l3 p3 => ?_)
  · obtain ⟨rfl, hj⟩ := rngN_at hd
    obtain ⟨p, q, ep, eq, bp, lq⟩ := at_ j hj
    have e4 := rdL_lst (f3.at e2 (by omega))
    rw [v_bin, v_bin, wpR_var]
    refine ⟨_, rfl, ?_⟩
    rw [wpR_var]
    refine ⟨_, rfl, ?_⟩
    rw [wp_ixR]
    refine ⟨_, e4, _, atI_of (get_iLs ep), ?_⟩
    rw [v_bin, v_bin, wpR_var]
    refine ⟨_, rfl, ?_⟩
    rw [wpR_var]
    refine ⟨_, rfl, ?_⟩
    rw [wp_ixT]
    refine ⟨_, atI_of (by rw [List.getElem?_map, eq]; rfl), ?_⟩
    rw [wpR_c, nD_0, wp_mul]
    exact ⟨mulf bp lq.top, ⟨_, rfl, bp.mul lq.top⟩, b3, FrB.refl⟩
  obtain ⟨is, rfl, his⟩ := ints_of p3
  rw [v_nil, wp_sum (rdL_lst e3), wp_sub]
  rw [iLs_len, rngN_len] at l3
  have bsum := Bd.sum (k := 3) his (by omega)
  have bl : Bd 80 (worth - is.sum) := ((hw.mono (by decide)).sub bsum).mono (by decide)
  generalize worth - is.sum = last at bl
  have F3 := f2.trans f3
  have e3' := f3.at e2 (by omega)
  -- the row
  simp only []
  rw [w_seq, w_set, v_bin, v_callB, v_cons]
  refine wp_eLc ?_
  refine rgLen_k (n := qs.length) rfl (by rw [len_tup, List.length_map]) (by omega) ?_
  refine lc_fin (m := 0) (fun j _ d => ∃ p q, ps[j]? = some p ∧ qs[j]? = some q ∧ d = .int (p * q.2)) (fun _ z => z) (fun z => z) b3 (fun _ _ => trivial) (by rw [rngN_len]; omega) (fun j d hd S4 f4 b4 => ?_) (fun S4 ys f4 b4 e4 l4 p4 => ?_)
  · obtain ⟨rfl, hj⟩ := rngN_at hd
    obtain ⟨p, q, ep, eq, bp, lq⟩ := at_ j hj
    have e5 := rdL_lst (f4.at e3' (by omega))
    rw [v_bin, v_bin, wpR_var]
    refine ⟨_, rfl, ?_⟩
    rw [wpR_var]
    refine ⟨_, rfl, ?_⟩
    rw [wp_ixR]
    refine ⟨_, e5, _, atI_of (get_iLs ep), ?_⟩
    rw [v_bin, v_bin, wpR_var]
    refine ⟨_, rfl, ?_⟩
    rw [wpR_var]
    refine ⟨_, rfl, ?_⟩
    rw [wp_ixT]
    refine ⟨_, atI_of (by rw [List.getElem?_map, eq]; rfl), ?_⟩
    rw [wpR_c, nD, wp_ixT]
    refine ⟨_, atI_1 _ _ _, ?_⟩
    rw [wp_mul]
    exact ⟨mulf bp lq.base, ⟨p, q, ep, eq, rfl⟩, b4, FrB.refl⟩
  rw [rngN_len] at l4
  have hys := zip_iLs l2 l4 p4
  subst hys
  rw [v_nil, wp_tupL (rdL_lst e4), v_tup, v_cons, wpR_var]
  refine ⟨_, rfl, ?_⟩
  rw [v_nil]
  refine ⟨fits_of (by simp), ?_⟩
  rw [wp_addT (by rw [iLs_len]; simp; omega)]
  simp only []
  generalize hws : List.zipWith (fun p q => p * q.2) ps qs = ws
  have lws : ws.length = qs.length := by rw [← hws, List.length_zipWith]; omega
  have bws : ∀ w ∈ ws, Bd 60 w := fun w hw => by
    rw [← hws] at hw
    obtain ⟨j, hj⟩ := List.mem_iff_getElem?.mp hw
    rw [List.getElem?_zipWith] at hj
    have hjl : j < qs.length := by
      have := (List.getElem?_eq_some_iff.mp (show (List.zipWith (fun p q => p * q.2) ps qs)[j]? = some w by rw [List.getElem?_zipWith]; exact hj)).1
      rw [List.length_zipWith] at this
      omega
    obtain ⟨p, q, ep, eq, bp, lq⟩ := at_ j hjl
    rw [ep, eq] at hj
    cases hj
    exact (bp.mul lq.base).mono (by decide)
  have nzws : qs ≠ [] → ∃ w ∈ ws, w ≠ 0 := fun z => by
    obtain ⟨p, hp, p0⟩ := hnz z
    obtain ⟨j, hj⟩ := List.mem_iff_getElem?.mp hp
    have hjl := (List.getElem?_eq_some_iff.mp hj).1
    obtain ⟨p', q, ep, eq, bp, lq⟩ := at_ j (by omega)
    rw [hj] at ep
    cases ep
    refine ⟨p * q.2, List.mem_iff_getElem?.mpr ⟨j, by rw [← hws, List.getElem?_zipWith, hj, eq]⟩, ?_⟩
    intro e0
    rcases Int.mul_eq_zero.mp e0 with z | z
    · exact p0 z
    · have := lq.pos; omega
  have erow : iLs ws ++ [D.int last] = iLs (ws ++ [last]) := by simp [iLs]
  rw [erow, w_ret, v_if]
  have F4 := F3.trans f4
  refine nonzT_k (ns := ws ++ [last]) rfl (by simp) (by simp; omega) fun S5 f5 => ?_
  cases ha : ((ws ++ [last]).any fun n => !decide (n = 0)) with
  | true =>
    simp only [if_true]
    rw [wpR_var]
    refine ⟨_, rfl, ?_⟩
    obtain ⟨w, hw, hz⟩ := List.any_eq_true.mp ha
    exact k (ws, last) S5 ⟨lws, bws, bl, w, hw, by simpa using hz⟩ ((b4.fr f5).mono (by omega)) (F4.trans (f5.b b))
  | false =>
    simp only [Bool.false_eq_true, if_false]
    have q0 : qs = [] := by
      rcases Classical.em (qs = []) with z | z
      · exact z
      · obtain ⟨w, hw, w0⟩ := nzws z
        exfalso
        rw [List.any_eq_false] at ha
        exact ha w (by simp [hw]) (by simpa using w0)
    rw [v_tup, v_cons, v_bin, wpR_c, v_bin, wpR_c, v_call, v_cons, wpR_var]
    refine ⟨_, rfl, ?_⟩
    rw [v_cons, wpR_c, v_nil]
    refine takes_k htk (b4.fr f5) fun s S6 hs b6 f6 => ?_
    have bs : Bd 2 (s : Int) := by unfold Bd; omega
    rw [wp_mul, wp_sub]
    refine ⟨mulf (show Bd 2 2 by unfold Bd; decide) bs, ?_⟩
    rw [v_nil]
    refine ⟨fits_of (by simp), ?_⟩
    refine k ([], 1 - 2 * (s : Int)) S6 ⟨by rw [q0]; rfl, by simp, by unfold Bd; omega, _, List.mem_singleton.mpr rfl, by omega⟩ (b6.mono (by omega)) (F4.trans ((f5.b b).trans f6))
end
end Kk12
end Lay

set_option Elab.async false
set_option linter.all false
set_option maxRecDepth 100000
set_option maxHeartbeats 4000000
/-! the pure law: systems drawn -/
namespace Lay
namespace Kk12
open PySem PySem.Spec PyProof.Rows L2
open Classical
section
variable {S : Store} {b c : Nat} {Q : D → Store → Prop} {E : Ex → Store → Prop}
def Rows (n : Nat) (rs : List TR) : Prop := ∀ r ∈ rs, RowG n r
theorem rows_of {n : Nat} {ys : List D} (h : ∀ (j : Nat) y, ys[j]? = some y → ∃ r, y = tD r ∧ RowG n r) : ∃ rs, ys = rs.map tD ∧ Rows n rs := by
  induction ys with
  | nil => exact ⟨[], rfl, fun r hr => by simp at hr⟩
  | cons y ys ih =>
    obtain ⟨r, rfl, hr⟩ := h 0 y rfl
    obtain ⟨rs, rfl, hrs⟩ := ih fun j y e => h (j + 1) y (by simpa using e)
    exact ⟨r :: rs, rfl, fun x hx => by
      rcases List.mem_cons.mp hx with rfl | hx
      · exact hr
      · exact hrs x hx⟩
theorem drawn_k {qs : List (Int × Int)} (h : IsBox S b c) (hq : LowL 40 30 qs) (hl : qs.length ≤ 8) (k : ∀ (A B : List TR) S', Rows qs.length A → Rows qs.length B → A.length ≤ 5 → B.length ≤ 6 → IsBox S' b (c + 150) → FrB b S S' → Q (sysD qs.length A B) S') (hc : c + 150 ≤ 1000000 := by omega) : wpR (g__law_drawn [.ref b, .tup (qs.map nD)] S) Q E := by
  refine wp_fn rfl ?_
  have hb := h.lt
  have p9 : powFits 10 9 = true := by decide
  rw [w_seq, w_set]
  refine wp_eLc (rg_k ?_)
  rw [v_cons]
  refine tkE htk rfl h fun t S1 ht b1 f1 => ?_
  rw [v_nil]
  refine ⟨t, rfl, by omega, ?_⟩
  refine lc_fin (m := 11) (fun _ _ d => ∃ r, d = tD r ∧ RowG qs.length r) (fun _ z => z) (fun z => z) b1 (fun _ _ => trivial) (by rw [rngN_len]; omega) (fun j d hd S2 f2 b2 => ?_) (fun S2 ys f2 b2 e2 l2 p2 => ?_)
  · obtain ⟨rfl, hj⟩ := rngN_at hd
    rw [v_call, v_cons, wpR_var]
    refine ⟨_, rfl, ?_⟩
    rw [v_cons, wpR_var]
    refine ⟨_, rfl, ?_⟩
    rw [v_cons, wpR_c, v_nil]
    refine told_at_k b2 hq hl (by unfold Bd; decide) fun r S3 hr b3 f3 => ?_
    exact ⟨⟨r, rfl, hr⟩, b3.mono (by omega), f3⟩
  obtain ⟨A, rfl, hA⟩ := rows_of p2
  rw [List.length_map, rngN_len] at l2
  rw [rngN_len] at b2
  simp only []
  rw [w_seq, w_set]
  refine wp_eLc (rg_k ?_)
  rw [v_cons]
  refine tkE htk rfl b2 fun t2 S3 ht2 b3 f3 => ?_
  rw [v_nil]
  refine ⟨t2, rfl, by omega, ?_⟩
  have e3 := f3.at e2 (by have := f1.1; omega)
  refine lc_fin (m := 12) (fun _ _ d => ∃ r, d = tD r ∧ RowG qs.length r) (fun _ z => z) (fun z => z) b3 (fun _ _ => trivial) (by rw [rngN_len]; omega) (fun j d hd S4 f4 b4 => ?_) (fun S4 ys f4 b4 e4 l4 p4 => ?_)
  · obtain ⟨rfl, hj⟩ := rngN_at hd
    rw [v_call, v_cons, wpR_var]
    refine ⟨_, rfl, ?_⟩
    rw [v_cons, wpR_var]
    refine ⟨_, rfl, ?_⟩
    rw [v_cons]
    refine pick_e htk [0, 0, 1, 5, 1000000000] (by simp [p9]) rfl b4 rfl fun w S5 hw b5 f5 => ?_
    rw [v_nil]
    refine told_at_k b5 hq hl (bd_mem hw (by decide)) fun r S6 hr b6 f6 => ?_
    exact ⟨⟨r, rfl, hr⟩, b6.mono (by omega), f5.trans f6⟩
  obtain ⟨B, rfl, hB⟩ := rows_of p4
  rw [List.length_map, rngN_len] at l4
  rw [rngN_len] at b4
  simp only []
  rw [w_seq, w_set]
  refine tkE htk rfl b4 fun way S5 hway b5 f5 => ?_
  have l1S : S.length ≤ S1.length := f1.1
  have l3S : S.length ≤ S3.length := (f1.trans (f2.trans f3)).1
  have bn1 : S1.length ≠ b := by omega
  have bn3 : S3.length ≠ b := by omega
  have n13 : S1.length < S3.length := Nat.lt_of_lt_of_le (List.getElem?_eq_some_iff.mp e2).1 f3.1
  have e1' := f5.at (f4.at e3 bn1) bn1
  have e2' := f5.at e4 bn3
  have F5 := f1.trans (f2.trans (f3.trans (f4.trans f5)))
  replace b5 : IsBox S5 b (c + 104) := b5.mono (by omega)
  -- a row put in
  have ins : ∀ (v p : Nat) (rs : List TR) (sd : SD) (S : Store) (cc : Nat) (is : List Int) (aa : EA) (QQ : Store → Prop), sd[0]? = some (some (.ref b)) → sd[1]? = some (some (.tup (qs.map nD))) → sd[v]? = some (some (.ref p)) → p ≠ b → S[p]? = some (.lst (rs.map tD)) → Rows qs.length rs → rs.length ≤ 6 → IsBox S b cc → cc + 13 ≤ 1000000 →
      (∀ S, wpR (aa sd S) (fun xs S1 => S1 = S ∧ xs = is.map D.int) fun _ _ => False) → is.length = 3 → (∀ i ∈ is, Bd 40 i) →
      (∀ S' rs', FrB b S (S'.set p (.lst (rs.map tD))) → S'[p]? = some (.lst (rs'.map tD)) → (∀ i, i < S.length → i ≠ b → i ≠ p → S'[i]? = S[i]?) → S.length ≤ S'.length → Rows qs.length rs' → rs'.length = rs.length + 1 → IsBox S' b (cc + 13) → QQ S') →
      wpR (eMthL pInsert (eVar v) (aCons (eCall g__law_take (aCons (eVar 0) (aCons (eBin pAdd (eCallB pLen (aCons (eVar v) aNil)) (eC (.int 1))) aNil))) (aCons (eCall g__law_told_at (aCons (eVar 0) (aCons (eVar 1) (aCons (eBin pIx (eLst aa) (eCall g__law_take (aCons (eVar 0) (aCons (eC (.int 3)) aNil)))) aNil)))) aNil)) sd S) (fun _ S' => QQ S') E := by
    intro v p rs sd S cc is aa QQ h0 h1 hv hp he hrs hl6 hbx hcc haa hls his kk
    rw [v_mthL, wpR_var]
    refine ⟨_, hv, ?_⟩
    refine ⟨by rw [isL_ref, rdL_lst he]; rfl, ?_⟩
    rw [v_cons]
    refine tkLen1 htk h0 hv (lenL_of he) hbx (fun i S6 hi b6 f6 => ?_) (by simp; omega)
    rw [v_cons, v_call, v_cons, wpR_var]
    refine ⟨_, h0, ?_⟩
    rw [v_cons, wpR_var]
    refine ⟨_, h1, ?_⟩
    rw [v_cons]
    refine pick_e htk is (wpR_mono (haa S6) (fun _ _ z => z) fun _ _ z => z.elim) h0 b6 hls fun w S7 hw b7 f7 => ?_
    rw [v_nil]
    refine told_at_k b7 hq hl (his w hw) fun r S8 hr b8 f8 => ?_
    rw [v_nil]
    have F := f6.trans (f7.trans f8)
    have e8 := F.at he hp
    have n8 := (List.getElem?_eq_some_iff.mp e8).1
    rw [List.length_map] at hi
    rw [wp_insert e8 (by omega) (by simp; omega)]
    refine kk _ (rs.take i ++ [r] ++ rs.drop i) ?_ ?_ (fun j hj hjb hjp => ?_) (by simpa using F.1) ?_ ?_ ?_
    · rw [List.set_set]
      refine ⟨by simpa using F.1, fun j hj hjb => ?_⟩
      by_cases ejp : j = p
      · subst ejp
        rw [List.getElem?_set_self n8, he]
      · rw [List.getElem?_set_ne (Ne.symm ejp)]
        exact F.2 j hj hjb
    · rw [List.getElem?_set_self n8]
      simp
    · rw [List.getElem?_set_ne (Ne.symm hjp)]
      exact F.2 j hj hjb
    · intro x hx
      rcases List.mem_append.mp hx with hx | hx
      · rcases List.mem_append.mp hx with hx | hx
        · exact hrs x (List.mem_of_mem_take hx)
        · rw [List.mem_singleton.mp hx]; exact hr
      · exact hrs x (List.mem_of_mem_drop hx)
    · simp; omega
    · exact IsBox.setNe (b8.mono (by omega)) hp
  simp only []
  refine w_mid (fun sd S6 => sd = [some (.ref b), some (.tup (qs.map nD)), some (.ref S1.length), some (.ref S3.length), some (.int way), none] ∧ ∃ B' : List TR, Rows qs.length B' ∧ B'.length ≤ 6 ∧ S6[S3.length]? = some (.lst (B'.map tD)) ∧ S6[S1.length]? = some (.lst (A.map tD)) ∧ IsBox S6 b (c + 117) ∧ FrB b S S6) ?_ ?_
  · rw [w_if, v_asB, v_bin, wpR_var]
    refine ⟨_, rfl, ?_⟩
    rw [wpR_c, wp_eq]
    refine ⟨_, rfl, ?_⟩
    by_cases w0 : (way : Int) = 0
    · simp only [w0, decide_true, if_true]
      rw [w_expr]
      refine ins 3 S3.length B _ S5 (c + 104) [-1, -1, -1000000000] _ _ rfl rfl rfl bn3 e2' hB (by omega) b5 (by omega) (fun S => by simp [p9]) rfl (fun i hi => bd_mem hi (by decide)) (fun S6 rs' g1 g2 g3 g4 g5 g6 g7 => ?_)
      refine ⟨by simp [startD, N__law_drawn, w0], rs', g5, by omega, g2, ?_, g7, ?_⟩
      · rw [g3 _ (List.getElem?_eq_some_iff.mp e1').1 bn1 (by omega)]; exact e1'
      · exact ⟨Nat.le_trans F5.1 g4, fun i hi hib => by rw [g3 i (Nat.lt_of_lt_of_le hi F5.1) hib (by omega)]; exact F5.2 i hi hib⟩
    · simp only [w0, decide_false, Bool.false_eq_true, if_false]
      rw [w_next]
      exact ⟨rfl, B, hB, by omega, e2', e1', b5.mono (by omega), F5⟩
  rintro sd S6 ⟨rfl, B', hB', lB', e6, e6', b6, F6⟩
  refine w_mid (fun sd S7 => sd = [some (.ref b), some (.tup (qs.map nD)), some (.ref S1.length), some (.ref S3.length), some (.int way), none] ∧ ∃ A' : List TR, Rows qs.length A' ∧ A'.length ≤ 5 ∧ S7[S3.length]? = some (.lst (B'.map tD)) ∧ S7[S1.length]? = some (.lst (A'.map tD)) ∧ IsBox S7 b (c + 131) ∧ FrB b S S7) ?_ ?_
  · rw [w_if, v_band, v_asB, v_bin, wpR_var]
    refine ⟨_, rfl, ?_⟩
    rw [wpR_c, wp_eq]
    refine ⟨_, rfl, ?_⟩
    by_cases w0 : (way : Int) = 1
    · simp only [w0, decide_true, if_true]
      rw [v_asB, v_bin]
      refine tkE htk rfl b6 fun s S7 hs b7 f7 => ?_
      rw [wpR_c, wp_eq]
      refine ⟨_, rfl, ?_⟩
      have e7 := f7.at e6 bn3
      have e7' := f7.at e6' bn1
      have F7 := F6.trans f7
      by_cases s0 : (s : Int) = 0
      · simp only [s0, decide_true, if_true]
        rw [w_expr]
        refine ins 2 S1.length A _ S7 (c + 118) [1, -1, 1000000000] _ _ rfl rfl rfl bn1 e7' hA (by omega) b7 (by omega) (fun S => by simp [p9]) rfl (fun i hi => bd_mem hi (by decide)) (fun S8 rs' g1 g2 g3 g4 g5 g6 g7 => ?_)
        refine ⟨by simp [w0], rs', g5, by omega, ?_, g2, g7, ?_⟩
        · rw [g3 _ (List.getElem?_eq_some_iff.mp e7).1 bn3 (by omega)]; exact e7
        · exact ⟨Nat.le_trans F7.1 g4, fun i hi hib => by rw [g3 i (Nat.lt_of_lt_of_le hi F7.1) hib (by omega)]; exact F7.2 i hi hib⟩
      · simp only [s0, decide_false, Bool.false_eq_true, if_false]
        rw [w_next]
        exact ⟨by simp [w0], A, hA, by omega, e7, e7', b7.mono (by omega), F7⟩
    · simp only [w0, decide_false, Bool.false_eq_true, if_false]
      rw [w_next]
      exact ⟨rfl, A, hA, by omega, e6, e6', b6.mono (by omega), F6⟩
  rintro sd S7 ⟨rfl, A', hA', lA', e7, e7', b7, F7⟩
  rw [w_ret, v_tup, v_cons, v_callB, v_cons, wpR_var]
  refine ⟨_, rfl, ?_⟩
  rw [v_nil, wp_len]
  refine ⟨_, rfl, ?_⟩
  rw [v_cons, v_callB, v_cons, wpR_var]
  refine ⟨_, rfl, ?_⟩
  rw [v_nil, wp_tupL (rdL_lst e7'), v_cons, v_callB, v_cons, wpR_var]
  refine ⟨_, rfl, ?_⟩
  rw [v_nil, wp_tupL (rdL_lst e7), v_nil]
  refine ⟨fits_of (by simp), ?_⟩
  rw [List.length_map]
  exact k A' B' S7 hA' hB' lA' lB' (b7.mono (by omega)) F7
end
end Kk12
end Lay

set_option Elab.async false
set_option linter.all false
set_option maxRecDepth 100000
set_option maxHeartbeats 4000000
/-! the pure law: told rows drawn; values of other kinds -/
namespace Lay
namespace Kk12
open PySem PySem.Spec PyProof.Rows L2
open Classical
section
variable {S : Store} {b c : Nat} {Q : D → Store → Prop} {E : Ex → Store → Prop}
theorem iLs_set (ns : List Int) (i : Nat) (x : Int) : (iLs ns).set i (.int x) = iLs (ns.set i x) := by unfold iLs; rw [List.map_set]
theorem told_drawn_k {n : Nat} {z : Int} (hz : z = n) (h : IsBox S b c) (hn : n ≤ 80) (k : ∀ (ns : List Int) S', ns.length = n + 1 → (∀ x ∈ ns, Bd 90 x) → (∃ x ∈ ns, x ≠ 0) → IsBox S' b (c + 100) → FrB b S S' → Q (.tup (iLs ns)) S') (hc : c + 100 ≤ 1000000 := by omega) : wpR (g__law_told_drawn [.ref b, .int z] S) Q E := by
  refine wp_fn rfl ?_
  have hb := h.lt
  have p18 : powFits 10 18 = true := by decide
  have p7 : powFits 10 7 = true := by decide
  rw [w_seq, w_set]
  refine wp_eLc (rg_k ?_)
  rw [v_cons, v_bin, wpR_var]
  refine ⟨_, rfl, ?_⟩
  rw [wpR_c, wp_add, v_nil]
  refine ⟨n + 1, by rw [hz]; simp, by omega, ?_⟩
  refine lc_fin (m := 1) (fun _ _ d => ∃ i : Int, d = .int i ∧ Bd 4 i) (fun _ z => z) (fun z => z) h (fun _ _ => trivial) (by rw [rngN_len]; omega) (fun j d hd S2 f2 b2 => ?_) (fun S1 ys f1 b1 e1 l1 p1 => ?_)
  · obtain ⟨rfl, hj⟩ := rngN_at hd
    refine pick_c htk (n := 8) ([0, 0, 1, -1, 2, -3, 4, -6].map D.int) (fun S1 => rfl) rfl b2 rfl fun x S3 hx b3 f3 => ?_
    obtain ⟨i, hi, rfl⟩ := List.mem_map.mp hx
    exact ⟨⟨i, rfl, bd_mem hi (by decide)⟩, b3.mono (by omega), f3⟩
  obtain ⟨ns, rfl, hns⟩ := ints_of p1
  rw [iLs_len, rngN_len] at l1
  rw [rngN_len] at b1
  simp only []
  have bn : S.length ≠ b := by omega
  -- an item is set
  have setk : ∀ (ns : List Int) (x : Int) (sd : SD) (S1 : Store) (cc : Nat) (QQ : SD → Store → Prop), sd[0]? = some (some (.ref b)) → sd[1]? = some (some (.int z)) → sd[2]? = some (some (.ref S.length)) → S1[S.length]? = some (.lst (iLs ns)) → ns.length = n + 1 → IsBox S1 b cc → cc + 1 ≤ 1000000 → FrB b S S1 →
      (∀ i S2, i < n + 1 → S2[S.length]? = some (.lst (iLs (ns.set i x))) → IsBox S2 b (cc + 1) → FrB b S S2 → QQ sd S2) →
      wpP (gSubD (eVar 2) (eCall g__law_take (aCons (eVar 0) (aCons (eBin pAdd (eVar 1) (eC (.int 1))) aNil))) (.int x) sd S1) QQ := by
    intro ns x sd S1 cc QQ h0 h1 h2 e1 l1 b1 hcc f1 kk
    refine wp_gsub ?_
    rw [wpR_var]
    refine ⟨_, h2, ?_⟩
    rw [v_call, v_cons, wpR_var]
    refine ⟨_, h0, ?_⟩
    rw [v_cons, v_bin, wpR_var]
    refine ⟨_, h1, ?_⟩
    rw [wpR_c, wp_add, v_nil]
    refine takes_k htk b1 (fun i S2 hi b2 f2 => ?_) (by omega) (by omega)
    have e2 := f2.at e1 bn
    have n2 := (List.getElem?_eq_some_iff.mp e2).1
    refine ⟨_, i, _, rfl, rfl, e2, by rw [iLs_len]; omega, ?_⟩
    refine kk i _ (by omega) ?_ (IsBox.setNe b2 bn) ((f1.trans f2).setB _ (Nat.le_refl _))
    rw [List.getElem?_set_self n2, iLs_set]
  have bset : ∀ {ns : List Int} {x : Int} {i m : Nat}, (∀ y ∈ ns, Bd m y) → Bd m x → ∀ y ∈ ns.set i x, Bd m y := fun h1 h2 y hy => by
    rcases List.mem_or_eq_of_mem_set hy with z | z
    · exact h1 _ z
    · rw [z]; exact h2
  refine w_mid (fun sd S2 => sd = [some (.ref b), some (.int z), some (.ref S.length), none, none, none] ∧ ∃ ns : List Int, ns.length = n + 1 ∧ (∀ x ∈ ns, Bd 80 x) ∧ S2[S.length]? = some (.lst (iLs ns)) ∧ IsBox S2 b (c + 85) ∧ FrB b S S2) ?_ ?_
  · rw [w_if, v_asB, v_bin]
    refine tkE htk rfl b1 fun w S2 hw b2 f2 => ?_
    rw [wpR_c, wp_eq]
    refine ⟨_, rfl, ?_⟩
    have e2 := f2.at e1 bn
    by_cases w0 : (w : Int) = 0
    · simp only [w0, decide_true, if_true]
      rw [w_asg, v_bin, v_bin, v_bin, wpR_c, wpR_c, wp_pow]
      refine ⟨p18, ?_⟩
      rw [v_call, v_cons, wpR_var]
      refine ⟨_, rfl, ?_⟩
      rw [v_cons, v_bin, wpR_c, wpR_c, wp_pow]
      refine ⟨p7, ?_⟩
      rw [v_nil]
      refine takes_k htk b2 (fun t S3 ht b3 f3 => ?_) (by decide) (by decide)
      rw [wp_add, v_bin, wpR_c, v_bin, wpR_c]
      refine tkE htk rfl b3 fun s S4 hs b4 f4 => ?_
      rw [wp_mul]
      have bs : Bd 2 (s : Int) := by unfold Bd; omega
      refine ⟨mulf (show Bd 2 2 by unfold Bd; decide) bs, ?_⟩
      rw [wp_sub, wp_mul]
      have bt : Bd 61 ((10 : Int) ^ (18 : Int).toNat + (t : Int)) := by
        have : ((10 : Int) ^ (18 : Int).toNat) = 1000000000000000000 := by decide
        rw [this]
        have : ((10 : Int) ^ (7 : Int).toNat) = 10000000 := by decide
        rw [this] at ht
        unfold Bd
        omega
      have bs2 : Bd 2 (1 - 2 * (s : Int)) := by unfold Bd; omega
      refine ⟨mulf bt bs2, ?_⟩
      have bx := (bt.mul bs2)
      generalize ((10 : Int) ^ (18 : Int).toNat + (t : Int)) * (1 - 2 * (s : Int)) = x at bx
      refine setk ns x _ S4 _ _ rfl rfl rfl (f4.at (f3.at e2 bn) bn) l1 b4 (by omega) (f1.trans (f2.trans (f3.trans f4))) fun i S5 hi e5 b5 f5 => ?_
      exact ⟨rfl, ns.set i x, by simpa using l1, bset (fun y hy => (hns y hy).mono (by decide)) (bx.mono (by decide)), e5, b5.mono (by omega), f5⟩
    · simp only [w0, decide_false, Bool.false_eq_true, if_false]
      rw [w_next]
      exact ⟨rfl, ns, l1, fun y hy => (hns y hy).mono (by decide), e2, b2.mono (by omega), f1.trans f2⟩
  rintro sd S2 ⟨rfl, ns, l2, hns2, e2, b2, f2⟩
  refine w_mid (fun sd S2 => sd = [some (.ref b), some (.int z), some (.ref S.length), none, none, none] ∧ ∃ ns : List Int, ns.length = n + 1 ∧ (∀ x ∈ ns, Bd 80 x) ∧ (∃ x ∈ ns, x ≠ 0) ∧ S2[S.length]? = some (.lst (iLs ns)) ∧ IsBox S2 b (c + 90) ∧ FrB b S S2) ?_ ?_
  · rw [w_if]
    refine nonz_k rfl (rdL_lst e2) (by simp) (by omega) fun S3 f3 => ?_
    have e3 := f3.at e2
    cases ha : (ns.any fun n => !decide (n = 0)) with
    | true =>
      simp only [Bool.not_true, Bool.false_eq_true, if_false]
      rw [w_next]
      obtain ⟨p, hp, hz2⟩ := List.any_eq_true.mp ha
      exact ⟨rfl, ns, l2, hns2, ⟨p, hp, by simpa using hz2⟩, e3, (b2.fr f3).mono (by omega), f2.trans (f3.b b)⟩
    | false =>
      simp only [Bool.not_false, if_true]
      rw [w_asg]
      refine pick_c htk (n := 4) ([1, -1, 4, -9].map D.int) (fun S1 => rfl) rfl (b2.fr f3) rfl fun x S4 hx' b4 f4 => ?_
      obtain ⟨x, hx, rfl⟩ := List.mem_map.mp hx'
      clear hx'
      have x0 : x ≠ 0 := by rintro rfl; revert hx; decide
      refine setk ns x _ S4 _ _ rfl rfl rfl (f4.at e3 bn) l2 b4 (by omega) (f2.trans ((f3.b b).trans f4)) fun i S5 hi e5 b5 f5 => ?_
      exact ⟨rfl, ns.set i x, by simpa using l2, bset hns2 (bd_mem hx (by decide)), ⟨x, List.mem_iff_getElem?.mpr ⟨i, List.getElem?_set_self (by omega)⟩, x0⟩, e5, b5.mono (by omega), f5⟩
  rintro sd S3 ⟨rfl, ns, l3, hns3, ⟨x0, hx0, x0n⟩, e3, b3, f3⟩
  rw [w_seq, w_set]
  refine pick_c htk (n := 5) ([1, 1, 2, 6, 35].map D.int) (fun S1 => rfl) rfl b3 rfl fun x S4 hx b4 f4 => ?_
  obtain ⟨fac, hfac, rfl⟩ := List.mem_map.mp hx
  clear hx
  have fac0 : fac ≠ 0 := by rintro rfl; revert hfac; decide
  have bfac : Bd 6 fac := bd_mem hfac (by decide)
  have e4 := f4.at e3 bn
  simp only []
  rw [w_ret, v_callB, v_cons]
  refine lc_lst (vals := iLs ns) (fun _ => true) (fun d => match d with
    | .int m => .int (fac * m)
    | d => d) rfl (rdL_lst e4) (by rw [iLs_len]; omega) (fun d hd S5 f5 => ?_) (fun m S5 hm f5 e5 => ?_)
  · obtain ⟨m, hm, rfl⟩ := List.mem_map.mp hd
    rw [v_true]
    refine ⟨rfl, Fr.refl, fun _ => ?_⟩
    rw [v_bin, wpR_var]
    refine ⟨_, rfl, ?_⟩
    rw [wpR_var]
    refine ⟨_, rfl, ?_⟩
    rw [wp_mul]
    exact ⟨mulf bfac (hns3 m hm), rfl, Fr.refl⟩
  · rw [filt_true] at e5
    rw [v_nil, wp_tupL (rdL_lst e5)]
    have : (iLs ns).map (fun d => match d with
      | .int m => D.int (fac * m)
      | d => d) = iLs (ns.map fun m => fac * m) := by
      unfold iLs
      rw [List.map_map, List.map_map]
      rfl
    rw [this]
    refine k _ S5 (by simpa using l3) (fun y hy => ?_) ⟨fac * x0, List.mem_map.mpr ⟨x0, hx0, rfl⟩, fun e => ?_⟩ ((b4.fr f5).mono (by omega)) (f3.trans (f4.trans (f5.b b)))
    · obtain ⟨m, hm, rfl⟩ := List.mem_map.mp hy
      exact (bfac.mul (hns3 m hm)).mono (by decide)
    · rcases Int.mul_eq_zero.mp e with q | q
      · exact fac0 q
      · exact x0n q
end
end Kk12
end Lay

set_option Elab.async false
set_option linter.all false
set_option maxRecDepth 100000
set_option maxHeartbeats 4000000
/-! the pure law: spoilt values -/
namespace Lay
namespace Kk12
open PySem PySem.Spec PyProof.Rows L2
open Classical
section
variable {S : Store} {b c : Nat} {Q : D → Store → Prop} {E : Ex → Store → Prop}
theorem okS1 : okS "1" = true := by decide +kernel
theorem it_ints {ns : List Int} {k n : Nat} (hl : ns.length ≤ n) (hb : ∀ x ∈ ns, Bd 900 x) : IT b k n S (.tup (iLs ns)) := ⟨_, rfl, by rw [iLs_len]; exact hl, fun d hd => by
  obtain ⟨x, hx, rfl⟩ := List.mem_map.mp hd
  exact gd.int ((hb x hx).mono (by decide))⟩
theorem two_k {aa : EA} {i j : Nat} {sd : SD} {P : Ps} {x y : D} {S' : Store} (h : wpR (aa sd S) (fun xs S1 => xs = [x, y] ∧ S1 = S') NoE) (k : P.n ((sd.set i (some x)).set j (some y)) S') : wpS (sPar i j aa sd S) P := by
  rw [w_par]
  refine wpR_mono h (fun xs S1 ⟨e1, e2⟩ => ?_) fun _ _ z => z.elim
  subst e1 e2
  exact k
theorem bad_told_k {ns : List Int} (h : IsBox S b c) (hn : 0 < ns.length) (hl : ns.length ≤ 100) (hb : ∀ x ∈ ns, Bd 900 x) (k : ∀ x S', gd b S' 3 x → IsBox S' b (c + 3) → FrB b S S' → Q x S') (hc : c + 3 ≤ 1000000 := by omega) : wpR (g__law_bad_told [.ref b, .tup (iLs ns)] S) Q E := by
  refine wp_fn rfl ?_
  rw [w_seq, w_par, v_cons]
  refine tkE htk rfl h fun way S1 hw b1 f1 => ?_
  rw [v_cons]
  refine tkLen htk (n := ns.length) rfl rfl (by rw [len_tup, iLs_len]) b1 fun at_ S2 hat b2 f2 => ?_
  rw [v_nil, two_of]
  obtain ⟨x, ex⟩ : ∃ x, ns[at_]? = some x := ⟨ns[at_], List.getElem?_eq_getElem hat⟩
  have bx := hb x (List.mem_of_getElem? ex)
  have ix : ∀ {k : Nat} {sd : SD} {S : Store}, sd[1]? = some (some (.tup (iLs ns))) → sd[5]? = some (some (.int at_)) → GP b 0 (IG b k) (eBin pIx (eVar 1) (eVar 5)) sd S := fun {k sd S} h1 h5 S1 c f1 b1 hc => by
    rw [v_bin, wpR_var]
    refine ⟨_, h1, ?_⟩
    rw [wpR_var]
    refine ⟨_, h5, ?_⟩
    rw [wp_ixT]
    exact ⟨_, atI_of (get_iLs ex), FrB.refl, b1, gd.int (bx.mono (by decide))⟩
  simp only []
  rw [w_seq, w_set]
  refine GP.use (b := b) (m := 1) (P := IG b 2) (gp_pick (n := 6) (k := 2) (m := 0) htk rfl rfl ?_) b2 fun odd S3 hodd b3 f3 => ?_
  · refine ga_c gp_bl (ga_c gp_non (ga_c (gp_str okS1) (ga_c (gp_tup (ga_c (ix rfl rfl) (ga_c (gp_int (by unfold Bd; decide)) gp_nil))) (ga_c (gp_lst (ga_c (ix rfl rfl) gp_nil)) (ga_c gp_bl gp_nil)))))
  have F3 := f1.trans (f2.trans f3)
  have row : ∀ {k : Nat} {S : Store}, IT b k 100 S (.tup (iLs ns)) := it_ints hl hb
  simp only []
  refine w_mid (fun sd S4 => 3 ≤ (way : Int) ∧ sd = [some (.ref b), some (.tup (iLs ns)), some odd, none, some (.int way), some (.int at_)] ∧ S4 = S3) ?_ ?_
  · rw [w_if, v_asB, v_bin, wpR_var]
    refine ⟨_, rfl, ?_⟩
    rw [wpR_c, wp_lt]
    refine ⟨_, rfl, ?_⟩
    by_cases hw3 : (way : Int) < 3
    · simp only [hw3, decide_true, if_true]
      rw [w_ret]
      refine GP.use (b := b) (m := 0) (P := IT b 2 201) (gt_add (n := 101) (n' := 100) (m := 0) (m' := 0) (gt_add (n := 100) (n' := 1) (m := 0) (m' := 0) (gt_sl (gp_var rfl pm_t row) go_none (go_var rfl)) (gt_tup (ga_c (gp_var rfl pm_g hodd) gp_nil))) (gt_sl (gp_var rfl pm_t row) (go_add rfl) go_none)) b3 fun x S4 hx b4 f4 => ?_
      exact k x S4 (gd_of_t hx) b4 (F3.trans f4)
    · simp only [hw3, decide_false, Bool.false_eq_true, if_false]
      rw [w_next]
      exact ⟨by omega, rfl, rfl⟩
  rintro sd S4 ⟨hw3, rfl, rfl⟩
  rw [w_seq, w_set]
  have len : ∀ {S : Store} {P : Store → D → Prop}, (∀ S, P S (.int ns.length)) → GP b 0 P (eCallB pLen (aCons (eVar 1) aNil)) [some (.ref b), some (.tup (iLs ns)), some odd, none, some (.int way), some (.int at_)] S := fun {S P} hP S1 c f1 b1 hc => by
    rw [v_callB, v_cons, wpR_var]
    refine ⟨_, rfl, ?_⟩
    rw [v_nil, wp_len]
    refine ⟨_, rfl, FrB.refl, b1, ?_⟩
    rw [iLs_len]
    exact hP S1
  have zero : ∀ {k : Nat} {sd : SD} {S : Store}, GP b 0 (IG b k) (eC (.int 0)) sd S := gp_int (by unfold Bd; decide)
  have one : ∀ {k : Nat} {sd : SD} {S : Store}, GP b 0 (IG b k) (eC (.int 1)) sd S := gp_int (by unfold Bd; decide)
  refine GP.use (b := b) (m := 0) (P := ILn b 3 9) (gln_lst ?_) b3 fun vs S5 hvs b5 f5 => ?_
  · refine ga_c (m := 0) (m' := 0) ((gt_mul (n := 100) (m := 0) (m' := 0) (k := 2) (ga_c zero gp_nil) (len fun S => ⟨_, rfl, by omega⟩) (len fun S => ⟨_, rfl, by omega⟩)).weak fun S x z => gd_of_t z) ?_
    refine ga_c (m := 0) (m' := 0) ((gt_add (n := 100) (n' := 1) (m := 0) (m' := 0) (k := 2) (gp_var rfl pm_t row) (gt_tup (ga_c zero gp_nil))).weak fun S x z => gd_of_t z) ?_
    refine ga_c (m := 0) (m' := 0) ((gt_sl (k := 2) (gp_var rfl pm_t row) go_none go_neg).weak fun S x z => gd_of_t z) ?_
    refine ga_c (m := 0) (m' := 0) ((gl_list (k := 2) (gp_var rfl pm_t row)).weak fun S x z => gd_of_l z) ?_
    refine ga_c (m := 0) (m' := 0) ((gt_add (n := 100) (n' := 1) (m := 0) (m' := 0) (k := 2) (gp_var rfl pm_t row) (gt_tup (ga_c one gp_nil))).weak fun S x z => gd_of_t z) ?_
    refine ga_c (m := 0) (m' := 0) ((gt_add (n := 1) (n' := 100) (m := 0) (m' := 0) (k := 2) (gt_tup (ga_c zero gp_nil)) (gp_var rfl pm_t row)).weak fun S x z => gd_of_t z) ?_
    refine ga_c (m := 0) (m' := 0) (gp_int (by unfold Bd; decide)) (ga_c (m := 0) (m' := 0) gp_non (ga_c (m := 0) (m' := 0) (gp_tup (ga_c (gp_var rfl pm_g (gd_of_t row)) gp_nil)) gp_nil))
  simp only []
  rw [w_ret]
  refine GP.use (b := b) (m := 0) (P := IG b 3) (gp_ixl (n := 9) (m := 0) (m' := 0) (gp_var rfl pm_ln hvs) fun S1 c f1 b1 hc => ?_) b5 fun x S6 hx b6 f6 => ?_
  · rw [v_bin, wpR_var]
    refine ⟨_, rfl, ?_⟩
    rw [wpR_c, wp_sub]
    exact ⟨FrB.refl, b1, way - 3, by congr 1; omega, by omega⟩
  · exact k x S6 hx b6 (F3.trans (f5.trans f6))
end
end Kk12
end Lay

set_option Elab.async false
set_option linter.all false
set_option maxRecDepth 100000
set_option maxHeartbeats 4000000
/-! the pure law: spoilt systems, any values -/
namespace Lay
namespace Kk12
open PySem PySem.Spec PyProof.Rows L2
open Classical
section
variable {S : Store} {b c : Nat} {Q : D → Store → Prop} {E : Ex → Store → Prop}
theorem row_it {n : Nat} {r : TR} {k m : Nat} (h : RowG n r) (hn : n + 1 ≤ m) : IT b k m S (tD r) := it_ints (by simp [h.len]; exact hn) fun x hx => by
  rcases List.mem_append.mp hx with z | z
  · exact (h.bd x z).mono (by decide)
  · rw [List.mem_singleton.mp z]; exact h.last.mono (by decide)
theorem rows_it {n : Nat} {rs : List TR} {k m : Nat} (h : Rows n rs) (hn : n ≤ 80) (hl : rs.length ≤ m) : IT b (k + 1) m S (tDs rs) := ⟨_, rfl, by simpa using hl, fun d hd => by
  obtain ⟨r, hr, rfl⟩ := tD_mem hd
  exact gd_of_t (row_it (h r hr) (show n + 1 ≤ 81 by omega))⟩
theorem okS2 : okS "0" = true := by decide +kernel
theorem okS3 : okS "system" = true := by decide +kernel
theorem any_k (h : IsBox S b c) (k : ∀ x S', gd b S' 3 x → IsBox S' b (c + 1) → FrB b S S' → Q x S') (hc : c + 1 ≤ 1000000 := by omega) : wpR (g__law_any [.ref b] S) Q E := by
  refine wp_fn rfl ?_
  rw [w_ret]
  have t0 : ∀ {k : Nat} {sd : SD} {S : Store}, GP b 0 (IG b (k + 1)) (eTup aNil) sd S := gp_tup gp_nil
  have i0 : ∀ {k : Nat} {sd : SD} {S : Store}, GP b 0 (IG b k) (eC (.int 0)) sd S := gp_int (by unfold Bd; decide)
  have i1 : ∀ {k : Nat} {sd : SD} {S : Store}, GP b 0 (IG b k) (eC (.int 1)) sd S := gp_int (by unfold Bd; decide)
  have i5 : ∀ {k : Nat} {sd : SD} {S : Store}, GP b 0 (IG b k) (eC (.int 5)) sd S := gp_int (by unfold Bd; decide)
  have m1 : ∀ {k : Nat} {sd : SD} {S : Store}, GP b 0 (IG b k) (eNeg (eC (.int 1))) sd S := gp_neg (by unfold Bd; decide)
  have d1 : ∀ {k : Nat} {sd : SD} {S : Store}, GP b 0 (IG b (k + 1)) (eDct [.inr ("a" : Str)] (aCons (eC (.int 1)) aNil)) sd S := fun {k sd S} => gp_dct (ds := [.int 1]) (fun _ => rfl) rfl (by decide) (by decide) (fun d hd => by
    rw [List.mem_singleton.mp hd]
    cases k <;> (simp only [plain]; unfold Bd; decide))
  have t3 : ∀ {x y z : EE} {k : Nat} {sd : SD} {S : Store}, GP b 0 (IG b k) x sd S → GP b 0 (IG b k) y sd S → GP b 0 (IG b k) z sd S → GP b 0 (IG b (k + 1)) (eTup (aCons x (aCons y (aCons z aNil)))) sd S := fun h1 h2 h3 => gp_tup (n := 3) (m := 0) (ga_c (m := 0) (m' := 0) h1 (ga_c (m := 0) (m' := 0) h2 (ga_c (m := 0) (m' := 0) h3 gp_nil)))
  refine GP.use (b := b) (m := 1) (P := IG b 3) (gp_pick (n := 14) (k := 3) (m := 0) htk rfl rfl ?_) h fun x S1 hx b1 f1 => k x S1 hx b1 f1
  have cn : ∀ {e : EE} {aa : EA} {n : Nat} {sd : SD} {S : Store}, GP b 0 (IG b 3) e sd S → GPA b 0 (IG b 3) n aa sd S → GPA b 0 (IG b 3) (n + 1) (aCons e aa) sd S := fun h1 h2 => ga_c (m := 0) (m' := 0) h1 h2
  exact cn gp_non (cn gp_bl (cn i5 (cn (gp_str okS3) (cn (gp_lst gp_nil) (cn d1 (cn t0 (cn (t3 i0 i0 i0) (cn (t3 (gp_str okS2) t0 t0) (cn (t3 m1 t0 t0) (cn (t3 gp_non t0 t0) (cn (t3 t0 t0 t0) (cn (t3 i1 gp_non t0) (cn (t3 i1 t0 d1) gp_nil)))))))))))))
theorem spoilt_k {n : Nat} {A B : List TR} (h : IsBox S b c) (hn : n ≤ 8) (hA : Rows n A) (hB : Rows n B) (lA : A.length ≤ 6) (lB : B.length ≤ 6) (k : ∀ x S', gd b S' 6 x → IsBox S' b (c + 110) → FrB b S S' → Q x S') (hc : c + 110 ≤ 1000000 := by omega) : wpR (g__law_spoilt [.ref b, sysD n A B] S) Q E := by
  refine wp_fn rfl ?_
  obtain ⟨z, hz⟩ : ∃ z : Int, z = n := ⟨_, rfl⟩
  have esys : sysD n A B = .tup [.int z, tDs A, tDs B] := by rw [hz]; rfl
  rw [esys]
  rw [w_seq, w_asg, wpR_var]
  refine ⟨_, rfl, ?_⟩
  rw [wp_gtup3]
  simp only []
  rw [w_seq, w_set]
  refine tkE htk rfl h fun way S1 hw b1 f1 => ?_
  simp only []
  have bz : Bd 10 z := by unfold Bd; omega
  have gz : ∀ {k : Nat} {S : Store}, gd b S k (.int z) := fun {k S} => gd.int (bz.mono (by decide))
  have tA : ∀ {k : Nat} {S : Store}, IT b (k + 1) 6 S (tDs A) := rows_it hA (by omega) lA
  have tB : ∀ {k : Nat} {S : Store}, IT b (k + 1) 6 S (tDs B) := rows_it hB (by omega) lB
  refine w_mid (fun sd S2 => 6 ≤ (way : Int) ∧ sd = [some (.ref b), some (.tup [.int z, tDs A, tDs B]), some (.int way), none, some (.int z), some (tDs A), some (tDs B), none, none, none] ∧ S2 = S1) ?_ ?_
  · rw [w_if, v_asB, v_bin, wpR_var]
    refine ⟨_, rfl, ?_⟩
    rw [wpR_c, wp_lt]
    refine ⟨_, rfl, ?_⟩
    by_cases hw6 : (way : Int) < 6
    · simp only [hw6, decide_true, if_true]
      -- the rows that are spoilt
      obtain ⟨rs, hrs, lrs, erow⟩ : ∃ rs : List TR, Rows n rs ∧ rs.length ≤ 6 ∧ (if (way : Int) % 2 = 0 then tDs A else tDs B) = tDs rs := by
        by_cases e : (way : Int) % 2 = 0
        · exact ⟨A, hA, lA, by rw [if_pos e]⟩
        · exact ⟨B, hB, lB, by rw [if_neg e]⟩
      rw [w_seq, w_set, v_bin, v_lst, v_cons, wpR_var]
      refine ⟨_, rfl, ?_⟩
      rw [v_cons, wpR_var]
      refine ⟨_, rfl, ?_⟩
      rw [v_nil]
      refine ⟨fits_of (by simp), ?_⟩
      rw [v_bin, v_callB, v_cons, wpR_var]
      refine ⟨_, rfl, ?_⟩
      rw [v_nil, wp_int, wpR_c, wp_mod]
      refine ⟨by decide, ?_⟩
      rw [wp_ixR]
      refine ⟨_, rdL_lst (last_at _ _), tDs rs, ?_, ?_⟩
      · by_cases e : (way : Int) % 2 = 0
        · rw [e, atI_0, ← erow, if_pos e]
        · have e1 : (way : Int) % 2 = 1 := by omega
          rw [e1, atI_1, ← erow, if_neg e]
      generalize hS2 : S1 ++ [SO.lst [tDs A, tDs B]] = S2
      have f2 : FrB b S1 S2 := by rw [← hS2]; exact (Fr.app _).b b
      have b2 : IsBox S2 b (c + 1) := by rw [← hS2]; exact b1.app _
      simp only []
      rw [w_seq, w_set]
      refine tkLen1 htk (n := rs.length) rfl rfl (by rw [tDs, len_tup, List.length_map]) b2 fun at_ S3 hat b3 f3 => ?_
      simp only []
      have F3 := f1.trans (f2.trans f3)
      have trs : ∀ {k : Nat} {S : Store}, IT b (k + 1) 6 S (tDs rs) := rows_it hrs (by omega) lrs
      refine w_mid (fun sd S4 => ∃ ns : List Int, sd = [some (.ref b), some (.tup [.int z, tDs A, tDs B]), some (.int way), none, some (.int z), some (tDs A), some (tDs B), some (tDs rs), some (.int at_), some (.tup (iLs ns))] ∧ 0 < ns.length ∧ ns.length ≤ 100 ∧ (∀ x ∈ ns, Bd 900 x) ∧ IsBox S4 b (c + 102) ∧ FrB b S S4) ?_ ?_
      · rw [w_set, v_if, v_asB, v_bin, wpR_var]
        refine ⟨_, rfl, ?_⟩
        rw [v_callB, v_cons, wpR_var]
        refine ⟨_, rfl, ?_⟩
        rw [v_nil, wp_len]
        refine ⟨rs.length, by rw [tDs, len_tup, List.length_map], ?_⟩
        rw [wp_lt]
        refine ⟨_, rfl, ?_⟩
        by_cases hlt : (at_ : Int) < rs.length
        · simp only [hlt, decide_true, if_true]
          obtain ⟨r, er⟩ : ∃ r, rs[at_]? = some r := ⟨rs[at_]'(by omega), List.getElem?_eq_getElem (by omega)⟩
          have hr := hrs r (List.mem_of_getElem? er)
          rw [v_bin, wpR_var]
          refine ⟨_, rfl, ?_⟩
          rw [wpR_var]
          refine ⟨_, rfl, ?_⟩
          rw [tDs, wp_ixT]
          refine ⟨_, atI_of (by rw [List.getElem?_map, er]; rfl), ?_⟩
          refine ⟨r.1 ++ [r.2], rfl, by simp, by simp [hr.len]; omega, fun x hx => ?_, b3.mono (by omega), F3⟩
          rcases List.mem_append.mp hx with z | z
          · exact (hr.bd x z).mono (by decide)
          · rw [List.mem_singleton.mp z]; exact hr.last.mono (by decide)
        · simp only [hlt, decide_false, Bool.false_eq_true, if_false]
          rw [v_call, v_cons, wpR_var]
          refine ⟨_, rfl, ?_⟩
          rw [v_cons, wpR_var]
          refine ⟨_, rfl, ?_⟩
          rw [v_nil]
          refine told_drawn_k hz b3 (by omega) fun ns S4 ln bn _ b4 f4 => ?_
          exact ⟨ns, rfl, by omega, by omega, fun x hx => (bn x hx).mono (by decide), b4.mono (by omega), F3.trans f4⟩
      rintro sd S4 ⟨ns, rfl, n0, n100, bns, b4, F4⟩
      have bad : GP b 3 (IG b 3) (eCall g__law_bad_told (aCons (eVar 0) (aCons (eVar 9) aNil))) [some (.ref b), some (.tup [.int z, tDs A, tDs B]), some (.int way), none, some (.int z), some (tDs A), some (tDs B), some (tDs rs), some (.int at_), some (.tup (iLs ns))] S4 := gp_of fun S1 c' f1 b1 hc' QQ kk => by
        rw [v_call, v_cons, wpR_var]
        refine ⟨_, rfl, ?_⟩
        rw [v_cons, wpR_var]
        refine ⟨_, rfl, ?_⟩
        rw [v_nil]
        exact bad_told_k b1 n0 n100 bns kk hc'
      rw [w_seq, w_set]
      refine GP.use (b := b) (m := 3) (P := IT b 3 13) (gt_add (n := 7) (n' := 6) (m := 3) (m' := 0) (gt_add (n := 6) (n' := 1) (m := 0) (m' := 3) (gt_sl (gp_var rfl pm_t trs) go_none (go_var rfl)) (gt_tup (ga_c bad gp_nil))) (gt_sl (gp_var rfl pm_t trs) (go_add rfl) go_none)) b4 fun x S5 hx b5 f5 => ?_
      simp only []
      rw [w_ret]
      have cn : ∀ {e : EE} {aa : EA} {n : Nat} {sd : SD} {S : Store}, GP b 0 (IG b 5) e sd S → GPA b 0 (IG b 5) n aa sd S → GPA b 0 (IG b 5) (n + 1) (aCons e aa) sd S := fun h1 h2 => ga_c (m := 0) (m' := 0) h1 h2
      refine GP.use (b := b) (m := 0) (P := IG b 6) (gp_if (m := 0) (m1 := 0) (m2 := 0) (fun S1 c' f1 b1 hc' => ?_) (gp_tup (cn (gp_var rfl pm_g gz) (cn (gp_var rfl pm_g ((gd_of_t hx).mono (by decide))) (cn (gp_var rfl pm_g (gd_of_t tB)) gp_nil)))) (gp_tup (cn (gp_var rfl pm_g gz) (cn (gp_var rfl pm_g (gd_of_t tA)) (cn (gp_var rfl pm_g ((gd_of_t hx).mono (by decide))) gp_nil))))) b5 fun x S6 hx b6 f6 => ?_
      · rw [v_asB, v_bin, v_bin, v_callB, v_cons, wpR_var]
        refine ⟨_, rfl, ?_⟩
        rw [v_nil, wp_int, wpR_c, wp_mod]
        refine ⟨by decide, ?_⟩
        rw [wpR_c, wp_eq]
        exact ⟨_, rfl, FrB.refl, b1⟩
      · exact k x S6 hx (b6.mono (by omega)) (F4.trans (f5.trans f6))
    · simp only [hw6, decide_false, Bool.false_eq_true, if_false]
      rw [w_next]
      exact ⟨by omega, rfl, rfl⟩
  rintro sd S2 ⟨hw6, rfl, rfl⟩
  have cn : ∀ {k : Nat} {e : EE} {aa : EA} {n : Nat} {sd : SD} {S : Store}, GP b 0 (IG b k) e sd S → GPA b 0 (IG b k) n aa sd S → GPA b 0 (IG b k) (n + 1) (aCons e aa) sd S := fun h1 h2 => ga_c (m := 0) (m' := 0) h1 h2
  rw [w_seq, w_set]
  have vz : ∀ {k : Nat} {sd : SD} {S : Store}, sd[4]? = some (some (.int z)) → GP b 0 (IG b k) (eVar 4) sd S := fun h => gp_var h pm_g gz
  have vA : ∀ {k : Nat} {sd : SD} {S : Store}, sd[5]? = some (some (tDs A)) → GP b 0 (IG b (k + 2)) (eVar 5) sd S := fun h => gp_var h pm_g (gd_of_t tA)
  have vB : ∀ {k : Nat} {sd : SD} {S : Store}, sd[6]? = some (some (tDs B)) → GP b 0 (IG b (k + 2)) (eVar 6) sd S := fun h => gp_var h pm_g (gd_of_t tB)
  have lA' : ∀ {k : Nat} {sd : SD} {S : Store}, sd[5]? = some (some (tDs A)) → GP b 0 (IG b (k + 2)) (eCallB pList (aCons (eVar 5) aNil)) sd S := fun h => (gl_list (gp_var h pm_t tA)).weak fun S x z => gd_of_l z
  have lB' : ∀ {k : Nat} {sd : SD} {S : Store}, sd[6]? = some (some (tDs B)) → GP b 0 (IG b (k + 2)) (eCallB pList (aCons (eVar 6) aNil)) sd S := fun h => (gl_list (gp_var h pm_t tB)).weak fun S x z => gd_of_l z
  have eq1 : ∀ {k : Nat} {sd : SD} {S : Store}, sd[4]? = some (some (.int z)) → GP b 0 (IG b k) (eBin pEq (eVar 4) (eC (.int 1))) sd S := fun h S1 c' f1 b1 hc' => by
    rw [v_bin, wpR_var]
    refine ⟨_, h, ?_⟩
    rw [wpR_c, wp_eq]
    exact ⟨FrB.refl, b1, gd.bl _⟩
  have ad1 : ∀ {k : Nat} {sd : SD} {S : Store}, sd[4]? = some (some (.int z)) → GP b 0 (IG b k) (eBin pAdd (eVar 4) (eC (.int 1))) sd S := fun h S1 c' f1 b1 hc' => by
    rw [v_bin, wpR_var]
    refine ⟨_, h, ?_⟩
    rw [wpR_c, wp_add]
    exact ⟨FrB.refl, b1, gd.int (((bz.add (bd1.mono (by decide))).mono (by decide)))⟩
  have sb0 : ∀ {k : Nat} {sd : SD} {S : Store}, sd[4]? = some (some (.int z)) → GP b 0 (IG b k) (eBin pSub (eC (.int 0)) (eVar 4)) sd S := fun h S1 c' f1 b1 hc' => by
    rw [v_bin, wpR_c, wpR_var]
    refine ⟨_, h, ?_⟩
    rw [wp_sub]
    exact ⟨FrB.refl, b1, gd.int (by rw [Int.zero_sub]; exact bz.neg.mono (by decide))⟩
  refine GP.use (b := b) (m := 0) (P := ILn b 6 6) (gln_lst ?_) b1 fun vs S3 hvs b3 f3 => ?_
  · exact cn (gp_lst (k := 5) (cn (vz rfl) (cn (vA rfl) (cn (vB rfl) gp_nil)))) (cn (gp_tup (k := 5) (cn (vz rfl) (cn (vA rfl) gp_nil))) (cn (gp_tup (k := 5) (cn (vz rfl) (cn (vA rfl) (cn (vB rfl) (cn (gp_tup gp_nil) gp_nil))))) (cn (gp_tup (k := 5) (cn (vz rfl) (cn (lA' rfl) (cn (vB rfl) gp_nil)))) (cn (gp_tup (k := 5) (cn (vz rfl) (cn (vA rfl) (cn (lB' rfl) gp_nil)))) (cn (gp_tup (k := 5) (cn (eq1 rfl) (cn (vA rfl) (cn (vB rfl) gp_nil)))) gp_nil)))))
  simp only []
  rw [w_ret]
  refine GP.use (b := b) (m := 0) (P := IG b 6) (gp_ixl (n := 8) (m := 0) (m' := 0) (gln_add (n := 6) (n' := 2) (m := 0) (m' := 0) (gp_var rfl pm_ln hvs) (gln_lst (cn (gp_tup (k := 5) (cn (ad1 rfl) (cn (vA rfl) (cn (vB rfl) gp_nil)))) (cn (gp_tup (k := 5) (cn (sb0 rfl) (cn (vA rfl) (cn (vB rfl) gp_nil)))) gp_nil)))) fun S1 c f1 b1 hc => ?_) b3 fun x S6 hx b6 f6 => ?_
  · rw [v_bin, wpR_var]
    refine ⟨_, rfl, ?_⟩
    rw [wpR_c, wp_sub]
    exact ⟨FrB.refl, b1, way - 6, by congr 1; omega, by omega⟩
  · exact k x S6 hx (b6.mono (by omega)) (f1.trans (f3.trans f6))
end
end Kk12
end Lay

set_option Elab.async false
set_option linter.all false
set_option maxRecDepth 100000
set_option maxHeartbeats 4000000
/-! the pure law: the program is called -/
namespace Lay
namespace Kk12
open PySem PySem.Spec PyProof.Rows L2
open Classical
section
variable {S : Store} {Q : D → Store → Prop} {E : Ex → Store → Prop}
theorem check_system_k {d : D} {k : Nat} (h : good S k d) (kk : ∀ S', Fr S S' → if isSys d = true then Q .non S' else E ⟨2, [d]⟩ S') : wpR (g_check_system [d] S) Q E := by
  refine wp_fn rfl ?_
  rw [w_if, v_bnot, v_tru, v_call, v_cons, wpR_var]
  refine ⟨_, rfl, ?_⟩
  rw [v_nil]
  refine system_k h fun S1 f1 => ?_
  rw [tru_bl]
  refine ⟨_, rfl, ?_⟩
  have k1 := kk S1 f1
  cases hs : isSys d with
  | true =>
    rw [hs] at k1
    exact k1
  | false =>
    rw [hs] at k1
    simp only [Bool.not_false, if_true]
    rw [w_raise, v_cons, wpR_var]
    refine ⟨_, rfl, ?_⟩
    rw [v_nil]
    exact ⟨rfl, k1⟩
def isRow : D → Bool
  | .tup ds => ds.all isN
  | _ => false
def isRowOf (n : Int) : D → Bool
  | .tup ds => ds.all isN && decide ((ds.length : Int) = n)
  | _ => false
theorem row_of_k {d : D} {n : Int} {k : Nat} (h : good S k d) (kk : ∀ S', Fr S S' → Q (.bl (isRowOf n d)) S') : wpR (g_is_row_of [d, .int n] S) Q E := by
  refine wp_fn rfl ?_
  obtain ⟨kn, hk⟩ := Option.isSome_iff_exists.mp (good_kd h)
  rw [w_ret, v_and, v_call, v_cons, wpR_var]
  refine ⟨_, rfl, ?_⟩
  rw [v_nil]
  have key : ∀ (QQ : D → Store → Prop), (∀ S', Fr S S' → QQ (.bl (isRow d)) S') → wpR (g_is_row [d] S) QQ E := fun QQ kq => by
    refine wp_fn rfl ?_
    cases d with
    | tup ds =>
      obtain ⟨l4, hg⟩ := good_len h
      simp [startD, N_is_row, subD]
      refine lc_tup (vals := ds) (fun _ => true) (fun x => .bl (isN x)) rfl (by omega) (fun x hx S1 f1 => ?_) (fun m S1 hm f1 e1 => ?_)
      · simp [wipeD, is_number_ok (good_fr f1 (hg x hx))]
        exact Fr.refl
      · rw [filt_true] at e1
        rw [wp_all (bs := ds.map isN) (rdL_lst (by rw [e1]; congr 2; simp only [List.map_map]; rfl))]
        have : ((ds.map isN).all id) = isRow (.tup ds) := by
          rw [List.all_map]
          rfl
        rw [this]
        exact kq S1 f1
    | ref m =>
      have : isRow (.ref m) = false := rfl
      rw [this] at kq
      rcases kd_ref hk with rfl | rfl <;> simp [startD, N_is_row, hk, subD] <;> exact kq S Fr.refl
    | _ =>
      simp [startD, N_is_row, subD]
      exact kq S Fr.refl
  refine key _ fun S1 f1 => ?_
  rw [tru_bl]
  refine ⟨_, rfl, ?_⟩
  have k1 := kk S1 f1
  cases hr : isRow d with
  | false =>
    have : isRowOf n d = false := by
      cases d with
      | tup ds =>
        have hr' : ds.all isN = false := hr
        simp [isRowOf, hr']
      | _ => rfl
    rw [this] at k1
    exact k1
  | true =>
    simp only [if_true]
    cases d with
    | tup ds =>
      have hr' : ds.all isN = true := hr
      rw [v_bin, v_callB, v_cons, wpR_var]
      refine ⟨_, rfl, ?_⟩
      rw [v_nil, wp_len]
      refine ⟨_, rfl, ?_⟩
      rw [wpR_var]
      refine ⟨_, rfl, ?_⟩
      rw [wp_eq]
      have : isRowOf n (.tup ds) = decide ((ds.length : Int) = n) := by simp [isRowOf, hr']
      rw [this] at k1
      exact k1
    | _ => simp [isRow] at hr
/-- no system: an error -/
theorem holds_sys_k {d row : D} {k : Nat} (h : good S k d) (hs : isSys d = false) (kk : ∀ S', Fr S S' → E ⟨2, [d]⟩ S') : wpR (g_holds_at [d, row] S) Q E := by
  refine wp_fn rfl ?_
  rw [w_seq, w_expr, v_call, v_cons, wpR_var]
  refine ⟨_, rfl, ?_⟩
  rw [v_nil]
  refine check_system_k h fun S1 f1 => ?_
  rw [hs]
  exact kk S1 f1
theorem isSys_inv {d : D} (h : isSys d = true) : ∃ n x y, d = .tup [.int n, x, y] := by
  unfold isSys at h
  split at h
  · exact ⟨_, _, _, rfl⟩
  · cases h
theorem holds_row_k {d row : D} {n : Int} {x y : D} {k : Nat} (hd : d = .tup [.int n, x, y]) (h : good S k d) (hr : good S k row) (hs : isSys d = true) (hb : isRowOf n row = false) (kk : ∀ S', Fr S S' → E ⟨1, [row]⟩ S') : wpR (g_holds_at [d, row] S) Q E := by
  refine wp_fn rfl ?_
  rw [w_seq, w_expr, v_call, v_cons, wpR_var]
  refine ⟨_, rfl, ?_⟩
  rw [v_nil]
  refine check_system_k h fun S1 f1 => ?_
  rw [hs]
  simp only [if_true]
  rw [w_seq, w_if, v_bnot, v_tru, v_call, v_cons, wpR_var]
  refine ⟨_, rfl, ?_⟩
  rw [v_cons, v_bin, wpR_var]
  refine ⟨_, rfl, ?_⟩
  rw [wpR_c, hd, wp_ixT]
  refine ⟨_, atI_0 _ _, ?_⟩
  rw [v_nil]
  refine row_of_k (good_fr f1 hr) fun S2 f2 => ?_
  rw [tru_bl, hb]
  refine ⟨_, rfl, ?_⟩
  simp only [Bool.not_false, if_true]
  rw [w_raise, v_cons, wpR_var]
  refine ⟨_, rfl, ?_⟩
  rw [v_nil]
  exact ⟨rfl, kk S2 (f1.trans f2)⟩
theorem sys_of {n : Nat} {A B : List TR} (hn : n ≤ 80) (hA : ∀ r ∈ A, isTold n (tD r) = true) (hB : ∀ r ∈ B, isTold n (tD r) = true) (lA : A.length ≤ 120) (lB : B.length ≤ 120) : isSys (sysD n A B) = true := by
  have key : ∀ rs : List TR, (∀ r ∈ rs, isTold n (tD r) = true) → rs.length ≤ 120 → isRows n (tDs rs) = true := fun rs h l => by
    simp [isRows, tDs, l]
    intro a b hr
    exact h (a, b) hr
  have hn' : (n : Int) ≤ 80 := by omega
  simp [isSys, sysD, key A hA lA, key B hB lB, hn']
theorem told_of {n : Nat} {r : TR} (hl : r.1.length = n) (hz : ∃ w ∈ r.1 ++ [r.2], w ≠ 0) : isTold n (tD r) = true := by
  obtain ⟨w, hw, w0⟩ := hz
  unfold tD isTold
  rw [Bool.and_eq_true, Bool.and_eq_true]
  refine ⟨by simp [iLs, hl], ?_, ?_⟩
  · unfold iLs
    rw [List.all_map]
    exact List.all_eq_true.mpr fun x _ => rfl
  · rw [ones_iL]
    exact List.any_eq_true.mpr ⟨w, hw, by simpa using w0⟩
theorem nums_row {qs : List (Int × Int)} {a b : Nat} (hq : LowL a b qs) : isRowOf (qs.length : Nat) (.tup (qs.map nD)) = true := by
  simp [isRowOf]
  intro x y h
  have := hq _ h
  simp [nD, isN, this.pos, this.one]
theorem nums_good {qs : List (Int × Int)} {b k : Nat} {S : Store} (hq : LowL 900 900 qs) (hl : qs.length ≤ 400) : gd b S (k + 2) (.tup (qs.map nD)) := gd.tup (by simpa using hl) fun d hd => by
  obtain ⟨q, hq', rfl⟩ := List.mem_map.mp hd
  have := hq q hq'
  refine gd.tup (by simp) fun d hd => ?_
  rcases (by simpa using hd : d = .int q.1 ∨ d = .int q.2) with rfl | rfl
  · exact gd.int (this.top.mono (by decide))
  · exact gd.int (this.base.mono (by decide))
theorem holds_ok_k {n : Nat} {A B : List TR} {qs : List (Int × Int)} {k : Nat} (h : good S k (sysD n A B)) (hr : good S k (.tup (qs.map nD))) (hs : isSys (sysD n A B) = true) (hq : LowL 60 60 qs) (hl : qs.length = n) (hA : ∀ r ∈ A, RowOk qs r) (hB : ∀ r ∈ B, RowOk qs r) (lA : A.length ≤ 1000) (lB : B.length ≤ 1000) (kk : ∀ S', Fr S S' → Q (.bl (holdsB A B qs)) S') : wpR (g_holds_at [sysD n A B, .tup (qs.map nD)] S) Q E := by
  refine wp_fn rfl ?_
  rw [w_seq, w_expr, v_call, v_cons, wpR_var]
  refine ⟨_, rfl, ?_⟩
  rw [v_nil]
  refine check_system_k h fun S1 f1 => ?_
  rw [hs]
  simp only [if_true]
  rw [w_seq, w_if, v_bnot, v_tru, v_call, v_cons, wpR_var]
  refine ⟨_, rfl, ?_⟩
  rw [v_cons, v_bin, wpR_var]
  refine ⟨_, rfl, ?_⟩
  rw [wpR_c, sysD, wp_ixT]
  refine ⟨_, atI_0 _ _, ?_⟩
  rw [v_nil]
  refine row_of_k (good_fr f1 hr) fun S2 f2 => ?_
  have := nums_row hq
  rw [hl] at this
  rw [tru_bl, this]
  refine ⟨_, rfl, ?_⟩
  simp only [Bool.not_true, Bool.false_eq_true, if_false]
  rw [w_next]
  simp only []
  rw [w_ret, v_call, v_cons, wpR_var]
  refine ⟨_, rfl, ?_⟩
  rw [v_cons, wpR_var]
  refine ⟨_, rfl, ?_⟩
  rw [v_nil]
  exact holds_in_k (n := n) hA hB hq lA lB fun S3 f3 => kk S3 (f1.trans (f2.trans f3))
/-! ### told rows -/
def isToldA : D → Bool
  | .tup ds => isTold ((ds.length : Int) - 1) (.tup ds)
  | _ => false
theorem check_told_k {d : D} {k : Nat} (h : good S k d) (kk : ∀ S', Fr S S' → if isToldA d = true then Q .non S' else E ⟨3, [d]⟩ S') : wpR (g_check_told [d] S) Q E := by
  refine wp_fn rfl ?_
  obtain ⟨kn, hk⟩ := Option.isSome_iff_exists.mp (good_kd h)
  rw [w_if, v_bor, v_bnot, v_tru, v_isi, wpR_var]
  refine ⟨_, rfl, _, hk, _, by rw [tru_bl], ?_⟩
  have raise : ∀ (S1 : Store), Fr S S1 → isToldA d = false → wpS (sRaise 3 1 (aCons (eVar 0) aNil) (startD N_check_told.length [d]) S1) { n := fun _ S' => Q .non S', r := Q, e := fun x _ S' => E x S' } := fun S1 f1 hf => by
    have k1 := kk S1 f1
    rw [hf] at k1
    rw [w_raise, v_cons, wpR_var]
    refine ⟨_, rfl, ?_⟩
    rw [v_nil]
    exact ⟨rfl, k1⟩
  cases d with
  | tup ds =>
    cases hk
    have e : (([.ty "tuple"] : List Kd).any (subD Tb (.ty "tuple"))) = true := by decide +kernel
    rw [e]
    simp only [Bool.not_true, Bool.false_eq_true, if_false]
    rw [v_bnot, v_tru, v_call, v_cons, wpR_var]
    refine ⟨_, rfl, ?_⟩
    rw [v_cons, v_bin, v_callB, v_cons, wpR_var]
    refine ⟨_, rfl, ?_⟩
    rw [v_nil, wp_len]
    refine ⟨_, rfl, ?_⟩
    rw [wpR_c, wp_sub, v_nil]
    refine told_k h fun S1 f1 => ?_
    rw [tru_bl]
    refine ⟨_, rfl, ?_⟩
    cases ht : isTold ((ds.length : Int) - 1) (.tup ds) with
    | true =>
      have k1 := kk S1 f1
      rw [show isToldA (.tup ds) = true from ht] at k1
      exact k1
    | false => exact raise S1 f1 ht
  | ref m =>
    have e : (([.ty "tuple"] : List Kd).any (subD Tb kn)) = false := by
      rcases kd_ref hk with rfl | rfl <;> decide +kernel
    rw [e]
    exact raise S Fr.refl rfl
  | _ =>
    cases hk
    exact raise S Fr.refl rfl
theorem tidy_bad_k {d : D} {k : Nat} (h : good S k d) (hb : isToldA d = false) (kk : ∀ S', Fr S S' → E ⟨3, [d]⟩ S') : wpR (g_tidy [d] S) Q E ∧ wpR (g_tidy_equation [d] S) Q E := by
  constructor
  all_goals
    refine wp_fn rfl ?_
    rw [w_seq, w_expr, v_call, v_cons, wpR_var]
    refine ⟨_, rfl, ?_⟩
    rw [v_nil]
    refine check_told_k h fun S1 f1 => ?_
    rw [hb]
    exact kk S1 f1
theorem toldA_of {ns : List Int} (h : ∃ x ∈ ns, x ≠ 0) : isToldA (.tup (iLs ns)) = true := by
  obtain ⟨w, hw, w0⟩ := h
  unfold isToldA isTold
  rw [Bool.and_eq_true, Bool.and_eq_true]
  refine ⟨by simp, ?_, ?_⟩
  · unfold iLs
    rw [List.all_map]
    exact List.all_eq_true.mpr fun x _ => rfl
  · rw [ones_iL]
    exact List.any_eq_true.mpr ⟨w, hw, by simpa using w0⟩
theorem ints_good {ns : List Int} {b k : Nat} {S : Store} (hb : ∀ x ∈ ns, Bd 900 x) (hl : ns.length ≤ 100) : gd b S (k + 1) (.tup (iLs ns)) := gd_of_t (it_ints hl hb)
theorem tidy_ok_k {ns : List Int} (hb : ∀ x ∈ ns, Bd 900 x) (hl : ns.length ≤ 100) (hz : ∃ x ∈ ns, x ≠ 0) (kk : ∀ S', Fr S S' → Q (.tup (iLs (divL ns))) S') : wpR (g_tidy [.tup (iLs ns)] S) Q E := by
  obtain ⟨x, hx, x0⟩ := hz
  refine wp_fn rfl ?_
  rw [w_seq, w_expr, v_call, v_cons, wpR_var]
  refine ⟨_, rfl, ?_⟩
  rw [v_nil]
  refine check_told_k (ints_good (b := 0) (k := 0) hb hl).good fun S1 f1 => ?_
  rw [toldA_of ⟨x, hx, x0⟩]
  simp only [if_true]
  rw [w_ret, v_call, v_cons, wpR_var]
  refine ⟨_, rfl, ?_⟩
  rw [v_cons, wpR_c, v_nil]
  refine tidy_in_k hx x0 ((hb x hx).mono (by decide)) (by omega) fun S2 f2 => ?_
  simpa using kk S2 (f1.trans f2)
/-- divided, and turned where the first number is below 0 -/
def turnL (ns : List Int) : List Int := if firstN ns < 0 then negL (divL ns) else divL ns
theorem turn_ok_k {ns : List Int} (hb : ∀ x ∈ ns, Bd 900 x) (hl : ns.length ≤ 100) (hz : ∃ x ∈ ns, x ≠ 0) (kk : ∀ S', Fr S S' → Q (.tup (iLs (turnL ns))) S') : wpR (g_tidy_equation [.tup (iLs ns)] S) Q E := by
  obtain ⟨x, hx, x0⟩ := hz
  refine wp_fn rfl ?_
  rw [w_seq, w_expr, v_call, v_cons, wpR_var]
  refine ⟨_, rfl, ?_⟩
  rw [v_nil]
  refine check_told_k (ints_good (b := 0) (k := 0) hb hl).good fun S1 f1 => ?_
  rw [toldA_of ⟨x, hx, x0⟩]
  simp only [if_true]
  rw [w_ret, v_call, v_cons, wpR_var]
  refine ⟨_, rfl, ?_⟩
  rw [v_cons, wpR_c, v_nil]
  refine tidy_in_k hx x0 ((hb x hx).mono (by decide)) (by omega) fun S2 f2 => ?_
  simpa [turnL] using kk S2 (f1.trans f2)
theorem lturned_k {ns : List Int} (hb : ∀ x ∈ ns, Bd 900 x) (hl : ns.length ≤ 100) (hz : ∃ x ∈ ns, x ≠ 0) (kk : ∀ S', Fr S S' → Q (.tup (iLs (turnL ns))) S') : wpR (g__law_turned [.tup (iLs ns)] S) Q E := by
  obtain ⟨x, hx, x0⟩ := hz
  refine turned_k hx x0 ((hb x hx).mono (by decide)) (by omega) fun S' f => ?_
  have g0 := (gcdL_bd hx x0 ((hb x hx).mono (by decide : 900 ≤ 1000))).1
  have e := first_div g0
  have fd := (first_ok ⟨x, hx, x0⟩).2
  have dv : (gcdL 0 ns : Int) ∣ firstN ns := by
    unfold firstN
    cases hf : ns.filter fun n => !decide (n = 0) with
    | nil => exact Int.dvd_zero _
    | cons a l =>
      have : a ∈ ns.filter fun n => !decide (n = 0) := by rw [hf]; simp
      exact gcdL_dvd (List.mem_filter.mp this).1 0
  have sg : (0 < firstN (divL ns)) ↔ ¬ firstN ns < 0 := by
    rw [e]
    obtain ⟨q, hq⟩ := dv
    have gp : (0 : Int) < (gcdL 0 ns : Nat) := by omega
    rw [hq, Int.mul_ediv_cancel_left _ (by omega)]
    have q0 : q ≠ 0 := by rintro rfl; simp at hq; exact fd hq
    constructor
    · intro h h2
      have := Int.mul_pos gp h
      omega
    · intro h
      rcases Int.lt_or_le 0 q with z | z
      · exact z
      · exfalso
        have : q < 0 := by omega
        have h3 := Int.mul_pos gp (show 0 < -q by omega)
        rw [Int.mul_neg] at h3
        omega
  have k1 := kk S' f
  unfold turnL at k1
  by_cases h : firstN ns < 0
  · rw [if_pos h] at k1
    rw [if_neg (fun z => sg.mp z h)]
    exact k1
  · rw [if_neg h] at k1
    rw [if_pos (sg.mpr h)]
    exact k1
end
end Kk12
end Lay

set_option Elab.async false
set_option linter.all false
set_option maxRecDepth 100000
set_option maxHeartbeats 4000000
/-! the pure law: calls and what they tell -/
namespace Lay
namespace Kk12
open PySem PySem.Spec PyProof.Rows L2
open Classical
theorem oIs : okS "is" = true := by decide +kernel
theorem oHo : okS "holds" = true := by decide +kernel
theorem oTi : okS "tidy" = true := by decide +kernel
theorem oTu : okS "turn" = true := by decide +kernel
theorem oTo : okS "told" = true := by decide +kernel
theorem oSy : okS "system" = true := by decide +kernel
theorem oRo : okS "row" = true := by decide +kernel
theorem oNt : okS "no told" = true := by decide +kernel
section
variable {S : Store} {Q : D → Store → Prop} {E : Ex → Store → Prop} {sd : SD} {P : Ps}
theorem if_no {w v : Str} {F : FF} {i : Nat} (h0 : sd[i]? = some (some (.str w))) (ow : okS w = true) (ov : okS v = true) (hne : w ≠ v) (k : P.n sd S) : wpS (sIf (asB (eBin pEq (eVar i) (eC (.str v)))) F sNext sd S) P := by
  rw [w_if, v_asB, v_bin, wpR_var]
  refine ⟨_, h0, ?_⟩
  rw [wpR_c, wp_eqs ow ov, decide_eq_false hne]
  exact ⟨_, rfl, k⟩
theorem if_yes {w : Str} {F G : FF} {i : Nat} (h0 : sd[i]? = some (some (.str w))) (ow : okS w = true) (k : wpS (F sd S) P) : wpS (sIf (asB (eBin pEq (eVar i) (eC (.str w)))) F G sd S) P := by
  rw [w_if, v_asB, v_bin, wpR_var]
  refine ⟨_, h0, ?_⟩
  rw [wpR_c, wp_eqs ow ow, decide_eq_true rfl]
  exact ⟨_, rfl, k⟩
theorem ret_told {A B : EE} {v : Bool} {t : Str} {i : Nat} (h2 : sd[i]? = some (some (.bl v))) (hA : v = true → wpR (A sd S) (fun x S1 => P.r (.ref S1.length) (S1 ++ [.lst [.str t, x]])) fun x S' => P.e x sd S') (hB : v = false → wpR (B sd S) (fun x S1 => P.r (.ref S1.length) (S1 ++ [.lst [.str t, x]])) fun x S' => P.e x sd S') :
    wpS (sRet (eLst (aCons (eC (.str t)) (aCons (eIf (eTru (eVar i)) A B) aNil))) sd S) P := by
  rw [w_ret, v_lst, v_cons, wpR_c, v_cons, v_if, v_tru, wpR_var]
  refine ⟨_, h2, _, tru_bl _, ?_⟩
  have fin : ∀ {X : EE}, wpR (X sd S) (fun x S1 => P.r (.ref S1.length) (S1 ++ [.lst [.str t, x]])) (fun x S' => P.e x sd S') → wpR (X sd S) (fun x S1 => wpR (aNil sd S1) (fun xs S2 => fits (D.str t :: x :: xs).length = true ∧ P.r (.ref S2.length) (S2 ++ [.lst (.str t :: x :: xs)])) fun x S' => P.e x sd S') fun x S' => P.e x sd S' := fun h => wpR_mono h (fun x S1 q => by
      rw [v_nil]; exact ⟨fits_of (by simp), q⟩) fun _ _ z => z
  cases v with
  | true => exact fin (hA rfl)
  | false => exact fin (hB rfl)
/-- a[i] -/
theorem arg_k {i n : Nat} {j : Nat} {xs : List D} {x : D} (h : sd[i]? = some (some (.ref n))) (hn : rdL S n = some xs) (hx : xs[j]? = some x) (q : Q x S) : wpR (eBin pIx (eVar i) (eC (.int (j : Nat))) sd S) Q E := by
  rw [v_bin, wpR_var]
  refine ⟨_, h, ?_⟩
  rw [wpR_c, wp_ixR]
  exact ⟨_, hn, _, atI_of hx, q⟩
theorem one_call {g : List D → M D} {i n : Nat} {v : D} {r : List D} (h : sd[i]? = some (some (.ref n))) (hn : rdL S n = some (v :: r)) (q : wpR (g [v] S) Q E) : wpR (eCallKw g [0] (aCons (eBin pIx (eVar i) (eC (.int 0))) aNil) sd S) Q E ∧ wpR (eCall g (aCons (eBin pIx (eVar i) (eC (.int 0))) aNil) sd S) Q E := by
  constructor
  · rw [v_callKw, v_cons]
    refine arg_k (j := 0) h hn rfl ?_
    rw [v_nil, permA1]
    exact q
  · rw [v_call, v_cons]
    refine arg_k (j := 0) h hn rfl ?_
    rw [v_nil]
    exact q
/-- an error is caught -/
def tagOf : Nat → Str
  | 2 => "system"
  | 1 => "row"
  | _ => "no told"
theorem caught_k {c : Nat} {v : D} (hc : c = 1 ∨ c = 2 ∨ c = 3) (hs : sd.length = 4) (k : P.r (.ref S.length) (S ++ [.lst [.str (tagOf c), v]])) :
    wpS (tryH Tb [⟨2, 3, (sRet (eLst (aCons (eC (.str "system")) (aCons (eAtt Tb ("given" : Str) (eVar 3)) aNil))))⟩, ⟨1, 3, (sRet (eLst (aCons (eC (.str "row")) (aCons (eAtt Tb ("given" : Str) (eVar 3)) aNil))))⟩, ⟨3, 3, (sRet (eLst (aCons (eC (.str "no told")) (aCons (eAtt Tb ("given" : Str) (eVar 3)) aNil))))⟩] ⟨c, [v]⟩ sd S) P := by
  have fin : ∀ (c : Nat) (t : Str) (P : Ps), attD Tb "given" (.exn c [v]) = some v → P.r (.ref S.length) (S ++ [.lst [.str t, v]]) → wpS (sRet (eLst (aCons (eC (.str t)) (aCons (eAtt Tb ("given" : Str) (eVar 3)) aNil))) (sd.set 3 (some (.exn c [v]))) S) P := fun c t P ha q => by
    rw [w_ret, v_lst, v_cons, wpR_c, v_cons, v_att, wpR_var]
    refine ⟨_, List.getElem?_set_self (by omega), v, ha, ?_⟩
    rw [v_nil]
    exact ⟨fits_of (by simp), q⟩
  rcases hc with rfl | rfl | rfl
  · rw [w_tryCons, if_neg (show ¬ subD Tb (.own 1) (.own 2) = true by decide +kernel), w_tryCons, if_pos (show subD Tb (.own 1) (.own 1) = true by decide +kernel)]
    exact fin 1 _ _ rfl k
  · rw [w_tryCons, if_pos (show subD Tb (.own 2) (.own 2) = true by decide +kernel)]
    exact fin 2 _ _ rfl k
  · rw [w_tryCons, if_neg (show ¬ subD Tb (.own 3) (.own 2) = true by decide +kernel), w_tryCons, if_neg (show ¬ subD Tb (.own 3) (.own 1) = true by decide +kernel), w_tryCons, if_pos (show subD Tb (.own 3) (.own 3) = true by decide +kernel)]
    exact fin 3 _ _ rfl k
/-- what a call tells -/
def Told (S : Store) (Q : D → Store → Prop) (t : Str) (v : D) : Prop := ∀ p S', S.length ≤ p → Fr S S' → S'[p]? = some (.lst [.str t, v]) → Q (.ref p) S'
theorem told_last {S S1 : Store} {t : Str} {v : D} (k : Told S Q t v) (f : Fr S S1) : Q (.ref S1.length) (S1 ++ [.lst [.str t, v]]) := k _ _ f.le (f.trans (Fr.app _)) (last_at _ _)
variable {n : Nat} {named : Bool} {k : Nat}
theorem call_is {v : D} {r : List D} (hn : rdL S n = some (v :: r)) (h : good S k v) (kk : Told S Q "told" (.bl (isSys v))) : wpR (g__law_call [.str "is", .ref n, .bl named] S) Q E := by
  refine wp_fn rfl ?_
  rw [w_try, w_seq]
  refine if_yes rfl oIs (ret_told rfl (fun _ => (one_call rfl hn ?_).1) (fun _ => (one_call rfl hn ?_).2))
  all_goals exact system_k h fun S1 f1 => told_last kk f1
theorem holds_call {i n : Nat} {v w : D} {r : List D} (h : sd[i]? = some (some (.ref n))) (hn : rdL S n = some (v :: w :: r)) (q : wpR (g_holds_at [v, w] S) Q E) : wpR (eCallKw g_holds_at [1, 0] (aCons (eBin pIx (eVar i) (eC (.int 1))) (aCons (eBin pIx (eVar i) (eC (.int 0))) aNil)) sd S) Q E ∧ wpR (eCall g_holds_at (aCons (eBin pIx (eVar i) (eC (.int 0))) (aCons (eBin pIx (eVar i) (eC (.int 1))) aNil)) sd S) Q E := by
  constructor
  · rw [v_callKw, v_cons]
    refine arg_k (j := 1) h hn rfl ?_
    rw [v_cons]
    refine arg_k (j := 0) h hn rfl ?_
    rw [v_nil, permA2]
    exact q
  · rw [v_call, v_cons]
    refine arg_k (j := 0) h hn rfl ?_
    rw [v_cons]
    refine arg_k (j := 1) h hn rfl ?_
    rw [v_nil]
    exact q
theorem call_holds_sys {v w : D} {r : List D} (hn : rdL S n = some (v :: w :: r)) (h : good S k v) (hs : isSys v = false) (kk : Told S Q "system" v) : wpR (g__law_call [.str "holds", .ref n, .bl named] S) Q E := by
  refine wp_fn rfl ?_
  rw [w_try, w_seq]
  refine if_no rfl oHo oIs (by decide +kernel) ?_
  simp only []
  rw [w_seq]
  refine if_yes rfl oHo (ret_told rfl (fun _ => (holds_call rfl hn ?_).1) (fun _ => (holds_call rfl hn ?_).2))
  all_goals exact holds_sys_k h hs fun S1 f1 => (by dsimp only; exact caught_k (.inr (.inl rfl)) rfl (told_last kk f1))
theorem call_holds_row {v w x y : D} {m : Int} {r : List D} (hn : rdL S n = some (v :: w :: r)) (hd : v = .tup [.int m, x, y]) (h : good S k v) (hw : good S k w) (hs : isSys v = true) (hb : isRowOf m w = false) (kk : Told S Q "row" w) : wpR (g__law_call [.str "holds", .ref n, .bl named] S) Q E := by
  refine wp_fn rfl ?_
  rw [w_try, w_seq]
  refine if_no rfl oHo oIs (by decide +kernel) ?_
  simp only []
  rw [w_seq]
  refine if_yes rfl oHo (ret_told rfl (fun _ => (holds_call rfl hn ?_).1) (fun _ => (holds_call rfl hn ?_).2))
  all_goals exact holds_row_k hd h hw hs hb fun S1 f1 => (by dsimp only; exact caught_k (.inl rfl) rfl (told_last kk f1))
theorem call_holds_ok {m : Nat} {A B : List TR} {qs : List (Int × Int)} {r : List D} (hn : rdL S n = some (sysD m A B :: .tup (qs.map nD) :: r)) (h : good S k (sysD m A B)) (hr : good S k (.tup (qs.map nD))) (hs : isSys (sysD m A B) = true) (hq : LowL 60 60 qs) (hl : qs.length = m) (hA : ∀ r ∈ A, RowOk qs r) (hB : ∀ r ∈ B, RowOk qs r) (lA : A.length ≤ 1000) (lB : B.length ≤ 1000) (kk : Told S Q "told" (.bl (holdsB A B qs))) : wpR (g__law_call [.str "holds", .ref n, .bl named] S) Q E := by
  refine wp_fn rfl ?_
  rw [w_try, w_seq]
  refine if_no rfl oHo oIs (by decide +kernel) ?_
  simp only []
  rw [w_seq]
  refine if_yes rfl oHo (ret_told rfl (fun _ => (holds_call rfl hn ?_).1) (fun _ => (holds_call rfl hn ?_).2))
  all_goals exact holds_ok_k h hr hs hq hl hA hB lA lB fun S1 f1 => told_last kk f1
theorem call_tidy_bad {v : D} {r : List D} (hn : rdL S n = some (v :: r)) (h : good S k v) (hb : isToldA v = false) (kk : Told S Q "no told" v) : wpR (g__law_call [.str "tidy", .ref n, .bl named] S) Q E ∧ wpR (g__law_call [.str "turn", .ref n, .bl named] S) Q E := by
  constructor
  · refine wp_fn rfl ?_
    rw [w_try, w_seq]
    refine if_no rfl oTi oIs (by decide +kernel) ?_
    simp only []
    rw [w_seq]
    refine if_no rfl oTi oHo (by decide +kernel) ?_
    simp only []
    rw [w_seq]
    refine if_yes rfl oTi (ret_told rfl (fun _ => (one_call rfl hn ?_).1) (fun _ => (one_call rfl hn ?_).2))
    all_goals exact (tidy_bad_k h hb fun S1 f1 => (by dsimp only; exact caught_k (.inr (.inr rfl)) rfl (told_last kk f1))).1
  · refine wp_fn rfl ?_
    rw [w_try, w_seq]
    refine if_no rfl oTu oIs (by decide +kernel) ?_
    simp only []
    rw [w_seq]
    refine if_no rfl oTu oHo (by decide +kernel) ?_
    simp only []
    rw [w_seq]
    refine if_no rfl oTu oTi (by decide +kernel) ?_
    refine ret_told rfl (fun _ => (one_call rfl hn ?_).1) (fun _ => (one_call rfl hn ?_).2)
    all_goals exact (tidy_bad_k h hb fun S1 f1 => (by dsimp only; exact caught_k (.inr (.inr rfl)) rfl (told_last kk f1))).2
theorem call_tidy_ok {ns : List Int} {r : List D} (hn : rdL S n = some (.tup (iLs ns) :: r)) (hb : ∀ x ∈ ns, Bd 900 x) (hl : ns.length ≤ 100) (hz : ∃ x ∈ ns, x ≠ 0) (kk : Told S Q "told" (.tup (iLs (divL ns)))) : wpR (g__law_call [.str "tidy", .ref n, .bl named] S) Q E := by
  refine wp_fn rfl ?_
  rw [w_try, w_seq]
  refine if_no rfl oTi oIs (by decide +kernel) ?_
  simp only []
  rw [w_seq]
  refine if_no rfl oTi oHo (by decide +kernel) ?_
  simp only []
  rw [w_seq]
  refine if_yes rfl oTi (ret_told rfl (fun _ => (one_call rfl hn ?_).1) (fun _ => (one_call rfl hn ?_).2))
  all_goals exact tidy_ok_k hb hl hz fun S1 f1 => told_last kk f1
theorem call_turn_ok {ns : List Int} {r : List D} (hn : rdL S n = some (.tup (iLs ns) :: r)) (hb : ∀ x ∈ ns, Bd 900 x) (hl : ns.length ≤ 100) (hz : ∃ x ∈ ns, x ≠ 0) (kk : Told S Q "told" (.tup (iLs (turnL ns)))) : wpR (g__law_call [.str "turn", .ref n, .bl named] S) Q E := by
  refine wp_fn rfl ?_
  rw [w_try, w_seq]
  refine if_no rfl oTu oIs (by decide +kernel) ?_
  simp only []
  rw [w_seq]
  refine if_no rfl oTu oHo (by decide +kernel) ?_
  simp only []
  rw [w_seq]
  refine if_no rfl oTu oTi (by decide +kernel) ?_
  refine ret_told rfl (fun _ => (one_call rfl hn ?_).1) (fun _ => (one_call rfl hn ?_).2)
  all_goals exact turn_ok_k hb hl hz fun S1 f1 => told_last kk f1
end
end Kk12
end Lay

set_option Elab.async false
set_option linter.all false
set_option maxRecDepth 100000
set_option maxHeartbeats 4000000
/-! the pure law: systems hold as the law says -/
namespace Lay
namespace Kk12
open PySem PySem.Spec PyProof.Rows L2
open Classical
theorem same_eq : ∀ n, g__law_same n = sameF Tb n
  | 0 => rfl
  | n + 1 => by
    rw [sameF_succ, ← same_eq n]
    rfl
section
variable {S : Store} {Q : D → Store → Prop} {E : Ex → Store → Prop} {sd : SD} {P : Ps} {b c : Nat}
theorem same_k {x y : D} {k : Nat} (h : Sim S k x y) (kk : ∀ S', Fr S S' → Q (.bl true) S') (hk : k ≤ 11 := by decide) : wpR (g__law_same 12 [x, y] S) Q E := by
  rw [same_eq]
  obtain ⟨S', e, f⟩ := same12 (T := Tb) h hk
  rw [e]
  exact kk S' f
theorem sim_told {p q : Nat} {t : Str} {v : D} {k : Nat} (hp : S[p]? = some (.lst [.str t, v])) (hq : S[q]? = some (.lst [.str t, v])) (ot : okS t = true) (hv : Sim S k v v) : Sim S (k + 1) (.ref p) (.ref q) :=
  .lst hp hq rfl (by simp) fun i a b e1 e2 => by
    rw [e1] at e2
    cases e2
    rcases i with _ | _ | i
    · cases e1; exact .str _ ot
    · cases e1; exact hv
    · simp at e1
/-- the law's due -/
theorem due_k {n : Nat} {A B : List TR} {qs : List (Int × Int)} (h4 : sd[4]? = some (some (sysD n A B))) (h5 : sd[5]? = some (some (.tup (qs.map nD)))) (hl : 8 < sd.length) (hA : ∀ r ∈ A, RowOk qs r) (hB : ∀ r ∈ B, RowOk qs r) (hq : ∀ q ∈ qs, Low 60 60 q) (lq : qs.length ≤ 1000) (lA : A.length ≤ 1000) (lB : B.length ≤ 1000)
    (kk : ∀ S', Fr S S' → Q (.bl (holdsB A B qs)) S') :
    wpR (eAnd (eBin pEq (eLc (itSeq (eBin pIx (eVar 4) (eC (.int 1)))) (gNm 8) (asB (eBin pNe (eBin pIx (eCall g__law_worth (aCons (eVar 8) (aCons (eVar 5) aNil))) (eC (.int 0))) (eC (.int 0)))) (eC (.int 1)) [8]) (eLst aNil)) (eBin pEq (eLc (itSeq (eBin pIx (eVar 4) (eC (.int 2)))) (gNm 8) (asB (eBin pLt (eBin pIx (eCall g__law_worth (aCons (eVar 8) (aCons (eVar 5) aNil))) (eC (.int 0))) (eC (.int 0)))) (eC (.int 1)) [8]) (eLst aNil)) sd S) Q E := by
  have worth_k : ∀ {r : TR} {S : Store}, RowOk qs r → g__law_worth [tD r, .tup (qs.map nD)] S = .ok (nD (wor (r.2, 1) r.1 qs)) S := fun {r S} h => worth_ok h.bd hq h.len lq h.wk
  rw [v_and, v_bin]
  refine lc_seqT (vals := A.map tD) (fun d => !decide (valD' qs d = 0)) (fun _ => .int 1) (by simp; omega) (fun Q h => ?_) (fun d hd S1 f1 => ?_) (fun m S1 hm f1 e1 => ?_)
  · rw [v_bin, wpR_var]
    refine ⟨_, h4, ?_⟩
    rw [wpR_c, sysD, wp_ixT]
    exact ⟨_, atI_1 _ _ _, h⟩
  · obtain ⟨r, hr, rfl⟩ := tD_mem hd
    rw [v_asB, v_bin, v_bin, v_call, v_cons, wpR_var]
    refine ⟨_, wipe_get hl, ?_⟩
    rw [v_cons, wpR_var]
    refine ⟨_, (wipe_ne (by decide)).trans h5, ?_⟩
    rw [v_nil, worth_k (hA r hr), wpR_ok, wpR_c, nD_0, wpR_c, wp_ne]
    refine ⟨_, rfl, by rw [valD'_of]; rfl, Fr.refl, fun _ => ?_⟩
    rw [wpR_c]
    exact ⟨rfl, Fr.refl⟩
  rw [v_lst, v_nil]
  refine ⟨fits_of (by simp), ?_⟩
  rw [wp_eql (rdL_lst ((Fr.app _).at e1)) (rdL_lst (last_at _ _)) (ones_pd _ _), ones_nil]
  have eA : (!(A.map tD).any fun d => !decide (valD' qs d = 0)) = A.all fun r => decide (val r qs = 0) := by
    rw [List.any_map, List.not_any_eq_all_not]
    congr 1
    funext r
    simp [valD'_of]
  rw [eA]
  refine ⟨_, tru_bl _, ?_⟩
  have F1 := f1.trans (Fr.app [SO.lst []])
  cases hAA : (A.all fun r => decide (val r qs = 0)) with
  | false =>
    simp only [Bool.false_eq_true, if_false]
    have : holdsB A B qs = false := by simp [holdsB, hAA]
    rw [← this]
    exact kk _ F1
  | true =>
    simp only [if_true]
    rw [v_bin]
    refine lc_seqT (vals := B.map tD) (fun d => decide (valD' qs d < 0)) (fun _ => .int 1) (by simp; omega) (fun Q h => ?_) (fun d hd S2 f2 => ?_) (fun m2 S2 hm2 f2 e2 => ?_)
    · rw [v_bin, wpR_var]
      refine ⟨_, h4, ?_⟩
      rw [wpR_c, sysD, wp_ixT]
      exact ⟨_, atI_2 _ _ _ _, h⟩
    · obtain ⟨r, hr, rfl⟩ := tD_mem hd
      rw [v_asB, v_bin, v_bin, v_call, v_cons, wpR_var]
      refine ⟨_, wipe_get hl, ?_⟩
      rw [v_cons, wpR_var]
      refine ⟨_, (wipe_ne (by decide)).trans h5, ?_⟩
      rw [v_nil, worth_k (hB r hr), wpR_ok, wpR_c, nD_0, wpR_c, wp_lt]
      refine ⟨_, rfl, by rw [valD'_of]; rfl, Fr.refl, fun _ => ?_⟩
      rw [wpR_c]
      exact ⟨rfl, Fr.refl⟩
    rw [v_lst, v_nil]
    refine ⟨fits_of (by simp), ?_⟩
    rw [wp_eql (rdL_lst ((Fr.app _).at e2)) (rdL_lst (last_at _ _)) (ones_pd _ _), ones_nil]
    have eB : (!(B.map tD).any fun d => decide (valD' qs d < 0)) = holdsB A B qs := by
      unfold holdsB
      rw [hAA, Bool.true_and, List.any_map, List.not_any_eq_all_not]
      congr 1
      funext r
      simp [valD'_of]
      by_cases h : val r qs < 0
      · simp [h]
      · have : 0 ≤ val r qs := by omega
        simp [h, this]
    rw [eB]
    exact kk _ (F1.trans (f2.trans (Fr.app _)))
/-- [named] turned about -/
theorem flip_k {v : Bool} {i : Nat} (h : sd[i]? = some (some (.bl v))) (k : P.n (sd.set i (some (.bl (!v)))) S) : wpS (sSet i (eNot (eVar i)) sd S) P := by
  rw [w_set, v_not, wpR_var]
  exact ⟨_, h, _, tru_bl _, k⟩
/-- the check of a call -/
theorem chk_k {W : EE} {A : EA} {Du : EE} {i : Nat} {t : Str} {v : D} {k : Nat} (ot : okS t = true) (hcall : ∀ (Q : D → Store → Prop), Told S Q t v → wpR (eCall g__law_call (aCons W (aCons (eLst A) (aCons (eVar i) aNil))) sd S) Q fun x S' => P.e x sd S')
    (hdue : ∀ (S1 : Store) (Q : D → Store → Prop), Fr S S1 → (∀ q S', Fr S1 S' → S'[q]? = some (.lst [.str t, v]) → Q (.ref q) S') → wpR (Du sd S1) Q fun x S' => P.e x sd S') (hv : ∀ S1, Fr S S1 → Sim S1 k v v) (kk : ∀ S', Fr S S' → P.n sd S') (hk : k ≤ 10 := by decide) :
    wpS (sIf (bNot (eTru (eCall (g__law_same 12) (aCons (eCall g__law_call (aCons W (aCons (eLst A) (aCons (eVar i) aNil)))) (aCons Du aNil))))) (sRet (eC (.bl false))) sNext sd S) P := by
  rw [w_if, v_bnot, v_tru, v_call, v_cons]
  refine hcall _ fun p S1 _ f1 e1 => ?_
  rw [v_cons]
  refine hdue S1 _ f1 fun q S2 f2 e2 => ?_
  rw [v_nil]
  refine same_k (k := k + 1) (sim_told (f2.at e1) e2 ot (hv S2 (f1.trans f2))) (fun S3 f3 => ?_) (by omega)
  exact ⟨_, tru_bl _, kk S3 (f1.trans (f2.trans f3))⟩
/-- ['told', name] -/
theorem due_var {j : Nat} {t : Str} {v : D} {S1 : Store} (h : sd[j]? = some (some v)) {Q : D → Store → Prop} {E : Ex → Store → Prop} (kk : ∀ q S', Fr S1 S' → S'[q]? = some (.lst [.str t, v]) → Q (.ref q) S') : wpR (eLst (aCons (eC (.str t)) (aCons (eVar j) aNil)) sd S1) Q E := by
  rw [v_lst, v_cons, wpR_c, v_cons, wpR_var]
  refine ⟨_, h, ?_⟩
  rw [v_nil]
  exact ⟨fits_of (by simp), kk _ _ (Fr.app _) (last_at _ _)⟩
end
end Kk12
end Lay

set_option Elab.async false
set_option linter.all false
set_option maxRecDepth 100000
set_option maxHeartbeats 4000000
/-! the pure law: the first checks -/
namespace Lay
namespace Kk12
open PySem PySem.Spec PyProof.Rows L2
open Classical
section
variable {S : Store} {Q : D → Store → Prop} {E : Ex → Store → Prop} {b c : Nat}
theorem sys_good {n : Nat} {A B : List TR} {k : Nat} {S : Store} (hn : n ≤ 80) (hA : Rows n A) (hB : Rows n B) (lA : A.length ≤ 200) (lB : B.length ≤ 200) : gd b S (k + 3) (sysD n A B) := gd.tup (by simp) fun d hd => by
  rcases (by simpa using hd : d = .int n ∨ d = tDs A ∨ d = tDs B) with rfl | rfl | rfl
  · exact gd.int (by unfold Bd; exact Nat.lt_of_lt_of_le (show ((n : Int)).natAbs < 2 ^ 7 by omega) (Nat.pow_le_pow_right (by decide) (by decide)))
  · exact gd_of_t (rows_it hA hn lA)
  · exact gd_of_t (rows_it hB hn lB)
theorem sys_true {n : Nat} {A B : List TR} (hn : n ≤ 80) (hA : Rows n A) (hB : Rows n B) (lA : A.length ≤ 120) (lB : B.length ≤ 120) : isSys (sysD n A B) = true := sys_of hn (fun r hr => told_of (hA r hr).len (hA r hr).nz) (fun r hr => told_of (hB r hr).len (hB r hr).nz) lA lB
theorem holds_right_k {v : Bool} (h : IsBox S b c) (k : ∀ S', IsBox S' b (c + 2000) → FrB b S S' → Q (.bl true) S') (hc : c ≤ 600000 := by omega) : wpR (g__law_holds_right [.ref b, .bl v] S) Q E := by
  refine wp_fn rfl ?_
  rw [w_seq, w_set, v_call, v_cons, wpR_var]
  refine ⟨_, rfl, ?_⟩
  rw [v_cons]
  refine pick_e htk [0, 1, 2, 3, 4, 5, 2, 3] (by simp) rfl h rfl fun z S1 hz b1 f1 => ?_
  rw [v_nil]
  obtain ⟨n, rfl, hn⟩ : ∃ n : Nat, z = n ∧ n ≤ 5 := by
    have h1 : ([0, 1, 2, 3, 4, 5, 2, 3] : List Int).all (fun z => decide (0 ≤ z) && decide (z ≤ 5)) = true := by decide
    have h2 := List.all_eq_true.mp h1 z hz
    rw [Bool.and_eq_true] at h2
    have h3 : 0 ≤ z := of_decide_eq_true h2.1
    have h4 : z ≤ 5 := of_decide_eq_true h2.2
    exact ⟨z.toNat, by omega, by omega⟩
  refine tops_k rfl b1 (by omega) fun qs S2 lq hq b2 f2 => ?_
  replace b2 := b2.mono (d := c + 31) (by omega)
  simp only []
  have hq60 : LowL 60 60 qs := hq.mono (by decide) (by decide)
  rw [w_seq, w_for]
  refine rgC_k (n := 3) rfl ?_
  refine wp_for (fun i sd S' => ∃ (w : Bool) (x3 x4 x5 x6 x7 x8 : Option D), sd = [some (.ref b), some (.bl w), some (.tup (qs.map nD)), x3, x4, x5, x6, x7, x8] ∧ IsBox S' b (c + 31 + 600 * i) ∧ FrB b S S') _ 0 _ _ ⟨v, none, none, none, none, none, none, rfl, b2, f1.trans f2⟩ ?_ ?_
  · rintro j d sd S3 hj ⟨w, x3, x4, x5, x6, x7, x8, rfl, b3, f3⟩
    rw [Nat.zero_add] at *
    obtain ⟨rfl, hj3⟩ := rngN_at hj
    refine ⟨trivial, _, rfl, ?_⟩
    simp only []
    rw [w_seq, w_set, v_call, v_cons, wpR_var]
    refine ⟨_, rfl, ?_⟩
    rw [v_cons, wpR_var]
    refine ⟨_, rfl, ?_⟩
    rw [v_nil]
    refine drawn_k b3 hq (by omega) fun A B S4 hA hB lA lB b4 f4 => ?_
    rw [lq] at hA hB
    simp only []
    have F4 := f3.trans f4
    have rok : ∀ {ps : List (Int × Int)}, LowL 60 60 ps → ps.length = n → (∀ r ∈ A, RowOk ps r) ∧ ∀ r ∈ B, RowOk ps r := fun {ps} hp hl => ⟨fun r hr => RowG.ok (by rw [hl]; exact hA r hr) hp (by omega), fun r hr => RowG.ok (by rw [hl]; exact hB r hr) hp (by omega)⟩
    have strue := sys_true (n := n) (by omega) hA hB (by omega) (by omega)
    have sgood : ∀ {S : Store}, gd b S 6 (sysD n A B) := sys_good (k := 3) (by omega) hA hB (by omega) (by omega)
    have esys : sysD qs.length A B = sysD n A B := by rw [lq]
    rw [esys]
    refine w_mid (fun sd S5 => ∃ (w : Bool) (x5 x6 x7 x8 : Option D), sd = [some (.ref b), some (.bl w), some (.tup (qs.map nD)), some (.int j), some (sysD n A B), x5, x6, x7, x8] ∧ IsBox S5 b (c + 31 + 600 * j + 190) ∧ FrB b S S5) ?_ ?_
    · -- the rows
      rw [w_for, v_itSeq, v_lst, v_cons, wpR_var]
      refine ⟨_, rfl, ?_⟩
      rw [v_cons, v_call, v_cons, wpR_var]
      refine ⟨_, rfl, ?_⟩
      rw [v_cons, v_callB, v_cons, wpR_var]
      refine ⟨_, rfl, ?_⟩
      rw [v_nil, wp_len]
      refine ⟨_, rfl, ?_⟩
      rw [v_nil]
      refine tops_k (n := n) (by rw [List.length_map, lq]) b4 (by omega) fun ps S5 lp hp b5 f5 => ?_
      rw [v_nil]
      refine ⟨fits_of (by simp), ?_⟩
      have e5 : (S5 ++ [SO.lst [D.tup (qs.map nD), D.tup (ps.map nD)]])[S5.length]? = some (.lst [D.tup (qs.map nD), D.tup (ps.map nD)]) := last_at _ _
      rw [seqQ_ref]
      refine ⟨_, rdL_lst e5, ?_⟩
      have b5' : IsBox (S5 ++ [SO.lst [D.tup (qs.map nD), D.tup (ps.map nD)]]) b (c + 31 + 600 * j + 190) := (b5.app _).mono (by omega)
      have F5 : FrB b S (S5 ++ [SO.lst [D.tup (qs.map nD), D.tup (ps.map nD)]]) := F4.trans (f5.trans ((Fr.app _).b b))
      have n5 : b < S5.length := b5.lt
      generalize S5 ++ [SO.lst [D.tup (qs.map nD), D.tup (ps.map nD)]] = S6 at e5 b5' F5
      refine wp_for (fun i sd S' => ∃ (w : Bool) (x5 x6 x7 x8 : Option D), sd = [some (.ref b), some (.bl w), some (.tup (qs.map nD)), some (.int j), some (sysD n A B), x5, x6, x7, x8] ∧ IsBox S' b (c + 31 + 600 * j + 190) ∧ FrB b S S' ∧ Fr S6 S') _ 0 _ _ ⟨w, x5, x6, x7, x8, rfl, b5', F5, Fr.refl⟩ ?_ ?_
      · rintro i d sd S7 hi ⟨w, x5, x6, x7, x8, rfl, b7, F7, f7⟩
        refine ⟨rdL_fr f7 (rdL_lst e5), ?_⟩
        obtain ⟨rs, rfl, hr, lr⟩ : ∃ rs : List (Int × Int), d = .tup (rs.map nD) ∧ LowL 40 30 rs ∧ rs.length = n := by
          rcases i with _ | _ | i
          · simp at hi; exact ⟨qs, hi.symm, hq, lq⟩
          · simp at hi; exact ⟨ps, hi.symm, hp, lp⟩
          · simp at hi
        have hr60 : LowL 60 60 rs := hr.mono (by decide) (by decide)
        obtain ⟨okA, okB⟩ := rok hr60 lr
        refine ⟨_, rfl, ?_⟩
        simp only []
        rw [w_seq, w_set]
        refine due_k (n := n) rfl rfl (by simp) okA okB hr60 (by omega) (by omega) (by omega) fun S8 f8 => ?_
        simp only []
        rw [w_seq]
        refine chk_k (t := "told") (v := .bl (holdsB A B rs)) (k := 0) oTo (fun QQ kt => ?_) (fun S9 QQ f9 kd => due_var rfl kd) (fun S9 f9 => .bl _) fun S9 f9 => ?_
        · rw [v_call, v_cons, wpR_c, v_cons, v_lst, v_cons, wpR_var]
          refine ⟨_, rfl, ?_⟩
          rw [v_cons, wpR_var]
          refine ⟨_, rfl, ?_⟩
          rw [v_nil]
          refine ⟨fits_of (by simp), ?_⟩
          rw [v_cons, wpR_var]
          refine ⟨_, rfl, ?_⟩
          rw [v_nil]
          exact call_holds_ok (m := n) (r := []) (rdL_lst (last_at _ _)) (sgood.good) ((nums_good (b := b) (k := 4) (hr.mono (by decide) (by decide)) (by omega)).good) strue hr60 lr okA okB (by omega) (by omega) fun p S9 hp f9 e9 => kt p S9 (Nat.le_trans (by simp) hp) ((Fr.app _).trans f9) e9
        · dsimp only
          refine flip_k rfl ?_
          have f79 := f8.trans f9
          exact ⟨_, _, _, _, _, rfl, b7.fr f79, F7.trans (f79.b b), f7.trans f79⟩
      · rintro sd S7 ⟨w, x5, x6, x7, x8, rfl, b7, F7, f7⟩
        exact ⟨rdL_fr f7 (rdL_lst e5), w, x5, x6, x7, x8, rfl, b7, F7⟩
    · rintro sd S5 ⟨w, x5, x6, x7, x8, rfl, b5, F5⟩
      -- the values
      have spv : GP b 110 (IG b 6) (eCall g__law_spoilt (aCons (eVar 0) (aCons (eVar 4) aNil))) [some (.ref b), some (.bl w), some (.tup (qs.map nD)), some (.int j), some (sysD n A B), x5, x6, x7, x8] S5 := gp_of fun S1 c' f1 b1 hc' QQ kk => by
        rw [v_call, v_cons, wpR_var]
        refine ⟨_, rfl, ?_⟩
        rw [v_cons, wpR_var]
        refine ⟨_, rfl, ?_⟩
        rw [v_nil]
        exact spoilt_k b1 (by omega) hA hB (by omega) (by omega) kk (by omega)
      have anv : GP b 1 (IG b 6) (eCall g__law_any (aCons (eVar 0) aNil)) [some (.ref b), some (.bl w), some (.tup (qs.map nD)), some (.int j), some (sysD n A B), x5, x6, x7, x8] S5 := gp_of fun S1 c' f1 b1 hc' QQ kk => by
        rw [v_call, v_cons, wpR_var]
        refine ⟨_, rfl, ?_⟩
        rw [v_nil]
        exact any_k b1 (fun x S2 hx b2 f2 => kk x S2 (hx.mono (by decide)) b2 f2) (by omega)
      have sysv : ∀ {S : Store}, GP b 0 (IG b 6) (eVar 4) [some (.ref b), some (.bl w), some (.tup (qs.map nD)), some (.int j), some (sysD n A B), x5, x6, x7, x8] S := gp_var rfl pm_g sgood
      rw [w_for, v_itSeq]
      refine GP.use (b := b) (m := 331) (P := ILn b 6 6) (gln_lst (ga_c (m := 0) (m' := 331) sysv (ga_c (m := 110) (m' := 221) spv (ga_c (m := 110) (m' := 111) spv (ga_c (m := 110) (m' := 1) spv (ga_c (m := 1) (m' := 0) anv (ga_c (m := 0) (m' := 0) sysv gp_nil))))))) b5 fun vs S6 hvs b6 f6 => ?_
      obtain ⟨p, vals, rfl, hp, ep, lv, gv⟩ := hvs
      rw [seqQ_ref]
      refine ⟨_, rdL_lst ep, ?_⟩
      have F6 := F5.trans f6
      refine wp_for (fun i sd S' => ∃ (w : Bool) (x5 x6 x7 x8 : Option D), sd = [some (.ref b), some (.bl w), some (.tup (qs.map nD)), some (.int j), some (sysD n A B), x5, x6, x7, x8] ∧ Fr S6 S') _ 0 _ _ ⟨w, x5, x6, x7, x8, rfl, Fr.refl⟩ ?_ ?_
      · rintro i d sd S7 hi ⟨w, x5, x6, x7, x8, rfl, f7⟩
        refine ⟨rdL_fr f7 (rdL_lst ep), _, rfl, ?_⟩
        have gd6 := gv d (List.mem_of_getElem? hi)
        simp only []
        rw [w_seq, w_set, v_call, v_cons, wpR_var]
        refine ⟨_, rfl, ?_⟩
        rw [v_nil]
        refine lsystem_k (gd6.fr f7).good fun S8 f8 => ?_
        simp only []
        rw [w_seq]
        refine chk_k (t := "told") (v := .bl (isSys d)) (k := 0) oTo (fun QQ kt => ?_) (fun S9 QQ f9 kd => due_var rfl kd) (fun S9 f9 => .bl _) fun S9 f9 => ?_
        · rw [v_call, v_cons, wpR_c, v_cons, v_lst, v_cons, wpR_var]
          refine ⟨_, rfl, ?_⟩
          rw [v_nil]
          refine ⟨fits_of (by simp), ?_⟩
          rw [v_cons, wpR_var]
          refine ⟨_, rfl, ?_⟩
          rw [v_nil]
          exact call_is (r := []) (rdL_lst (last_at _ _)) ((gd6.fr (f7.trans (f8.trans (Fr.app _)))).good) fun p S9 hp f9 e9 => kt p S9 (Nat.le_trans (by simp) hp) ((Fr.app _).trans f9) e9
        · dsimp only
          refine flip_k rfl ?_
          exact ⟨_, _, _, _, _, rfl, f7.trans (f8.trans f9)⟩
      · rintro sd S7 ⟨w, x5, x6, x7, x8, rfl, f7⟩
        exact ⟨rdL_fr f7 (rdL_lst ep), w, some (.int j), some (sysD n A B), x5, x6, x7, x8, rfl, (b6.fr f7).mono (by omega), F6.trans (f7.b b)⟩
  · rintro sd S3 ⟨w, x3, x4, x5, x6, x7, x8, rfl, b3, f3⟩
    refine ⟨trivial, ?_⟩
    rw [rngN_len] at b3
    dsimp only
    rw [w_ret, wpR_c]
    exact k S3 (b3.mono (by omega)) f3
end
end Kk12
end Lay

set_option Elab.async false
set_option linter.all false
set_option maxRecDepth 100000
set_option maxHeartbeats 4000000
/-! the pure law: tidy rows, great systems -/
namespace Lay
namespace Kk12
open PySem PySem.Spec PyProof.Rows L2
open Classical
section
variable {S : Store} {Q : D → Store → Prop} {E : Ex → Store → Prop} {b c : Nat}
theorem plain_iL {ns : List Int} {k : Nat} (hb : ∀ x ∈ ns, Bd 1000 x) (hl : ns.length ≤ 400) : plain (k + 1) (.tup (iLs ns)) := by
  simp only [plain]
  refine ⟨by rw [iLs_len]; exact hl, fun d hd => ?_⟩
  obtain ⟨x, hx, rfl⟩ := List.mem_map.mp hd
  cases k <;> simpa [plain] using hb x hx
theorem div_bd {ns : List Int} {m : Nat} (hb : ∀ x ∈ ns, Bd m x) : ∀ x ∈ divL ns, Bd m x := fun x hx => by
  obtain ⟨y, hy, rfl⟩ := List.mem_map.mp hx
  have h1 := hb y hy
  unfold Bd at *
  have : (y / (gcdL 0 ns : Nat)).natAbs ≤ y.natAbs := by
    have := Int.natAbs_ediv_le_natAbs y (gcdL 0 ns : Nat)
    exact this
  omega
theorem turn_bd {ns : List Int} {m : Nat} (hb : ∀ x ∈ ns, Bd m x) : ∀ x ∈ turnL ns, Bd m x := by
  unfold turnL
  split
  · intro x hx
    obtain ⟨y, hy, rfl⟩ := List.mem_map.mp hx
    rw [Int.zero_sub]
    exact (div_bd hb y hy).neg
  · exact div_bd hb
theorem div_len (ns : List Int) : (divL ns).length = ns.length := by simp [divL]
theorem turn_len (ns : List Int) : (turnL ns).length = ns.length := by unfold turnL; split <;> simp [negL, divL]
theorem tidy_right_k {v : Bool} (h : IsBox S b c) (k : ∀ S', IsBox S' b (c + 700) → FrB b S S' → Q (.bl true) S') (hc : c ≤ 600000 := by omega) : wpR (g__law_tidy_right [.ref b, .bl v] S) Q E := by
  refine wp_fn rfl ?_
  rw [w_seq, w_for]
  refine rgC_k (n := 6) rfl ?_
  refine wp_for (fun i sd S' => ∃ (w : Bool) (x2 x3 x4 x5 : Option D), sd = [some (.ref b), some (.bl w), x2, x3, x4, x5] ∧ IsBox S' b (c + 110 * i) ∧ FrB b S S') _ 0 _ _ ⟨v, none, none, none, none, rfl, by simpa using h, FrB.refl⟩ ?_ ?_
  · rintro j d sd S1 hj ⟨w, x2, x3, x4, x5, rfl, b1, f1⟩
    rw [Nat.zero_add] at *
    obtain ⟨rfl, hj6⟩ := rngN_at hj
    refine ⟨trivial, _, rfl, ?_⟩
    dsimp only
    refine w_mid (fun sd S2 => ∃ ns : List Int, sd = [some (.ref b), some (.bl w), some (.int j), some (.tup (iLs ns)), x4, x5] ∧ ns.length ≤ 100 ∧ (∀ x ∈ ns, Bd 90 x) ∧ (∃ x ∈ ns, x ≠ 0) ∧ IsBox S2 b (c + 110 * (j + 1)) ∧ FrB b S S2) ?_ ?_
    · rw [w_set, v_call, v_cons, wpR_var]
      refine ⟨_, rfl, ?_⟩
      rw [v_cons]
      have go : ∀ (n : Nat) (z : Int) (S2 : Store), z = n → n ≤ 80 → IsBox S2 b (c + 110 * j + 2) → FrB b S1 S2 → wpR (aNil [some (.ref b), some (.bl w), some (.int (j : Nat)), x3, x4, x5] S2) (fun xs S3 => wpR (g__law_told_drawn (.ref b :: .int z :: xs) S3) (fun d S4 => ∃ ns : List Int, ([some (.ref b), some (.bl w), some (.int (j : Nat)), x3, x4, x5] : SD).set 3 (some d) = [some (.ref b), some (.bl w), some (.int j), some (.tup (iLs ns)), x4, x5] ∧ ns.length ≤ 100 ∧ (∀ x ∈ ns, Bd 90 x) ∧ (∃ x ∈ ns, x ≠ 0) ∧ IsBox S4 b (c + 110 * (j + 1)) ∧ FrB b S S4) fun x S' => E x S') fun x S' => E x S' := fun n z S2 hz hn b2 f2 => by
        rw [v_nil]
        refine told_drawn_k hz b2 hn fun ns S3 ln bn zn b3 f3 => ?_
        exact ⟨ns, rfl, by omega, bn, zn, b3.mono (by omega), f1.trans (f2.trans f3)⟩
      rw [v_if, v_band, v_asB, v_bin, wpR_var]
      refine ⟨_, rfl, ?_⟩
      rw [wpR_c, wp_eq]
      refine ⟨_, rfl, ?_⟩
      have t6 : ∀ (S2 : Store), IsBox S2 b (c + 110 * j + 1) → FrB b S1 S2 → wpR (eCall g__law_take (aCons (eVar 0) (aCons (eC (.int 6)) aNil)) [some (.ref b), some (.bl w), some (.int (j : Nat)), x3, x4, x5] S2) (fun x S2 => wpR (aNil [some (.ref b), some (.bl w), some (.int (j : Nat)), x3, x4, x5] S2) (fun xs S3 => wpR (g__law_told_drawn (.ref b :: x :: xs) S3) (fun d S4 => ∃ ns : List Int, ([some (.ref b), some (.bl w), some (.int (j : Nat)), x3, x4, x5] : SD).set 3 (some d) = [some (.ref b), some (.bl w), some (.int j), some (.tup (iLs ns)), x4, x5] ∧ ns.length ≤ 100 ∧ (∀ x ∈ ns, Bd 90 x) ∧ (∃ x ∈ ns, x ≠ 0) ∧ IsBox S4 b (c + 110 * (j + 1)) ∧ FrB b S S4) fun x S' => E x S') fun x S' => E x S') fun x S' => E x S' := fun S2 b2 f2 => by
        refine tkE htk rfl b2 fun t S3 ht b3 f3 => ?_
        exact go t _ S3 rfl (by omega) b3 (f2.trans f3)
      by_cases hj0 : ((j : Nat) : Int) = 0
      · simp only [hj0, decide_true, if_true]
        rw [v_asB, v_bin]
        have hj0' : j = 0 := by omega
        subst hj0'
        refine tkE htk rfl b1 fun t S2 ht b2 f2 => ?_
        rw [wpR_c, wp_eq]
        refine ⟨_, rfl, ?_⟩
        by_cases ht0 : (t : Int) = 0
        · simp only [ht0, decide_true, if_true]
          rw [wpR_c]
          exact go 80 80 S2 rfl (by decide) (b2.mono (by omega)) f2
        · simp only [ht0, decide_false, Bool.false_eq_true, if_false]
          exact t6 S2 b2 f2
      · simp only [hj0, decide_false, Bool.false_eq_true, if_false]
        exact t6 S1 (b1.mono (by omega)) FrB.refl
    rintro sd S2 ⟨ns, rfl, ln, bn, ⟨z, hz, z0⟩, b2, f2⟩
    have b9 : ∀ x ∈ ns, Bd 900 x := fun x hx => (bn x hx).mono (by decide)
    have bz := (bn z hz).mono (show 90 ≤ 1000 by decide)
    rw [w_for, v_itSeq, v_lst, v_cons, v_tup, v_cons, wpR_c, v_cons, v_call, v_cons, wpR_var]
    refine ⟨_, rfl, ?_⟩
    rw [v_nil]
    refine divided_k hz z0 bz (by omega) fun S3 f3 => ?_
    rw [v_nil]
    refine ⟨fits_of (by simp), ?_⟩
    rw [v_cons, v_tup, v_cons, wpR_c, v_cons, v_call, v_cons, wpR_var]
    refine ⟨_, rfl, ?_⟩
    rw [v_nil]
    refine lturned_k b9 ln ⟨z, hz, z0⟩ fun S4 f4 => ?_
    rw [v_nil]
    refine ⟨fits_of (by simp), ?_⟩
    rw [v_cons, v_tup, v_cons, wpR_c, v_cons, v_call, v_cons, wpR_var]
    refine ⟨_, rfl, ?_⟩
    rw [v_nil]
    refine divided_k hz z0 bz (by omega) fun S5 f5 => ?_
    rw [v_nil]
    refine ⟨fits_of (by simp), ?_⟩
    rw [v_nil]
    refine ⟨fits_of (by simp), ?_⟩
    have e6 : (S5 ++ [SO.lst [D.tup [.str "tidy", .tup (iLs (divL ns))], D.tup [.str "turn", .tup (iLs (turnL ns))], D.tup [.str "tidy", .tup (iLs (divL ns))]]])[S5.length]? = _ := last_at _ _
    rw [seqQ_ref]
    refine ⟨_, rdL_lst e6, ?_⟩
    have F6 := f3.trans (f4.trans (f5.trans (Fr.app [SO.lst [D.tup [.str "tidy", .tup (iLs (divL ns))], D.tup [.str "turn", .tup (iLs (turnL ns))], D.tup [.str "tidy", .tup (iLs (divL ns))]]])))
    generalize S5 ++ [SO.lst [D.tup [.str "tidy", .tup (iLs (divL ns))], D.tup [.str "turn", .tup (iLs (turnL ns))], D.tup [.str "tidy", .tup (iLs (divL ns))]]] = S6 at e6 F6
    have simD : ∀ {S : Store} {ms : List Int}, (∀ x ∈ ms, Bd 900 x) → ms.length ≤ 100 → Sim S 1 (.tup (iLs ms)) (.tup (iLs ms)) := fun hb hl => plain_sim (plain_iL (k := 0) (fun x hx => (hb x hx).mono (by decide)) (by omega))
    refine wp_for (fun i sd S' => ∃ (w : Bool) (x4 x5 : Option D), sd = [some (.ref b), some (.bl w), some (.int j), some (.tup (iLs ns)), x4, x5] ∧ Fr S6 S') _ 0 _ _ ⟨w, x4, x5, rfl, Fr.refl⟩ ?_ ?_
    · rintro i d sd S7 hi ⟨w, x4, x5, rfl, f7⟩
      refine ⟨rdL_fr f7 (rdL_lst e6), ?_⟩
      have case1 : ∀ (S7 : Store) (w : Bool) (x4 x5 : Option D), Fr S6 S7 → wpS (sSeq (sIf (bNot (eTru (eCall (g__law_same 12) (aCons (eCall g__law_call (aCons (eVar 4) (aCons (eLst (aCons (eVar 3) aNil)) (aCons (eVar 1) aNil)))) (aCons (eLst (aCons (eC (.str "told")) (aCons (eVar 5) aNil))) aNil))))) (sRet (eC (.bl false))) sNext) (sSet 1 (eNot (eVar 1))) [some (.ref b), some (.bl w), some (.int j), some (.tup (iLs ns)), some (.str "tidy"), some (.tup (iLs (divL ns)))] S7) { n := fun sd S' => ∃ (w : Bool) (x4 x5 : Option D), sd = [some (.ref b), some (.bl w), some (.int j), some (.tup (iLs ns)), x4, x5] ∧ Fr S6 S', r := Q, e := fun x _ S' => E x S' } := fun S7 w x4 x5 f7 => by
        rw [w_seq]
        refine chk_k (t := "told") (v := .tup (iLs (divL ns))) (k := 1) oTo (fun QQ kt => ?_) (fun S9 QQ f9 kd => due_var rfl kd) (fun S9 f9 => simD (div_bd b9) (by rw [div_len]; exact ln)) fun S9 f9 => ?_
        · rw [v_call, v_cons, wpR_var]
          refine ⟨_, rfl, ?_⟩
          rw [v_cons, v_lst, v_cons, wpR_var]
          refine ⟨_, rfl, ?_⟩
          rw [v_nil]
          refine ⟨fits_of (by simp), ?_⟩
          rw [v_cons, wpR_var]
          refine ⟨_, rfl, ?_⟩
          rw [v_nil]
          exact call_tidy_ok (r := []) (rdL_lst (last_at _ _)) b9 ln ⟨z, hz, z0⟩ fun p S9 hp f9 e9 => kt p S9 (Nat.le_trans (by simp) hp) ((Fr.app _).trans f9) e9
        · dsimp only
          refine flip_k rfl ?_
          exact ⟨_, _, _, rfl, f7.trans f9⟩
      rcases i with _ | _ | _ | i
      · simp at hi
        subst hi
        refine ⟨_, rfl, ?_⟩
        dsimp only
        have := case1 S7 w x4 x5 f7
        refine wpS_mono this (fun _ _ z => z) (fun _ _ z => z) (fun _ _ z => z.elim) (fun _ _ z => z.elim) fun _ _ _ z => z
      · simp at hi
        subst hi
        refine ⟨_, rfl, ?_⟩
        dsimp only
        rw [w_seq]
        refine chk_k (t := "told") (v := .tup (iLs (turnL ns))) (k := 1) oTo (fun QQ kt => ?_) (fun S9 QQ f9 kd => due_var rfl kd) (fun S9 f9 => simD (turn_bd b9) (by rw [turn_len]; exact ln)) fun S9 f9 => ?_
        · rw [v_call, v_cons, wpR_var]
          refine ⟨_, rfl, ?_⟩
          rw [v_cons, v_lst, v_cons, wpR_var]
          refine ⟨_, rfl, ?_⟩
          rw [v_nil]
          refine ⟨fits_of (by simp), ?_⟩
          rw [v_cons, wpR_var]
          refine ⟨_, rfl, ?_⟩
          rw [v_nil]
          exact call_turn_ok (r := []) (rdL_lst (last_at _ _)) b9 ln ⟨z, hz, z0⟩ fun p S9 hp f9 e9 => kt p S9 (Nat.le_trans (by simp) hp) ((Fr.app _).trans f9) e9
        · dsimp only
          refine flip_k rfl ?_
          exact ⟨_, _, _, rfl, f7.trans f9⟩
      · simp at hi
        subst hi
        refine ⟨_, rfl, ?_⟩
        dsimp only
        have := case1 S7 w x4 x5 f7
        refine wpS_mono this (fun _ _ z => z) (fun _ _ z => z) (fun _ _ z => z.elim) (fun _ _ z => z.elim) fun _ _ _ z => z
      · simp at hi
    · rintro sd S7 ⟨w, x4, x5, rfl, f7⟩
      exact ⟨rdL_fr f7 (rdL_lst e6), w, _, _, x4, x5, rfl, b2.fr (F6.trans f7), f2.trans ((F6.trans f7).b b)⟩
  · rintro sd S1 ⟨w, x2, x3, x4, x5, rfl, b1, f1⟩
    refine ⟨trivial, ?_⟩
    rw [rngN_len] at b1
    dsimp only
    rw [w_ret, wpR_c]
    exact k S1 (b1.mono (by omega)) f1
end
end Kk12
end Lay

set_option Elab.async false
set_option linter.all false
set_option maxRecDepth 100000
set_option maxHeartbeats 4000000
/-! the pure law: great systems -/
namespace Lay
namespace Kk12
open PySem PySem.Spec PyProof.Rows L2
open Classical
section
variable {S : Store} {Q : D → Store → Prop} {E : Ex → Store → Prop} {b c : Nat}
theorem wp_mulT {x : D} {z : Int} {m : Nat} {S : Store} {Q : D → Store → Prop} (hz : z = m) (h2 : 2 ≤ m) (hm : m ≤ 1000) : wpP (pMulT (.tup [x]) (.int z) S) Q = Q (.tup (List.replicate m x)) S := by
  subst hz
  unfold pMulT
  dsimp only
  rw [if_neg (by omega), if_pos (by simp; omega)]
  have : (List.replicate ((m : Int)).toNat [x]).flatten = List.replicate m x := by
    rw [Int.toNat_natCast, List.flatten_replicate_singleton]
  rw [this, wpP_some]
theorem reps_t (m : Nat) (r : TR) : D.tup (List.replicate m (tD r)) = tDs (List.replicate m r) := by
  unfold tDs
  rw [List.map_replicate]
theorem zeros_eq (m : Nat) : D.tup (List.replicate m (.tup [.int 0, .int 1])) = .tup ((List.replicate m ((0, 1) : Int × Int)).map nD) := by
  rw [List.map_replicate]
  rfl
theorem zeros_low (m : Nat) : LowL 60 60 (List.replicate m (0, 1)) := fun q hq => by
  rw [(List.mem_replicate.mp hq).2]
  exact ⟨by decide, by decide, by unfold Bd; decide, by unfold Bd; decide⟩
def unit80 (at_ : Nat) : List Int := (List.range 80).map fun k => if k = at_ then 1 else 0
theorem holds_rep {r : TR} {n : Nat} {qs : List (Int × Int)} (h : val r qs = r.2) : (List.replicate n r).all (fun r => decide (val r qs = 0)) = (decide (n = 0) || decide (r.2 = 0)) ∧ (List.replicate n r).all (fun r => decide (0 ≤ val r qs)) = (decide (n = 0) || decide (0 ≤ r.2)) := by
  induction n with
  | zero => simp
  | succ n ih =>
    simp only [List.replicate_succ, List.all_cons, h, ih.1, ih.2]
    constructor
    · by_cases h0 : r.2 = 0 <;> by_cases hn : n = 0 <;> simp [h0, hn]
    · by_cases h0 : 0 ≤ r.2 <;> by_cases hn : n = 0 <;> simp [h0, hn]
theorem zero_ok {r : TR} {n : Nat} (h : RowG n r) : RowOk (List.replicate n (0, 1)) r := ⟨by simp [h.len], fun w hw => (h.bd w hw).mono (by decide), (wok_zero ((low1 h.last).mono (by decide) (by decide))).1⟩
theorem great_right_k {v : Bool} (h : IsBox S b c) (k : ∀ S', IsBox S' b (c + 2) → FrB b S S' → Q (.bl true) S') (hc : c ≤ 600000 := by omega) : wpR (g__law_great_right [.ref b, .bl v] S) Q E := by
  refine wp_fn rfl ?_
  rw [w_seq, w_asg, v_tup, v_cons]
  refine tkE htk rfl h fun at_ S1 hat b1 f1 => ?_
  rw [v_cons, v_bin]
  refine tkE htk rfl b1 fun l S2 hl b2 f2 => ?_
  rw [wpR_c, wp_sub, v_nil]
  refine ⟨fits_of (by simp), ?_⟩
  rw [wp_gtup2]
  dsimp only
  have bl : Bd 5 ((l : Int) - 4) := by unfold Bd; omega
  generalize hlast : (l : Int) - 4 = last at bl
  -- the row
  rw [w_seq, w_set, v_bin, v_callB, v_cons]
  refine lc_map (rngN 80) (fun _ => true) (fun d => if d = .int at_ then .int 1 else .int 0) (by simp) (fun QI q => rgC_k (n := 80) rfl (q S2 _ Fr.refl fun _ _ => trivial)) (fun d hd S3 f3 => ?_) (fun m S3 hm f3 e3 => ?_)
  · rw [v_true]
    refine ⟨rfl, Fr.refl, fun _ => ?_⟩
    obtain ⟨j, hj⟩ := List.mem_iff_getElem?.mp hd
    obtain ⟨rfl, hj80⟩ := rngN_at hj
    rw [v_if, v_asB, v_bin, wpR_var]
    refine ⟨_, rfl, ?_⟩
    rw [wpR_var]
    refine ⟨_, rfl, ?_⟩
    rw [wp_eq]
    refine ⟨_, rfl, ?_⟩
    by_cases e : (j : Int) = at_
    · rw [e]
      simp only [decide_true, if_true]
      rw [wpR_c]
      exact ⟨rfl, Fr.refl⟩
    · have e2 : ¬ (D.int (j : Int) = .int at_) := fun z => e (by injection z)
      rw [if_neg e2, decide_eq_false e]
      simp only [Bool.false_eq_true, if_false]
      rw [wpR_c]
      exact ⟨rfl, Fr.refl⟩
  rw [filt_true] at e3
  have erow : (rngN 80).map (fun d => if d = D.int at_ then D.int 1 else D.int 0) = iLs (unit80 at_) := by
    unfold rngN unit80 iLs
    rw [List.map_map, List.map_map]
    refine List.map_congr_left fun j hj => ?_
    simp only [Function.comp]
    by_cases e : j = at_
    · rw [e, if_pos rfl, if_pos rfl]
    · rw [if_neg e, if_neg fun z => e (by injection z with z; omega)]
  rw [erow] at e3
  rw [v_nil, wp_tupL (rdL_lst e3), v_tup, v_cons, wpR_var]
  refine ⟨_, rfl, ?_⟩
  rw [v_nil]
  refine ⟨fits_of (by simp), ?_⟩
  rw [wp_addT (by rw [iLs_len]; simp [unit80])]
  dsimp only
  have erow2 : D.tup (iLs (unit80 at_) ++ [D.int last]) = tD (unit80 at_, last) := by unfold tD iLs; simp
  rw [erow2]
  have lu : (unit80 at_).length = 80 := by simp [unit80]
  have bu : ∀ x ∈ unit80 at_, Bd 60 x := fun x hx => by
    obtain ⟨j, _, rfl⟩ := List.mem_map.mp hx
    split <;> (unfold Bd; decide)
  have hr : RowG 80 (unit80 at_, last) := ⟨lu, bu, bl.mono (by decide), 1, List.mem_append.mpr (.inl (List.mem_map.mpr ⟨at_, List.mem_range.mpr (by omega), by simp⟩)), by decide⟩
  have wz := wok_zero (f := (last, 1)) (ws := unit80 at_) (n := 80) ((low1 bl).mono (by decide) (by decide))
  have rok : RowOk (List.replicate 80 (0, 1)) (unit80 at_, last) := ⟨by simp [lu], fun w hw => (bu w hw).mono (by decide), wz.1⟩
  have vl : val (unit80 at_, last) (List.replicate 80 (0, 1)) = (unit80 at_, last).2 := by
    unfold val
    rw [wz.2]
  generalize hrr : ((unit80 at_, last) : TR) = r at hr rok vl
  have er2 : r.2 = last := by rw [← hrr]
  have hrs : ∀ m, Rows 80 (List.replicate m r) := fun m x hx => by rw [(List.mem_replicate.mp hx).2]; exact hr
  -- the zeros
  rw [w_seq, w_set, v_bin, v_tup, v_cons, v_tup, v_cons, wpR_c, v_cons, wpR_c, v_nil]
  refine ⟨fits_of (by simp), ?_⟩
  rw [v_nil]
  refine ⟨fits_of (by simp), ?_⟩
  rw [wpR_c, wp_mulT (z := 80) (m := 80) rfl (by decide) (by decide), zeros_eq]
  dsimp only
  have F3 := f1.trans (f2.trans (f3.b b))
  have b3 : IsBox S3 b (c + 1 + 1) := b2.fr f3
  have zgood : ∀ {m : Nat} {S : Store}, m ≤ 400 → gd b S 6 (.tup ((List.replicate m ((0, 1) : Int × Int)).map nD)) := fun {m S} hm => nums_good (k := 4) ((zeros_low m).mono (by decide) (by decide)) (by simpa using hm)
  -- the loops
  refine w_mid (fun sd S' => ∃ (w : Bool) (x4 x8 x9 x10 : Option D), sd = [some (.ref b), some (.bl w), some (tD r), some (.tup ((List.replicate 80 ((0, 1) : Int × Int)).map nD)), x4, none, some (.int at_), some (.int last), x8, x9, x10] ∧ Fr S3 S') ?_ ?_
  · rw [w_for, v_itSeq, v_lst, v_cons, wpR_c, v_cons, wpR_c, v_nil]
    refine ⟨fits_of (by simp), ?_⟩
    have e4 : (S3 ++ [SO.lst [D.int 120, D.int 121]])[S3.length]? = _ := last_at _ _
    rw [seqQ_ref]
    refine ⟨_, rdL_lst e4, ?_⟩
    have f4 : Fr S3 (S3 ++ [SO.lst [D.int 120, D.int 121]]) := Fr.app _
    generalize S3 ++ [SO.lst [D.int 120, D.int 121]] = S4 at e4 f4
    refine wp_for (fun i sd S' => ∃ (w : Bool) (x4 x8 x9 x10 : Option D), sd = [some (.ref b), some (.bl w), some (tD r), some (.tup ((List.replicate 80 ((0, 1) : Int × Int)).map nD)), x4, none, some (.int at_), some (.int last), x8, x9, x10] ∧ Fr S4 S') _ 0 _ _ ⟨v, none, none, none, none, by rw [← hrr]; rfl, Fr.refl⟩ ?_ ?_
    · rintro i d sd S5 hi ⟨w, x4, x8, x9, x10, rfl, f5⟩
      refine ⟨rdL_fr f5 (rdL_lst e4), ?_⟩
      obtain ⟨m, z, rfl, hz, hm, hz120⟩ : ∃ (m : Nat) (z : Int), d = .int z ∧ z = m ∧ (m = 120 ∨ m = 121) ∧ (z = 120 ↔ m = 120) := by
        rcases i with _ | _ | i
        · simp at hi; exact ⟨120, 120, hi.symm, rfl, .inl rfl, by simp⟩
        · simp at hi; exact ⟨121, 121, hi.symm, rfl, .inr rfl, by simp⟩
        · simp at hi
      refine ⟨_, rfl, ?_⟩
      dsimp only
      -- the two systems
      rw [w_for, v_itSeq, v_lst, v_cons, v_tup, v_cons, wpR_c, v_cons, v_bin, v_tup, v_cons, wpR_var]
      refine ⟨_, rfl, ?_⟩
      rw [v_nil]
      refine ⟨fits_of (by simp), ?_⟩
      rw [wpR_var]
      refine ⟨_, rfl, ?_⟩
      rw [wp_mulT hz (by omega) (by omega), v_cons, v_tup, v_cons, wpR_var]
      refine ⟨_, rfl, ?_⟩
      rw [v_nil]
      refine ⟨fits_of (by simp), ?_⟩
      rw [v_nil]
      refine ⟨fits_of (by simp), ?_⟩
      rw [v_cons, v_tup, v_cons, wpR_c, v_cons, v_tup, v_nil]
      refine ⟨fits_of (by simp), ?_⟩
      rw [v_cons, v_bin, v_tup, v_cons, wpR_var]
      refine ⟨_, rfl, ?_⟩
      rw [v_nil]
      refine ⟨fits_of (by simp), ?_⟩
      rw [wpR_var]
      refine ⟨_, rfl, ?_⟩
      rw [wp_mulT hz (by omega) (by omega), v_nil]
      refine ⟨fits_of (by simp), ?_⟩
      rw [v_nil]
      refine ⟨fits_of (by simp), ?_⟩
      have s1 : D.tup [.int 80, .tup (List.replicate m (tD r)), .tup [tD r]] = sysD 80 (List.replicate m r) [r] := by rw [reps_t]; rfl
      have s2 : D.tup [.int 80, .tup [], .tup (List.replicate m (tD r))] = sysD 80 [] (List.replicate m r) := by rw [reps_t]; rfl
      rw [s1, s2]
      have e6 : (S5 ++ [SO.lst [sysD 80 (List.replicate m r) [r], sysD 80 [] (List.replicate m r)]])[S5.length]? = _ := last_at _ _
      rw [seqQ_ref]
      refine ⟨_, rdL_lst e6, ?_⟩
      have f6 : Fr S5 (S5 ++ [SO.lst [sysD 80 (List.replicate m r) [r], sysD 80 [] (List.replicate m r)]]) := Fr.app _
      generalize S5 ++ [SO.lst [sysD 80 (List.replicate m r) [r], sysD 80 [] (List.replicate m r)]] = S6 at e6 f6
      refine wp_for (fun i sd S' => ∃ (w : Bool) (x8 x9 x10 : Option D), sd = [some (.ref b), some (.bl w), some (tD r), some (.tup ((List.replicate 80 ((0, 1) : Int × Int)).map nD)), some (.int z), none, some (.int at_), some (.int last), x8, x9, x10] ∧ Fr S6 S') _ 0 _ _ ⟨w, x8, x9, x10, rfl, Fr.refl⟩ ?_ ?_
      · rintro i d sd S7 hi2 ⟨w, x8, x9, x10, rfl, f7⟩
        refine ⟨rdL_fr f7 (rdL_lst e6), ?_⟩
        obtain ⟨A, B, rfl, hA, hB, lA, lB, hiff, hdue⟩ : ∃ A B : List TR, d = sysD 80 A B ∧ Rows 80 A ∧ Rows 80 B ∧ A.length ≤ 121 ∧ B.length ≤ 121 ∧ (m = 120 → A.length ≤ 120 ∧ B.length ≤ 120) ∧ ((m = 121 → ¬ (A.length ≤ 120 ∧ B.length ≤ 120)) ∧ ∀ qs, val r qs = r.2 → holdsB A B qs = (decide (last = 0) || (decide (0 < last) && A.isEmpty))) := by
          rcases i with _ | _ | i
          · simp at hi2
            refine ⟨_, _, hi2.symm, hrs m, (show Rows 80 [r] from fun x hx => by rw [List.mem_singleton.mp hx]; exact hr), by simp; omega, by simp, by simp; omega, by simp; omega, fun qs hv => ?_⟩
            unfold holdsB
            rw [(holds_rep hv).1]
            have hm0 : m ≠ 0 := by omega
            have hne : (List.replicate m r).isEmpty = false := by
              cases m with
              | zero => omega
              | succ m => rfl
            rw [hne]
            simp [hm0, hv, er2]
            omega
          · simp at hi2
            refine ⟨_, _, hi2.symm, (fun x hx => by simp at hx), hrs m, by simp, by simp; omega, (by intro z; simp; omega), by simp; omega, fun qs hv => ?_⟩
            unfold holdsB
            rw [(holds_rep hv).2]
            have hm0 : m ≠ 0 := by omega
            simp [hm0, er2]
            rcases Int.lt_trichotomy last 0 with z | z | z
            · have h1 : ¬ 0 ≤ last := by omega
              have h2 : ¬ last = 0 := by omega
              have h3 : ¬ 0 < last := by omega
              simp [h1, h2, h3]
            · subst z; simp
            · have h1 : 0 ≤ last := by omega
              simp [h1, z]
          · simp at hi2
        have sgood : ∀ {S : Store}, gd b S 6 (sysD 80 A B) := sys_good (k := 3) (by omega) hA hB (by omega) (by omega)
        have hsys : isSys (sysD 80 A B) = decide (m = 120) := by
          rcases hm with rfl | rfl
          · obtain ⟨h1, h2⟩ := hiff rfl
            rw [sys_true (by omega) hA hB h1 h2]; rfl
          · have := hdue.1 rfl
            have e : isSys (sysD 80 A B) = false := by
              by_cases hA' : A.length ≤ 120
              · have hB' : ¬ B.length ≤ 120 := fun z => this ⟨hA', z⟩
                simp [isSys, sysD, isRows, tDs, hB']
              · simp [isSys, sysD, isRows, tDs, hA']
            rw [e]; rfl
        refine ⟨_, rfl, ?_⟩
        dsimp only
        rw [w_seq]
        refine chk_k (t := "told") (v := .bl (decide (m = 120))) (k := 0) oTo (fun QQ kt => ?_) (fun S9 QQ f9 kd => ?_) (fun S9 f9 => .bl _) fun S8 f8 => ?_
        · rw [v_call, v_cons, wpR_c, v_cons, v_lst, v_cons, wpR_var]
          refine ⟨_, rfl, ?_⟩
          rw [v_nil]
          refine ⟨fits_of (by simp), ?_⟩
          rw [v_cons, wpR_var]
          refine ⟨_, rfl, ?_⟩
          rw [v_nil]
          rw [← hsys] at kt
          exact call_is (r := []) (rdL_lst (last_at _ _)) sgood.good fun p S9 hp f9 e9 => kt p S9 (Nat.le_trans (by simp) hp) ((Fr.app _).trans f9) e9
        · rw [v_lst, v_cons, wpR_c, v_cons, v_bin, wpR_var]
          refine ⟨_, rfl, ?_⟩
          rw [wpR_c, wp_eq, v_nil]
          refine ⟨fits_of (by simp), ?_⟩
          rw [show decide (z = 120) = decide (m = 120) from decide_eq_decide.mpr hz120]
          exact kd _ _ (Fr.app _) (last_at _ _)
        dsimp only
        rw [w_seq]
        refine flip_k rfl ?_
        dsimp only
        rw [w_seq]
        -- the due
        have hcall : ∀ (t : Str) (v : D) (k : Nat), okS t = true → k ≤ 10 → (∀ S1 : Store, Sim S1 k v v) → (∀ (QQ : D → Store → Prop) (S8 : Store) (E : Ex → Store → Prop) (w : Bool) (n : Nat), rdL S8 n = some [sysD 80 A B, .tup ((List.replicate 80 ((0, 1) : Int × Int)).map nD)] → Told S8 QQ t v → wpR (g__law_call [.str "holds", .ref n, .bl w] S8) QQ E) → ∀ (P : Ps) (S8 : Store) (q : Nat) (w : Bool), (∀ S', Fr S8 S' → P.n [some (.ref b), some (.bl w), some (tD r), some (.tup ((List.replicate 80 ((0, 1) : Int × Int)).map nD)), some (.int z), none, some (.int at_), some (.int last), some (sysD 80 A B), some (.ref q), x10] S') → S8[q]? = some (.lst [.str t, v]) →
            wpS (sIf (bNot (eTru (eCall (g__law_same 12) (aCons (eCall g__law_call (aCons (eC (.str "holds")) (aCons (eLst (aCons (eVar 8) (aCons (eVar 3) aNil))) (aCons (eVar 1) aNil)))) (aCons (eVar 9) aNil))))) (sRet (eC (.bl false))) sNext [some (.ref b), some (.bl w), some (tD r), some (.tup ((List.replicate 80 ((0, 1) : Int × Int)).map nD)), some (.int z), none, some (.int at_), some (.int last), some (sysD 80 A B), some (.ref q), x10] S8)
              P := fun t v k ot hk hv hc P S8 q w kn eq => by
          refine chk_k (t := t) (v := v) (k := k) ot (fun QQ kt => ?_) (fun S9 QQ f9 kd => ?_) (fun S9 f9 => hv _) (fun S9 f9 => ?_) hk
          · rw [v_call, v_cons, wpR_c, v_cons, v_lst, v_cons, wpR_var]
            refine ⟨_, rfl, ?_⟩
            rw [v_cons, wpR_var]
            refine ⟨_, rfl, ?_⟩
            rw [v_nil]
            refine ⟨fits_of (by simp), ?_⟩
            rw [v_cons, wpR_var]
            refine ⟨_, rfl, ?_⟩
            rw [v_nil]
            exact hc _ _ _ _ _ (rdL_lst (last_at _ _)) fun p S9 hp f9 e9 => kt p S9 (Nat.le_trans (by simp) hp) ((Fr.app _).trans f9) e9
          · rw [wpR_var]
            exact ⟨_, rfl, kd _ _ Fr.refl (f9.at eq)⟩
          · exact kn S9 f9
        rw [w_set, v_if, v_asB, v_bin, wpR_var]
        refine ⟨_, rfl, ?_⟩
        rw [wpR_c, wp_eq]
        refine ⟨_, rfl, ?_⟩
        by_cases h120 : m = 120
        · rw [decide_eq_true (hz120.mpr h120)]
          simp only [if_true]
          obtain ⟨la, lb⟩ := hiff h120
          have hd := hdue.2 _ vl
          have strue := sys_true (n := 80) (by omega) hA hB la lb
          -- the value of the due
          have pdA : ∀ d ∈ A.map tD, PD 1 d := fun d hd => by
            obtain ⟨x, hx, rfl⟩ := List.mem_map.mp hd
            exact PD.tup fun d hd => by
              obtain ⟨y, _, rfl⟩ := List.mem_map.mp hd
              exact .int _
          have eA : (A.map tD).isEmpty = A.isEmpty := by cases A <;> rfl
          have fin : ∀ (QQ : D → Store → Prop) (S8 : Store) (sd : SD) (E : Ex → Store → Prop), sd[7]? = some (some (.int last)) → sd[8]? = some (some (sysD 80 A B)) → (∀ S9, Fr S8 S9 → QQ (.bl (holdsB A B (List.replicate 80 (0, 1)))) S9) → wpR (eOr (eBin pEq (eVar 7) (eC (.int 0))) (eAnd (eBin pGt (eVar 7) (eC (.int 0))) (eBin pEq (eBin pIx (eVar 8) (eC (.int 1))) (eTup aNil))) sd S8) QQ E := fun QQ S8 sd E h7 h8 q => by
            rw [v_or, v_bin, wpR_var]
            refine ⟨_, h7, ?_⟩
            rw [wpR_c, wp_eq]
            refine ⟨_, tru_bl _, ?_⟩
            have q' := q S8 Fr.refl
            rw [hd] at q'
            by_cases l0 : last = 0
            · rw [decide_eq_true l0] at q' ⊢
              simp only [if_true]
              simpa using q'
            · rw [decide_eq_false l0] at q' ⊢
              simp only [Bool.false_eq_true, if_false]
              rw [v_and, v_bin, wpR_var]
              refine ⟨_, h7, ?_⟩
              rw [wpR_c, wp_gt]
              refine ⟨_, tru_bl _, ?_⟩
              by_cases lp : 0 < last
              · rw [decide_eq_true lp] at q' ⊢
                simp only [if_true]
                rw [v_bin, v_bin, wpR_var]
                refine ⟨_, h8, ?_⟩
                rw [wpR_c, sysD, wp_ixT]
                refine ⟨_, atI_1 _ _ _, ?_⟩
                rw [v_tup, v_nil]
                refine ⟨fits_of (by simp), ?_⟩
                unfold tDs
                rw [wp_eqtnil pdA, eA]
                simpa using q'
              · rw [decide_eq_false lp] at q' ⊢
                simp only [Bool.false_eq_true, if_false]
                simpa using q'
          rw [v_lst, v_cons, wpR_c, v_cons]
          refine fin _ S8 _ _ rfl rfl fun S9 f9 => ?_
          rw [v_nil]
          refine ⟨fits_of (by simp), ?_⟩
          refine hcall "told" (.bl (holdsB A B (List.replicate 80 (0, 1)))) 0 oTo (by decide) (fun _ => .bl _) (fun QQ S8 E w n hn kt => ?_) _ _ _ _ (fun S' f => ⟨_, _, _, _, rfl, f7.trans (f8.trans (f9.trans ((Fr.app _).trans f)))⟩) (last_at _ _)
          exact call_holds_ok (r := []) hn sgood.good (zgood (by decide)).good strue (zeros_low 80) (by simp) (fun x hx => zero_ok (hA x hx)) (fun x hx => zero_ok (hB x hx)) (by omega) (by omega) kt
        · rw [decide_eq_false fun z => h120 (hz120.mp z)]
          simp only [Bool.false_eq_true, if_false]
          rw [v_lst, v_cons, wpR_c, v_cons, wpR_var]
          refine ⟨_, rfl, ?_⟩
          rw [v_nil]
          refine ⟨fits_of (by simp), ?_⟩
          refine hcall "system" (sysD 80 A B) 6 oSy (by decide) (fun S => good_sim sgood.good) (fun QQ S8 E w n hn kt => ?_) _ _ _ _ (fun S' f => ⟨_, _, _, _, rfl, f7.trans (f8.trans ((Fr.app _).trans f))⟩) (last_at _ _)
          exact call_holds_sys (r := []) hn sgood.good (by rw [hsys, decide_eq_false h120]) kt
      · rintro sd S7 ⟨w, x8, x9, x10, rfl, f7⟩
        exact ⟨rdL_fr f7 (rdL_lst e6), w, _, x8, x9, x10, rfl, f5.trans (f6.trans f7)⟩
    · rintro sd S5 ⟨w, x4, x8, x9, x10, rfl, f5⟩
      exact ⟨rdL_fr f5 (rdL_lst e4), w, x4, x8, x9, x10, rfl, f4.trans f5⟩
  rintro sd S4 ⟨w, x4, x8, x9, x10, rfl, f4⟩
  rw [w_seq, w_set, v_tup, v_cons, wpR_c, v_cons, v_tup, v_nil]
  refine ⟨fits_of (by simp), ?_⟩
  rw [v_cons, v_tup, v_cons, v_bin, v_tup, v_cons, wpR_c, v_nil]
  refine ⟨fits_of (by simp), ?_⟩
  rw [wpR_var]
  refine ⟨_, rfl, ?_⟩
  have lr : (iLs (r.1 ++ [r.2])).length = 81 := by rw [iLs_len]; simp [hr.len]
  unfold tD
  rw [wp_addT (by rw [lr]; simp), v_nil]
  refine ⟨fits_of (by simp), ?_⟩
  rw [v_nil]
  refine ⟨fits_of (by simp), ?_⟩
  dsimp only
  have eov : D.tup [.int 81, .tup [], .tup [.tup ([D.int 1] ++ iLs (r.1 ++ [r.2]))]] = sysD 81 [] [(1 :: r.1, r.2)] := rfl
  rw [eov]
  have govr : RowG 81 (1 :: r.1, r.2) := ⟨by simp [hr.len], fun w hw => by
    rcases List.mem_cons.mp hw with rfl | hw
    · unfold Bd; decide
    · exact hr.bd w hw, hr.last, 1, by simp, by decide⟩
  have ogood : ∀ {S : Store}, gd b S 6 (sysD 81 [] [(1 :: r.1, r.2)]) := fun {S} => gd.tup (by simp) fun d hd => by
    rcases (by simpa using hd : d = .int 81 ∨ d = tDs [] ∨ d = tDs [(1 :: r.1, r.2)]) with rfl | rfl | rfl
    · exact gd.int (by unfold Bd; exact Nat.lt_of_lt_of_le (show ((81 : Int)).natAbs < 2 ^ 7 by decide) (Nat.pow_le_pow_right (by decide) (by decide)))
    · exact gd.tup (by simp) fun d hd => by simp at hd
    · refine gd.tup (by simp) fun d hd => ?_
      obtain ⟨x, hx, rfl⟩ := tD_mem hd
      rw [List.mem_singleton.mp hx]
      exact (gd_of_t (row_it (k := 0) (m := 90) govr (by decide))).mono (by decide)
  have osys : isSys (sysD 81 [] [(1 :: r.1, r.2)]) = false := rfl
  generalize sysD 81 [] [(1 :: r.1, r.2)] = ov at ogood osys
  rw [w_ret, v_call, v_cons, v_lst, v_cons, v_call, v_cons, wpR_c, v_cons, v_lst, v_cons, wpR_var]
  refine ⟨_, rfl, ?_⟩
  rw [v_nil]
  refine ⟨fits_of (by simp), ?_⟩
  rw [v_cons, wpR_var]
  refine ⟨_, rfl, ?_⟩
  rw [v_nil]
  refine call_is (v := ov) (r := []) (rdL_lst (last_at _ _)) ogood.good fun p S5 hp f5 e5 => ?_
  rw [v_cons, v_call, v_cons, wpR_c, v_cons, v_lst, v_cons, wpR_var]
  refine ⟨_, rfl, ?_⟩
  rw [v_cons, v_bin, wpR_var]
  refine ⟨_, rfl, ?_⟩
  rw [v_tup, v_cons, v_tup, v_cons, wpR_c, v_cons, wpR_c, v_nil]
  refine ⟨fits_of (by simp), ?_⟩
  rw [v_nil]
  refine ⟨fits_of (by simp), ?_⟩
  rw [wp_addT (by simp), v_nil]
  refine ⟨fits_of (by simp), ?_⟩
  rw [v_cons, wpR_var]
  refine ⟨_, rfl, ?_⟩
  rw [v_nil]
  refine call_holds_sys (r := []) (rdL_lst (last_at _ _)) ogood.good osys fun q S6 hq f6 e6 => ?_
  rw [v_nil]
  refine ⟨fits_of (by simp), ?_⟩
  rw [v_cons, v_lst, v_cons, v_lst, v_cons, wpR_c, v_cons, wpR_c, v_nil]
  refine ⟨fits_of (by simp), ?_⟩
  rw [v_cons, v_lst, v_cons, wpR_c, v_cons, wpR_var]
  refine ⟨_, rfl, ?_⟩
  rw [v_nil]
  refine ⟨fits_of (by simp), ?_⟩
  rw [v_nil]
  refine ⟨fits_of (by simp), ?_⟩
  rw [v_nil]
  rw [osys] at e5
  have e5' := ((Fr.app _).trans f6).at e5
  -- the store at last
  generalize hS7 : S6 ++ [SO.lst [D.ref p, D.ref q]] = S7
  have a7 : S7[S6.length]? = some (.lst [D.ref p, D.ref q]) := by rw [← hS7]; exact last_at _ _
  have f7 : Fr S6 S7 := by rw [← hS7]; exact Fr.app _
  generalize hS8 : S7 ++ [SO.lst [D.str "told", D.bl false]] = S8
  have a8 : S8[S7.length]? = some (.lst [D.str "told", D.bl false]) := by rw [← hS8]; exact last_at _ _
  have f8 : Fr S7 S8 := by rw [← hS8]; exact Fr.app _
  generalize hS9 : S8 ++ [SO.lst [D.str "system", ov]] = S9
  have a9 : S9[S8.length]? = some (.lst [D.str "system", ov]) := by rw [← hS9]; exact last_at _ _
  have f9 : Fr S8 S9 := by rw [← hS9]; exact Fr.app _
  generalize hS10 : S9 ++ [SO.lst [D.ref S7.length, D.ref S8.length]] = S10
  have a10 : S10[S9.length]? = some (.lst [D.ref S7.length, D.ref S8.length]) := by rw [← hS10]; exact last_at _ _
  have f10 : Fr S9 S10 := by rw [← hS10]; exact Fr.app _
  have F7 := f7.trans (f8.trans (f9.trans f10))
  refine same_k (k := 8) (.lst ((f8.trans (f9.trans f10)).at a7) a10 rfl (by simp) fun i x y e1 e2 => ?_) (fun S11 f11 => ?_)
  · rcases i with _ | _ | i
    · cases e1; cases e2
      exact Sim.mono (sim_told (F7.at e5') ((f9.trans f10).at a8) oTo (.bl (k := 0) false)) (by decide)
    · cases e1; cases e2
      exact sim_told (F7.at e6) (f10.at a9) oSy (good_sim ogood.good)
    · simp at e1
  · have FF := f4.trans ((Fr.app _).trans (f5.trans ((Fr.app _).trans (f6.trans (F7.trans f11)))))
    exact k S11 (b3.fr FF) (F3.trans (FF.b b))
end
end Kk12
end Lay

set_option Elab.async false
set_option linter.all false
set_option maxRecDepth 100000
set_option maxHeartbeats 4000000
/-! the pure law: what is refused: rows that are none -/
namespace Lay
namespace Kk12
open PySem PySem.Spec PyProof.Rows L2
open Classical
section
variable {S : Store} {Q : D → Store → Prop} {E : Ex → Store → Prop} {b c : Nat}
theorem gcd_twice {t u : Int} (hu : 0 < u) : gN (2 * t) (2 * u) ≠ 1 := by
  unfold gN
  intro h
  have h1 : 2 ∣ (2 * t).natAbs := by rw [Int.natAbs_mul]; exact Nat.dvd_mul_right _ _
  have h2 : 2 ∣ (2 * u).natAbs := by rw [Int.natAbs_mul]; exact Nat.dvd_mul_right _ _
  have := Nat.dvd_gcd h1 h2
  rw [h] at this
  omega
def NotNum (b : Nat) : Store → D → Prop := fun S x => gd b S 3 x ∧ isN x = false
theorem pm_nn : PMo b (NotNum b) := fun S S' x f h => ⟨h.1.frb f, h.2⟩
/-- the ways in which a number is none -/
theorem ways_k {t u : Int} {sd : SD} {i j : Nat} (ht : sd[i]? = some (some (.int t))) (hu : sd[j]? = some (some (.int u))) (hl : Low 100 100 (t, u)) :
    GP b 0 (ILP b (NotNum b) 9) (eLst (aCons (eTup (aCons (eBin pMul (eC (.int 2)) (eVar i)) (aCons (eBin pMul (eC (.int 2)) (eVar j)) aNil))) (aCons (eTup (aCons (eVar i) (aCons (eC (.int 0)) aNil))) (aCons (eLst (aCons (eVar i) (aCons (eVar j) aNil))) (aCons (eVar i) (aCons (eTup (aCons (eVar i) (aCons (eC (.bl true)) aNil))) (aCons (eTup (aCons (eBin pSub (eC (.int 0)) (eVar i)) (aCons (eBin pSub (eC (.int 0)) (eVar j)) aNil))) (aCons (eTup (aCons (eVar i) (aCons (eVar j) (aCons (eC (.int 1)) aNil)))) (aCons (eC .non) (aCons (eC (.str "1")) aNil)))))))))) sd S := by
  have bt : Bd 100 t := hl.top
  have bu : Bd 100 u := hl.base
  have up : 0 < u := hl.pos
  have gt : ∀ {k : Nat} {S : Store}, gd b S k (.int t) := fun {k S} => gd.int (bt.mono (by decide))
  have gu : ∀ {k : Nat} {S : Store}, gd b S k (.int u) := fun {k S} => gd.int (bu.mono (by decide))
  have two : ∀ {x y : D} {S : Store}, gd b S 2 x → gd b S 2 y → gd b S 3 (.tup [x, y]) := fun hx hy => gd.tup (by simp) fun d hd => by
    rcases (by simpa using hd) with rfl | rfl <;> assumption
  have cn : ∀ {e : EE} {aa : EA} {n : Nat} {sd : SD} {S : Store}, GP b 0 (NotNum b) e sd S → GPA b 0 (NotNum b) n aa sd S → GPA b 0 (NotNum b) (n + 1) (aCons e aa) sd S := fun h1 h2 => gp_cons (m := 0) (m' := 0) pm_nn h1 h2
  refine gq_lst pm_nn (cn ?_ (cn ?_ (cn ?_ (cn ?_ (cn ?_ (cn ?_ (cn ?_ (cn ?_ (cn ?_ gp_nil)))))))))
  · intro S1 c f1 b1 hc
    rw [v_tup, v_cons, v_bin, wpR_c, wpR_var]
    refine ⟨_, ht, ?_⟩
    rw [wp_mul]
    refine ⟨mulf (show Bd 2 2 by unfold Bd; decide) bt, ?_⟩
    rw [v_cons, v_bin, wpR_c, wpR_var]
    refine ⟨_, hu, ?_⟩
    rw [wp_mul]
    refine ⟨mulf (show Bd 2 2 by unfold Bd; decide) bu, ?_⟩
    rw [v_nil]
    refine ⟨fits_of (by simp), FrB.refl, b1, two (gd.int (((show Bd 2 2 by unfold Bd; decide).mul bt).mono (by decide))) (gd.int (((show Bd 2 2 by unfold Bd; decide).mul bu).mono (by decide))), ?_⟩
    simp [isN, gcd_twice up]
  · intro S1 c f1 b1 hc
    rw [v_tup, v_cons, wpR_var]
    refine ⟨_, ht, ?_⟩
    rw [v_cons, wpR_c, v_nil]
    exact ⟨fits_of (by simp), FrB.refl, b1, two gt (gd.int (by unfold Bd; exact Nat.lt_of_lt_of_le (show ((0 : Int)).natAbs < 2 ^ 7 by decide) (Nat.pow_le_pow_right (by decide) (by decide)))), rfl⟩
  · intro S1 c f1 b1 hc
    rw [v_lst, v_cons, wpR_var]
    refine ⟨_, ht, ?_⟩
    rw [v_cons, wpR_var]
    refine ⟨_, hu, ?_⟩
    rw [v_nil]
    have := b1.lt
    exact ⟨fits_of (by simp), (Fr.app _).b b, b1.app _, gd.lst (last_at _ _) (by omega) (by simp) (fun d hd => by
      rcases (by simpa using hd : d = .int t ∨ d = .int u) with rfl | rfl
      · exact gt
      · exact gu), rfl⟩
  · exact gp_var ht pm_nn ⟨gt, rfl⟩
  · intro S1 c f1 b1 hc
    rw [v_tup, v_cons, wpR_var]
    refine ⟨_, ht, ?_⟩
    rw [v_cons, wpR_c, v_nil]
    exact ⟨fits_of (by simp), FrB.refl, b1, two gt (gd.bl _), rfl⟩
  · intro S1 c f1 b1 hc
    rw [v_tup, v_cons, v_bin, wpR_c, wpR_var]
    refine ⟨_, ht, ?_⟩
    rw [wp_sub, v_cons, v_bin, wpR_c, wpR_var]
    refine ⟨_, hu, ?_⟩
    rw [wp_sub, v_nil]
    refine ⟨fits_of (by simp), FrB.refl, b1, two (gd.int (by rw [Int.zero_sub]; exact bt.neg.mono (by decide))) (gd.int (by rw [Int.zero_sub]; exact bu.neg.mono (by decide))), ?_⟩
    have : ¬ 0 < 0 - u := by omega
    simp only [isN, decide_eq_false this, Bool.false_and]
  · intro S1 c f1 b1 hc
    rw [v_tup, v_cons, wpR_var]
    refine ⟨_, ht, ?_⟩
    rw [v_cons, wpR_var]
    refine ⟨_, hu, ?_⟩
    rw [v_cons, wpR_c, v_nil]
    refine ⟨fits_of (by simp), FrB.refl, b1, gd.tup (by simp) (fun d hd => ?_), rfl⟩
    rcases (by simpa using hd : d = .int t ∨ d = .int u ∨ d = .int 1) with rfl | rfl | rfl
    · exact gt
    · exact gu
    · exact gd.int (bd1.mono (by decide))
  · exact gp_c fun S => ⟨gd.non, rfl⟩
  · exact gp_c fun S => ⟨gd.str okS1, rfl⟩
/-- no row of n numbers -/
def NotRow (b n : Nat) : Store → D → Prop := fun S x => gd b S 5 x ∧ isRowOf n x = false
theorem pm_nr {n : Nat} : PMo b (NotRow b n) := fun S S' x f h => ⟨h.1.frb f, h.2⟩
theorem isN_row {ds : List D} {d : D} {n : Int} (h : d ∈ ds) (hd : isN d = false) : isRowOf n (.tup ds) = false := by
  have : ds.all isN = false := by
    rw [List.all_eq_false]
    exact ⟨d, h, by rw [hd]; simp⟩
  simp [isRowOf, this]
theorem cut_last {ds : List D} (h : 0 < ds.length) : (cutD ds none (some (-1))).length = ds.length - 1 := by
  unfold cutD
  have e1 : HT.sIx ds.length 0 none = 0 := rfl
  have e2 : HT.sIx ds.length ds.length (some (-1)) = ds.length - 1 := by
    show (if (-1 : Int) < 0 then ((-1) + (ds.length : Int)).toNat else min (-1 : Int).toNat ds.length) = _
    rw [if_pos (by decide)]
    omega
  rw [e1, e2]
  simp
theorem bads_k {qs : List (Int × Int)} {n : Nat} {bad : D} {sd : SD} (hlq : qs.length = n) (hn : 0 < n) (h100 : n ≤ 100) (hq : LowL 900 900 qs) (h2 : sd[2]? = some (some (.tup (qs.map nD)))) (h4 : sd[4]? = some (some bad)) (hb : NotRow b n S bad) :
    GP b 0 (ILP b (NotRow b n) 8) (eLst (aCons (eVar 4) (aCons (eVar 4) (aCons (eCallB pList (aCons (eVar 2) aNil)) (aCons (eBin pAdd (eVar 2) (eTup (aCons (eTup (aCons (eC (.int 0)) (aCons (eC (.int 1)) aNil))) aNil))) (aCons (eSl (eVar 2) oNone (oSome (eNeg (eC (.int 1))))) (aCons (eC .non) (aCons (eC (.int 5)) (aCons (eDct [.inr ("a" : Str)] (aCons (eC (.int 1)) aNil)) aNil))))))))) sd S := by
  have cn : ∀ {e : EE} {aa : EA} {m : Nat} {sd : SD} {S : Store}, GP b 0 (NotRow b n) e sd S → GPA b 0 (NotRow b n) m aa sd S → GPA b 0 (NotRow b n) (m + 1) (aCons e aa) sd S := fun h1 h2 => gp_cons (m := 0) (m' := 0) pm_nr h1 h2
  have gq : ∀ {k : Nat} {S : Store}, ∀ d ∈ qs.map nD, gd b S (k + 1) d := fun {k S} d hd => by
    obtain ⟨q, hq', rfl⟩ := List.mem_map.mp hd
    have := hq q hq'
    refine gd.tup (by simp) fun d hd => ?_
    rcases (by simpa using hd : d = .int q.1 ∨ d = .int q.2) with rfl | rfl
    · exact gd.int (this.top.mono (by decide))
    · exact gd.int (this.base.mono (by decide))
  have g01 : ∀ {k : Nat} {S : Store}, gd b S (k + 1) (.tup [.int 0, .int 1]) := fun {k S} => gd.tup (by simp) fun d hd => by
    rcases (by simpa using hd : d = .int 0 ∨ d = .int 1) with rfl | rfl
    · exact gd.int (by unfold Bd; exact Nat.lt_of_lt_of_le (show ((0 : Int)).natAbs < 2 ^ 7 by decide) (Nat.pow_le_pow_right (by decide) (by decide)))
    · exact gd.int (bd1.mono (by decide))
  refine gq_lst pm_nr (cn (gp_var h4 pm_nr hb) (cn (gp_var h4 pm_nr hb) (cn ?_ (cn ?_ (cn ?_ (cn ?_ (cn ?_ (cn ?_ gp_nil))))))))
  · intro S1 c f1 b1 hc
    rw [v_callB, v_cons, wpR_var]
    refine ⟨_, h2, ?_⟩
    rw [v_nil]
    show wpP (some (D.ref S1.length, S1 ++ [SO.lst (qs.map nD)])) _
    rw [wpP_some]
    have := b1.lt
    exact ⟨(Fr.app _).b b, b1.app _, gd.lst (last_at _ _) (by omega) (by simp; omega) gq, rfl⟩
  · intro S1 c f1 b1 hc
    rw [v_bin, wpR_var]
    refine ⟨_, h2, ?_⟩
    rw [v_tup, v_cons, v_tup, v_cons, wpR_c, v_cons, wpR_c, v_nil]
    refine ⟨fits_of (by simp), ?_⟩
    rw [v_nil]
    refine ⟨fits_of (by simp), ?_⟩
    rw [wp_addT (by simp; omega)]
    refine ⟨FrB.refl, b1, gd.tup (by simp; omega) (fun d hd => ?_), ?_⟩
    · rcases List.mem_append.mp hd with hd | hd
      · exact gq d hd
      · rw [List.mem_singleton.mp hd]; exact g01
    · have : ¬ ((qs.length : Int) + 1 = n) := by omega
      simp [isRowOf, this]
  · intro S1 c f1 b1 hc
    rw [v_sl, wpR_var]
    refine ⟨_, h2, ?_⟩
    rw [v_onone, v_osome, v_neg, v_c]
    refine ⟨1, rfl, -1, rfl, ?_⟩
    rw [wp_slT]
    have hl : (cutD (qs.map nD) none (some (-1))).length = n - 1 := by rw [cut_last (by simp; omega)]; simp [hlq]
    refine ⟨FrB.refl, b1, gd.tup (by omega) (fun d hd => gq d (mem_cut hd)), ?_⟩
    have : ¬ (((cutD (qs.map nD) none (some (-1))).length : Int) = n) := by omega
    simp only [isRowOf, decide_eq_false this, Bool.and_false]
  · exact gp_c fun S => ⟨gd.non, rfl⟩
  · exact gp_c fun S => ⟨gd.int (by unfold Bd; exact Nat.lt_of_lt_of_le (show ((5 : Int)).natAbs < 2 ^ 7 by decide) (Nat.pow_le_pow_right (by decide) (by decide))), rfl⟩
  · refine (gp_dctR (b := b) (k := 4) (ds := [.int 1]) (fun _ => rfl) rfl (by decide) (by decide) (fun d hd => ?_)).weak fun S x z => ⟨z.1, ?_⟩
    · rw [List.mem_singleton.mp hd]
      simp only [plain]; exact bd1.mono (by decide)
    · obtain ⟨p, rfl⟩ := z.2
      rfl
end
end Kk12
end Lay

set_option Elab.async false
set_option linter.all false
set_option maxRecDepth 100000
set_option maxHeartbeats 4000000
/-! the pure law: what is refused: the asking -/
namespace Lay
namespace Kk12
open PySem PySem.Spec PyProof.Rows L2
open Classical
section
variable {S : Store} {Q : D → Store → Prop} {E : Ex → Store → Prop} {b c : Nat}
theorem blamed_k {v : D} {k : Nat} (h : good S k v) (hk : k ≤ 11) (kk : ∀ S', S.length ≤ S'.length → (∀ i, i < S.length → (∀ ds, v = .ref i → S[i]? ≠ some (.lst ds)) → S'[i]? = S[i]?) → Q (.bl true) S') : wpR (g__law_blamed [v, v] S) Q E := by
  have := Lay.blamed_ok (T := Tb) h hk
  rw [← same_eq] at this
  obtain ⟨S', e, h1, h2⟩ := this
  have e2 : g__law_blamed [v, v] S = .ok (.bl true) S' := e
  rw [e2]
  exact kk S' h1 h2
theorem gd_ne {k i : Nat} (h : gd b S k (.ref i)) : i ≠ b := by
  rintro rfl
  unfold gd at h
  cases k with
  | zero => simp [good] at h
  | succ k =>
    simp only [good] at h
    by_cases hl : i < S.length
    · rw [List.getElem?_set_self hl] at h
      rcases h with ⟨ds, e, _⟩ | ⟨ds, e, _⟩ <;> cases e
    · rw [List.getElem?_eq_none (by simp; omega)] at h
      rcases h with ⟨ds, e, _⟩ | ⟨ds, e, _⟩ <;> cases e
theorem gd_lst {k i : Nat} {ds : List D} (h : gd b S (k + 1) (.ref i)) (e : S[i]? = some (.lst ds)) : ds.length ≤ 400 ∧ ∀ d ∈ ds, gd b S k d := by
  have hn := gd_ne h
  unfold gd at h
  simp only [good] at h
  rw [List.getElem?_set_ne (Ne.symm hn), e] at h
  rcases h with ⟨ds', e', hl, hh⟩ | ⟨ds', e', _⟩
  · cases e'
    exact ⟨hl, hh⟩
  · cases e'
/-- y is d, or a new list as d is one -/
def CopyAt (S0 : Store) (d : D) (S : Store) (y : D) : Prop := (y = d ∧ ∀ i ds, d = .ref i → S0[i]? ≠ some (.lst ds)) ∨ ∃ i ds n, d = .ref i ∧ S0[i]? = some (.lst ds) ∧ y = .ref n ∧ S0.length < n ∧ S[n]? = some (.lst ds)
theorem copy_sys {S0 S : Store} {d y : D} (h : CopyAt S0 d S y) : isSys y = isSys d ∧ (∀ n, isRowOf n y = isRowOf n d) ∧ isToldA y = isToldA d ∧ ((∃ xs, d = .tup xs) → y = d) := by
  rcases h with ⟨rfl, _⟩ | ⟨i, ds, n, rfl, _, rfl, _⟩
  · exact ⟨rfl, fun _ => rfl, rfl, fun _ => rfl⟩
  · exact ⟨rfl, fun _ => rfl, rfl, fun ⟨xs, e⟩ => by cases e⟩
theorem copy_gd {S0 S : Store} {d y : D} {k : Nat} (h : CopyAt S0 d S y) (hb : b < S0.length) (hg : gd b S0 (k + 1) d) (f : FrB b S0 S) : gd b S (k + 1) y ∧ ∀ i ds, y = .ref i → S[i]? = some (.lst ds) → S0.length ≤ i := by
  rcases h with ⟨rfl, hn⟩ | ⟨i, ds, n, rfl, e0, rfl, hn, e⟩
  · refine ⟨hg.frb f, fun i ds hy hi => ?_⟩
    subst hy
    rcases Nat.lt_or_ge i S0.length with z | z
    · exfalso
      rw [f.2 i z (gd_ne hg)] at hi
      exact hn i ds rfl hi
    · exact z
  · obtain ⟨hl, hh⟩ := gd_lst hg e0
    exact ⟨gd.lst e (by omega) hl fun d hd => (hh d hd).frb f, fun i ds' hy hi => by cases hy; omega⟩
structure It where
  w : Str
  args : List D
  kind : Str
  pl : Nat
/-- what must be refused, and how -/
inductive OkIt (b : Nat) (S : Store) : It → Prop where
  | sys {odd row : D} (h1 : gd b S 6 odd) (h2 : gd b S 6 row) (h : isSys odd = false) : OkIt b S ⟨"holds", [odd, row], "system", 0⟩
  | row {m : Int} {x y bad : D} (h1 : gd b S 6 (.tup [.int m, x, y])) (h2 : gd b S 6 bad) (h : isSys (.tup [.int m, x, y]) = true) (h3 : isRowOf m bad = false) : OkIt b S ⟨"holds", [.tup [.int m, x, y], bad], "row", 1⟩
  | told {w : Str} {v : D} (hw : w = "tidy" ∨ w = "turn") (h1 : gd b S 6 v) (h : isToldA v = false) : OkIt b S ⟨w, [v], "no told", 0⟩
theorem OkIt.frb {S S' : Store} {it : It} (h : OkIt b S it) (f : FrB b S S') : OkIt b S' it := by
  cases h with
  | sys h1 h2 h => exact .sys (h1.frb f) (h2.frb f) h
  | row h1 h2 h h3 => exact .row (h1.frb f) (h2.frb f) h h3
  | told hw h1 h => exact .told hw (h1.frb f) h
/-- the ask, as it stands -/
def RowAt (b l : Nat) (S : Store) (y : D) (it : It) : Prop := ∃ p q, y = .ref p ∧ p ≠ b ∧ q ≠ b ∧ p ≠ l ∧ q ≠ l ∧ S[p]? = some (.lst [.str it.w, .ref q, .str it.kind, .int (it.pl : Nat)]) ∧ S[q]? = some (.lst it.args)
theorem RowAt.frb {l : Nat} {S S' : Store} {y : D} {it : It} (h : RowAt b l S y it) (f : FrB b S S') : RowAt b l S' y it := by
  obtain ⟨p, q, e, h1, h2, h3, h4, h5, h6⟩ := h
  exact ⟨p, q, e, h1, h2, h3, h4, f.at h5 h1, f.at h6 h2⟩
theorem RowAt.setl {l : Nat} {S : Store} {y : D} {it : It} {o : SO} (h : RowAt b l S y it) : RowAt b l (S.set l o) y it := by
  obtain ⟨p, q, e, h1, h2, h3, h4, h5, h6⟩ := h
  exact ⟨p, q, e, h1, h2, h3, h4, by rw [List.getElem?_set_ne (Ne.symm h3)]; exact h5, by rw [List.getElem?_set_ne (Ne.symm h4)]; exact h6⟩
/-- .. of a list that is new -/
theorem RowAt.new {l l' : Nat} {S : Store} {y : D} {it : It} (h : RowAt b l S y it) (hl : S.length ≤ l') : RowAt b l' S y it := by
  obtain ⟨p, q, e, h1, h2, h3, h4, h5, h6⟩ := h
  have := (List.getElem?_eq_some_iff.mp h5).1
  have := (List.getElem?_eq_some_iff.mp h6).1
  exact ⟨p, q, e, h1, h2, by omega, by omega, h5, h6⟩
/-- the call refuses -/
theorem refuse_k {it : It} {ys : List D} {n : Nat} {named : Bool} {S0 : Store} (hi : OkIt b S0 it) (hb : b < S0.length) (f : FrB b S0 S) (hl : ys.length = it.args.length) (hy : ∀ (j : Nat) y, ys[j]? = some y → ∃ d, it.args[j]? = some d ∧ CopyAt S0 d S y) (hn : rdL S n = some ys)
    (kk : ∀ v, ys[it.pl]? = some v → gd b S 6 v → (∀ i ds, v = .ref i → S[i]? = some (.lst ds) → S0.length ≤ i) → okS it.kind = true → it.pl < 2 → Told S Q it.kind v) : wpR (g__law_call [.str it.w, .ref n, .bl named] S) Q E := by
  cases hi with
  | sys h1 h2 h =>
    rcases ys with _ | ⟨y0, _ | ⟨y1, _ | ⟨y2, r⟩⟩⟩ <;> simp at hl
    obtain ⟨d, e, c0⟩ := hy 0 y0 rfl
    cases e
    have g0 := copy_gd c0 hb h1 f
    exact call_holds_sys hn g0.1.good (by rw [(copy_sys c0).1]; exact h) (kk y0 rfl g0.1 g0.2 oSy (by show (0 : Nat) < 2; decide))
  | row h1 h2 h h3 =>
    rcases ys with _ | ⟨y0, _ | ⟨y1, _ | ⟨y2, r⟩⟩⟩ <;> simp at hl
    obtain ⟨d, e, c0⟩ := hy 0 y0 rfl
    cases e
    obtain ⟨d, e, c1⟩ := hy 1 y1 rfl
    cases e
    have g0 := copy_gd c0 hb h1 f
    have g1 := copy_gd c1 hb h2 f
    have ey := (copy_sys c0).2.2.2 ⟨_, rfl⟩
    exact call_holds_row hn ey g0.1.good g1.1.good (by rw [(copy_sys c0).1]; exact h) (by rw [(copy_sys c1).2.1]; exact h3) (kk y1 rfl g1.1 g1.2 oRo (by show (1 : Nat) < 2; decide))
  | told hw h1 h =>
    rcases ys with _ | ⟨y0, _ | ⟨y1, r⟩⟩ <;> simp at hl
    obtain ⟨d, e, c0⟩ := hy 0 y0 rfl
    cases e
    have g0 := copy_gd c0 hb h1 f
    have z := call_tidy_bad (Q := Q) (E := E) (named := named) hn g0.1.good (by rw [(copy_sys c0).2.2.1]; exact h) (kk y0 rfl g0.1 g0.2 oNt (by show (0 : Nat) < 2; decide))
    rcases hw with rfl | rfl
    · exact z.1
    · exact z.2
theorem okit_w {S0 : Store} {it : It} (hi : OkIt b S0 it) : ∀ d ∈ it.args, gd b S0 6 d := by
  cases hi with
  | sys h1 h2 h => intro d hd; rcases (by simpa using hd) with rfl | rfl <;> assumption
  | row h1 h2 h h3 => intro d hd; rcases (by simpa using hd) with rfl | rfl <;> assumption
  | told hw h1 h => intro d hd; rw [List.mem_singleton.mp hd]; exact h1
theorem okit_len {S0 : Store} {it : It} (hi : OkIt b S0 it) : it.args.length ≤ 2 := by
  cases hi <;> simp
/-- one ask -/
theorem ask_k {it : It} {q : Nat} {sd : SD} {named : Bool} {P : Ps} (hbx : IsBox S b c) (hc : c ≤ 1000000) (hi : OkIt b S it) (hq : q ≠ b) (eq : S[q]? = some (.lst it.args)) (hl : sd.length = 20) (h1 : sd[1]? = some (some (.bl named))) (h8 : sd[8]? = some (some (.str it.w))) (h13 : sd[13]? = some (some (.ref q))) (h14 : sd[14]? = some (some (.str it.kind))) (h15 : sd[15]? = some (some (.int (it.pl : Nat))))
    (kk : ∀ sd' S', sd'.length = 20 → (∃ w, sd'[1]? = some (some (.bl w))) → Fr S S' → P.n sd' S') :
    wpS (sSeq (sSet 13 (eLc (itSeq (eVar 13)) (gNm 18) bTrue (eCall g__law_copy (aCons (eVar 18) aNil)) [18]))
      (sSeq (sSet 16 (eCall g__law_call (aCons (eVar 8) (aCons (eVar 13) (aCons (eVar 1) aNil)))))
      (sSeq (sIf (bOr (asB (eBin pNe (eBin pIx (eVar 16) (eC (.int 0))) (eVar 14))) (bNot (eTru (eCall g__law_blamed (aCons (eBin pIx (eVar 16) (eC (.int 1))) (aCons (eBin pIx (eVar 13) (eVar 15)) aNil)))))) (sRet (eC (.bl false))) sNext)
      (sSet 1 (eNot (eVar 1))))) sd S) P := by
  have hb := hbx.lt
  rw [w_seq, w_set]
  refine wp_eLc ?_
  rw [v_itSeq, wpR_var]
  refine ⟨_, h13, ?_⟩
  rw [seqQ_ref]
  refine ⟨_, rdL_lst eq, ?_⟩
  have hsix := okit_len hi
  refine lc_pred (fun j S' y => ∃ d, it.args[j]? = some d ∧ CopyAt S d S' y) (fun {j S2 S3 y} f ⟨d, e, z⟩ => ⟨d, e, ?_⟩) (fun {j S2 o y} ⟨d, e, z⟩ => ⟨d, e, ?_⟩) (fun S' f => rdL_fr f (rdL_lst eq)) (show it.args.length ≤ 100000 by omega) (fun j d hd S2 f2 l2 => ?_) (fun S1 ys f1 e1 l1 p1 => ?_)
  · rcases z with z | ⟨i, ds, n, h1, h2, h3, h4, h5⟩
    · exact .inl z
    · exact .inr ⟨i, ds, n, h1, h2, h3, h4, f.at h5⟩
  · rcases z with z | ⟨i, ds, n, h1, h2, h3, h4, h5⟩
    · exact .inl z
    · exact .inr ⟨i, ds, n, h1, h2, h3, h4, by rw [List.getElem?_set_ne (by omega)]; exact h5⟩
  · have gd0 := okit_w hi d (List.mem_of_getElem? hd)
    rw [v_call, v_cons, wpR_var]
    refine ⟨_, wipe_get (by omega), ?_⟩
    rw [v_nil]
    rcases Lay.copy_ok (T := Tb) (gd0.fr f2).good with ⟨e, hn⟩ | ⟨n, ds, rfl, e2, e⟩
    · have e' : g__law_copy [d] S2 = .ok d S2 := e
      rw [e', wpR_ok]
      refine ⟨⟨d, hd, .inl ⟨rfl, fun i ds hi' hs => ?_⟩⟩, Fr.refl⟩
      subst hi'
      exact hn i ds rfl (f2.at hs)
    · have e' : g__law_copy [.ref n] S2 = .ok (.ref S2.length) (S2 ++ [.lst ds]) := e
      rw [e', wpR_ok]
      have hnb := gd_ne gd0
      have hns : n < S.length := by
        have : ∃ o, S[n]? = some o := by
          have g := gd0
          unfold gd at g
          simp only [good] at g
          rw [List.getElem?_set_ne (Ne.symm hnb)] at g
          rcases g with ⟨_, e, _⟩ | ⟨_, e, _⟩ <;> exact ⟨_, e⟩
        obtain ⟨o, ho⟩ := this
        exact (List.getElem?_eq_some_iff.mp ho).1
      have e0 : S[n]? = some (.lst ds) := by rw [← f2 n hns]; exact e2
      exact ⟨⟨.ref n, hd, .inr ⟨n, ds, S2.length, rfl, e0, rfl, l2, last_at _ _⟩⟩, Fr.app _⟩
  dsimp only
  rw [w_seq, w_set, v_call, v_cons, wpR_var]
  refine ⟨_, by rw [List.getElem?_set_ne (by decide)]; exact h8, ?_⟩
  rw [v_cons, wpR_var]
  refine ⟨_, List.getElem?_set_self (by omega), ?_⟩
  rw [v_cons, wpR_var]
  refine ⟨_, by rw [List.getElem?_set_ne (by decide)]; exact h1, ?_⟩
  rw [v_nil]
  refine refuse_k hi hb (f1.b b) l1 p1 (rdL_lst e1) fun v hv gv fv ok pl2 => ?_
  intro p S2 hp f2 e2
  dsimp only
  rw [w_seq, w_if, v_bor, v_asB, v_bin, v_bin, wpR_var]
  refine ⟨_, List.getElem?_set_self (by rw [List.length_set]; omega), ?_⟩
  rw [wpR_c, wp_ixR]
  refine ⟨_, rdL_lst e2, _, atI_0 _ _, ?_⟩
  rw [wpR_var]
  refine ⟨_, by rw [List.getElem?_set_ne (by decide), List.getElem?_set_ne (by decide)]; exact h14, ?_⟩
  rw [wp_nes ok ok]
  refine ⟨_, rfl, ?_⟩
  simp only [decide_true, Bool.not_true, Bool.false_eq_true, if_false]
  rw [v_bnot, v_tru, v_call, v_cons, v_bin, wpR_var]
  refine ⟨_, List.getElem?_set_self (by rw [List.length_set]; omega), ?_⟩
  rw [wpR_c, wp_ixR]
  refine ⟨_, rdL_lst e2, _, atI_1 _ _ _, ?_⟩
  rw [v_cons, v_bin, wpR_var]
  refine ⟨_, by rw [List.getElem?_set_ne (by decide)]; exact List.getElem?_set_self (by omega), ?_⟩
  rw [wpR_var]
  refine ⟨_, by rw [List.getElem?_set_ne (by decide), List.getElem?_set_ne (by decide)]; exact h15, ?_⟩
  rw [wp_ixR]
  refine ⟨_, rdL_lst (f2.at e1), v, atI_of hv, ?_⟩
  rw [v_nil]
  refine blamed_k (gv.fr f2).good (by decide) fun S3 l3 h3 => ?_
  refine ⟨_, tru_bl _, ?_⟩
  simp only [Bool.not_true, Bool.false_eq_true, if_false]
  rw [w_next]
  dsimp only
  refine flip_k (v := named) (by rw [List.getElem?_set_ne (by decide), List.getElem?_set_ne (by decide)]; exact h1) ?_
  refine kk _ _ (by simp [hl]) ⟨_, List.getElem?_set_self (by simp [hl])⟩ ?_
  have f12 := f1.trans f2
  intro i hi'
  rw [h3 i (Nat.lt_of_lt_of_le hi' f12.le) fun ds hv2 hs => ?_]
  · exact f12 i hi'
  · subst hv2
    have e5 : S1[i]? = some (.lst ds) := by
      rw [← f2 i (Nat.lt_of_lt_of_le hi' f1.le)]; exact hs
    have := fv i ds rfl e5
    omega
end
end Kk12
end Lay

set_option Elab.async false
set_option linter.all false
set_option maxRecDepth 100000
set_option maxHeartbeats 4000000
/-! the pure law: what is refused -/
namespace Lay
namespace Kk12
open PySem PySem.Spec PyProof.Rows L2
open Classical
section
variable {S : Store} {Q : D → Store → Prop} {E : Ex → Store → Prop} {b c : Nat}
/-- r is hidden -/
abbrev hid (r : Nat) (S : Store) : Store := S.set r (.dlk [])
theorem hid_frb {r : Nat} {S S' : Store} (f : ∀ n, n < S.length → n ≠ b → n ≠ r → S'[n]? = S[n]?) (hl : S.length ≤ S'.length) : FrB b (hid r S) (hid r S') := ⟨by simpa using hl, fun n hn hb => by
  rw [List.length_set] at hn
  by_cases e : n = r
  · subst e
    rw [List.getElem?_set_self (by omega), List.getElem?_set_self hn]
  · rw [List.getElem?_set_ne (Ne.symm e), List.getElem?_set_ne (Ne.symm e)]
    exact f n hn hb e⟩
theorem hid_of {r : Nat} {S S' : Store} (f : FrB b S S') : FrB b (hid r S) (hid r S') := hid_frb (fun n hn hb _ => f.2 n hn hb) f.1
theorem gd_shown {r k : Nat} {d : D} (hr : r ≠ b) (h : gd b (hid r S) k d) : gd b S k d := by
  have h2 : gd r (S.set b (.dlk [])) k d := by
    show good ((S.set b (.dlk [])).set r (.dlk [])) k d
    rw [List.set_comm _ _ (Ne.symm hr)]
    exact h
  exact h2.good
theorem okit_shown {r : Nat} {it : It} (hr : r ≠ b) (h : OkIt b (hid r S) it) : OkIt b S it := by
  cases h with
  | sys h1 h2 h => exact .sys (gd_shown hr h1) (gd_shown hr h2) h
  | row h1 h2 h h3 => exact .row (gd_shown hr h1) (gd_shown hr h2) h h3
  | told hw h1 h => exact .told hw (gd_shown hr h1) h
/-- no told row, and off r -/
def NotTold (b r : Nat) : Store → D → Prop := fun S x => gd b (hid r S) 3 x ∧ isToldA x = false
theorem pm_nt {r : Nat} : PMo b (NotTold b r) := fun S S' x f h => ⟨h.1.frb (hid_of f), h.2⟩
theorem oAb : okS "ab" = true := by decide +kernel
theorem bd_small {i : Int} (h : i.natAbs < 2 ^ 7) : Bd 1000 i := Nat.lt_of_lt_of_le h (Nat.pow_le_pow_right (by decide) (by decide))
theorem values_k {r : Nat} {sd : SD} (hr : r < S.length) : GP b 0 (ILP b (NotTold b r) 16) (eLst (aCons (eTup aNil) (aCons (eTup (aCons (eC (.int 0)) aNil)) (aCons (eTup (aCons (eC (.int 0)) (aCons (eC (.int 0)) aNil))) (aCons (eLst (aCons (eC (.int 1)) (aCons (eC (.int 2)) aNil))) (aCons (eC .non) (aCons (eC (.str "ab")) (aCons (eC (.int 5)) (aCons (eTup (aCons (eC (.int 1)) (aCons (eC (.bl true)) aNil))) (aCons (eTup (aCons (eC (.int 1)) (aCons (eTup (aCons (eC (.int 1)) (aCons (eC (.int 1)) aNil))) aNil))) (aCons (eTup (aCons (eC (.int 1)) (aCons (eC .non) aNil))) (aCons (eDct [.inr ("a" : Str)] (aCons (eC (.int 1)) aNil)) (aCons (eTup (aCons (eC (.int 0)) (aCons (eC (.int 0)) (aCons (eC (.bl false)) aNil)))) (aCons (eTup (aCons (eTup (aCons (eC (.int 1)) (aCons (eC (.int 2)) aNil))) aNil)) (aCons (eLst (aCons (eC (.int 0)) aNil)) (aCons (eTup (aCons (eC (.str "1")) (aCons (eC (.int 2)) aNil))) (aCons (eTup (aCons (eC (.int 0)) (aCons (eC (.int 0)) (aCons (eC (.int 0)) (aCons (eC (.int 0)) aNil))))) aNil))))))))))))))))) sd S := by
  have gi : ∀ {i : Int} {k : Nat} {S : Store}, i.natAbs < 2 ^ 7 → gd b S k (.int i) := fun h => gd.int (bd_small h)
  have tupk : ∀ {aa : EA} {ds : List D} {sd : SD} {S0 : Store}, (∀ S1 : Store, aa sd S1 = .ok ds S1) → ds.length ≤ 400 → (∀ (S : Store), ∀ d ∈ ds, gd b S 2 d) → isToldA (.tup ds) = false → GP b 0 (NotTold b r) (eTup aa) sd S0 := fun {aa ds sd S0} haa hl hg ht S1 c f1 b1 hc => by
    rw [v_tup, haa, wpR_ok]
    exact ⟨fits_of (by omega), FrB.refl, b1, gd.tup hl (hg _), ht⟩
  have lstk : ∀ {aa : EA} {ds : List D} {sd : SD}, (∀ S1 : Store, aa sd S1 = .ok ds S1) → ds.length ≤ 400 → (∀ (S : Store), ∀ d ∈ ds, gd b S 2 d) → GP b 0 (NotTold b r) (eLst aa) sd S := fun {aa ds sd} haa hl hg S1 c f1 b1 hc => by
    rw [v_lst, haa, wpR_ok]
    have hb := b1.lt
    have hl1 := f1.1
    refine ⟨fits_of (by omega), (Fr.app _).b b, b1.app _, gd.lst (n := S1.length) ?_ (by omega) hl (hg _), rfl⟩
    rw [List.getElem?_set_ne (by omega)]
    exact last_at _ _
  have cn : ∀ {e : EE} {aa : EA} {m : Nat} {sd : SD} {S : Store}, GP b 0 (NotTold b r) e sd S → GPA b 0 (NotTold b r) m aa sd S → GPA b 0 (NotTold b r) (m + 1) (aCons e aa) sd S := fun h1 h2 => gp_cons (m := 0) (m' := 0) pm_nt h1 h2
  have nil2 : ∀ S : Store, ∀ d ∈ ([] : List D), gd b S 2 d := fun S d hd => by simp at hd
  have c2 : ∀ {x : D} {l : List D}, (∀ S, gd b S 2 x) → (∀ S : Store, ∀ d ∈ l, gd b S 2 d) → ∀ S : Store, ∀ d ∈ x :: l, gd b S 2 d := fun hx hl S d hd => by
    rcases List.mem_cons.mp hd with rfl | hd
    · exact hx S
    · exact hl S d hd
  refine gq_lst pm_nt (cn (tupk (ds := []) (fun _ => rfl) (by decide) nil2 rfl) (cn (tupk (ds := [.int 0]) (fun _ => rfl) (by decide) (c2 (fun S => gi (by decide)) nil2) rfl) (cn (tupk (ds := [.int 0, .int 0]) (fun _ => rfl) (by decide) (c2 (fun S => gi (by decide)) (c2 (fun S => gi (by decide)) nil2)) rfl) (cn (lstk (ds := [.int 1, .int 2]) (fun _ => rfl) (by decide) (c2 (fun S => gi (by decide)) (c2 (fun S => gi (by decide)) nil2))) (cn (gp_c fun S => ⟨gd.non, rfl⟩) (cn (gp_c fun S => ⟨gd.str oAb, rfl⟩) (cn (gp_c fun S => ⟨gi (by decide), rfl⟩) (cn (tupk (ds := [.int 1, .bl true]) (fun _ => rfl) (by decide) (c2 (fun S => gi (by decide)) (c2 (fun S => gd.bl _) nil2)) rfl) (cn (tupk (ds := [.int 1, .tup [.int 1, .int 1]]) (fun _ => rfl) (by decide) (c2 (fun S => gi (by decide)) (c2 (fun S => ?_) nil2)) rfl) (cn (tupk (ds := [.int 1, .non]) (fun _ => rfl) (by decide) (c2 (fun S => gi (by decide)) (c2 (fun S => gd.non) nil2)) rfl) (cn ?_ (cn (tupk (ds := [.int 0, .int 0, .bl false]) (fun _ => rfl) (by decide) (c2 (fun S => gi (by decide)) (c2 (fun S => gi (by decide)) (c2 (fun S => gd.bl _) nil2))) rfl) (cn (tupk (ds := [.tup [.int 1, .int 2]]) (fun _ => rfl) (by decide) (c2 (fun S => ?_) nil2) rfl) (cn (lstk (ds := [.int 0]) (fun _ => rfl) (by decide) (c2 (fun S => gi (by decide)) nil2)) (cn (tupk (ds := [.str "1", .int 2]) (fun _ => rfl) (by decide) (c2 (fun S => gd.str okS1) (c2 (fun S => gi (by decide)) nil2)) rfl) (cn (tupk (ds := [.int 0, .int 0, .int 0, .int 0]) (fun _ => rfl) (by decide) (c2 (fun S => gi (by decide)) (c2 (fun S => gi (by decide)) (c2 (fun S => gi (by decide)) (c2 (fun S => gi (by decide)) nil2)))) rfl) gp_nil))))))))))))))))
  · refine gd.tup (by simp) fun d hd => ?_
    rcases (by simpa using hd : d = .int 1) with rfl
    exact gi (by decide)
  · intro S1 c f1 b1 hc
    have hb := b1.lt
    have hl1 := f1.1
    have e : (S1 ++ [SO.dct []])[S1.length]? = some (.dct []) := last_at _ _
    have e2 : (S1 ++ [SO.dct []]).set S1.length (.dct [((.inr ("a" : Str) : Key), D.int 1)]) = S1 ++ [SO.dct [((.inr ("a" : Str) : Key), D.int 1)]] := by
      rw [List.set_append_right _ _ (Nat.le_refl _)]; simp
    show wpR (eDct [.inr ("a" : Str)] (aCons (eC (.int 1)) aNil) sd S1) _ _
    have e3 : eDct [.inr ("a" : Str)] (aCons (eC (.int 1)) aNil) sd S1 = .ok (.ref S1.length) (S1 ++ [SO.dct [((.inr ("a" : Str) : Key), D.int 1)]]) := by
      unfold eDct
      rw [show (aCons (eC (.int 1)) aNil) sd (S1 ++ [SO.dct []]) = .ok [.int 1] (S1 ++ [SO.dct []]) from rfl]
      dsimp only
      simp [e]
    rw [e3, wpR_ok]
    refine ⟨(Fr.app _).b b, b1.app _, gd.dct (n := S1.length) (kvs := [((.inr ("a" : Str) : Key), D.int 1)]) ?_ (by omega) (by simp) (by simp) (fun p hp => ?_), rfl⟩
    · rw [List.getElem?_set_ne (by omega)]
      exact last_at _ _
    · rw [List.mem_singleton.mp hp]
      simp only [plain]
      exact bd1.mono (by decide)
  · refine gd.tup (by simp) fun d hd => ?_
    rcases (by simpa using hd : d = .int 1 ∨ d = .int 2) with rfl | rfl <;> exact gi (by decide)
theorem gtup4 {i j k l n : Nat} {x y z u : D} {sd : SD} {S : Store} (h : rdL S n = some [x, y, z, u]) : gTupD 4 (gsCons (gNm i) (gsCons (gNm j) (gsCons (gNm k) (gsCons (gNm l) gsNil)))) (.ref n) sd S = some ((((sd.set i (some x)).set j (some y)).set k (some z)).set l (some u), S) := by
  unfold gTupD
  dsimp only
  rw [h]
  rfl
/-- the rows of asks -/
def Asks (b r : Nat) (S : Store) (n : Nat) : Prop := ∃ ys, S[r]? = some (.lst ys) ∧ ys.length ≤ n ∧ ∀ y ∈ ys, ∃ it, RowAt b r S y it ∧ OkIt b (hid r S) it
theorem Asks.frb {r n : Nat} {S S' : Store} (h : Asks b r S n) (f : FrB b S S') (hr : r ≠ b) : Asks b r S' n := by
  obtain ⟨ys, e, l, h⟩ := h
  exact ⟨ys, f.at e hr, l, fun y hy => by
    obtain ⟨it, h1, h2⟩ := h y hy
    exact ⟨it, h1.frb f, h2.frb (hid_of f)⟩⟩
/-- one more -/
theorem add_ask {r n : Nat} {sd : SD} {w : Str} {vs : D} (hbx : IsBox S b c) (hc : c + 1 ≤ 1000000) (hr : r ≠ b) (h0 : sd[0]? = some (some (.ref b))) (h6 : sd[6]? = some (some (.ref r))) (h7 : sd[7]? = some (some vs)) (h8 : sd[8]? = some (some (.str w))) (hw : w = "tidy" ∨ w = "turn") (hv : ILP b (NotTold b r) 16 S vs) (ha : Asks b r S n) (hn : n ≤ 15)
    (kk : ∀ S', Asks b r S' (n + 1) → ILP b (NotTold b r) 16 S' vs → IsBox S' b (c + 1) → (∀ i, i < S.length → i ≠ b → i ≠ r → S'[i]? = S[i]?) → S.length ≤ S'.length → Q .non S') :
    wpR (eMthL pAppend (eVar 6) (aCons (eLst (aCons (eVar 8) (aCons (eLst (aCons (eBin pIx (eVar 7) (eCall g__law_take (aCons (eVar 0) (aCons (eC (.int 16)) aNil)))) aNil)) (aCons (eC (.str "no told")) (aCons (eC (.int 0)) aNil))))) aNil) sd S) Q E := by
  obtain ⟨ys, er, ly, hy⟩ := ha
  have hb := hbx.lt
  have hrl := (List.getElem?_eq_some_iff.mp er).1
  rw [v_mthL, wpR_var]
  refine ⟨_, h6, by rw [isL_ref, rdL_lst er]; rfl, ?_⟩
  rw [v_cons, v_lst, v_cons, wpR_var]
  refine ⟨_, h8, ?_⟩
  rw [v_cons, v_lst, v_cons]
  refine GP.use (b := b) (m := 1) (P := NotTold b r) (gq_ix (n := 16) (m := 0) (m' := 1) pm_nt (gp_var h7 (pm_lp pm_nt) hv) (gn_take (n := 16) htk h0 rfl)) hbx fun x S1 hx b1 f1 => ?_
  rw [v_nil]
  refine ⟨fits_of (by simp), ?_⟩
  rw [v_cons, wpR_c, v_cons, wpR_c, v_nil]
  refine ⟨fits_of (by simp), ?_⟩
  rw [v_nil]
  have l1 := f1.1
  generalize hS2 : S1 ++ [SO.lst [x]] = S2
  have a2 : S2[S1.length]? = some (.lst [x]) := by rw [← hS2]; exact last_at _ _
  have f2 : Fr S1 S2 := by rw [← hS2]; exact Fr.app _
  have l2 : S2.length = S1.length + 1 := by rw [← hS2]; simp
  generalize hS3 : S2 ++ [SO.lst [D.str w, D.ref S1.length, D.str "no told", D.int 0]] = S3
  have a3 : S3[S2.length]? = some (.lst [D.str w, D.ref S1.length, D.str "no told", D.int 0]) := by rw [← hS3]; exact last_at _ _
  have f3 : Fr S2 S3 := by rw [← hS3]; exact Fr.app _
  have l3 : S3.length = S2.length + 1 := by rw [← hS3]; simp
  have f13 : FrB b S1 S3 := (f2.trans f3).b b
  have f03 : FrB b S S3 := f1.trans f13
  have er3 := f03.at er hr
  have hrl3 := (List.getElem?_eq_some_iff.mp er3).1
  rw [wp_append er3 (by omega)]
  have fset : ∀ (i : Nat), i < S.length → i ≠ b → i ≠ r → (S3.set r (.lst (ys ++ [.ref S2.length])))[i]? = S[i]? := fun i hi hib hir => by
    rw [List.getElem?_set_ne (Ne.symm hir)]
    exact f03.2 i hi hib
  have hh : FrB b (hid r S) (hid r (S3.set r (.lst (ys ++ [.ref S2.length])))) := hid_frb fset (by simpa using f03.1)
  have hh1 : FrB b (hid r S1) (hid r (S3.set r (.lst (ys ++ [.ref S2.length])))) := hid_frb (fun i hi hib hir => by
    rw [List.getElem?_set_ne (Ne.symm hir)]
    exact f13.2 i hi hib) (by simpa using f13.1)
  refine kk _ ⟨ys ++ [.ref S2.length], by rw [List.getElem?_set_self hrl3], by simp; omega, fun y hy' => ?_⟩ ?_ (IsBox.setNe ((b1.fr f2).fr f3) hr) fset (by simpa using f03.1)
  · rcases List.mem_append.mp hy' with z | z
    · obtain ⟨it, h1, h2⟩ := hy y z
      exact ⟨it, (h1.frb f03).setl, h2.frb hh⟩
    · rw [List.mem_singleton.mp z]
      refine ⟨⟨w, [x], "no told", 0⟩, ⟨S2.length, S1.length, rfl, by omega, by omega, by omega, by omega, ?_, ?_⟩, .told hw ((hx.1.frb hh1).mono (by decide)) hx.2⟩
      · rw [List.getElem?_set_ne (by omega)]; exact a3
      · rw [List.getElem?_set_ne (by omega)]; exact f3.at a2
  · obtain ⟨p, ds, e, hp, e1, l, h⟩ := hv
    have hpr : p ≠ r := by
      rintro rfl
      rw [er] at e1
      cases e1
      omega
    exact ⟨p, ds, e, hp, by rw [List.getElem?_set_ne (Ne.symm hpr)]; exact f03.at e1 hp, l, fun d hd => ⟨(h d hd).1.frb hh, (h d hd).2⟩⟩
theorem refused_right_k {v : Bool} (h : IsBox S b c) (k : ∀ S', IsBox S' b (c + 500) → FrB b S S' → Q (.bl true) S') (hc : c ≤ 600000 := by omega) : wpR (g__law_refused_right [.ref b, .bl v] S) Q E := by
  refine wp_fn rfl ?_
  -- the numbers
  rw [w_seq, w_set, v_call, v_cons, wpR_var]
  refine ⟨_, rfl, ?_⟩
  rw [v_cons, v_bin, wpR_c]
  refine tkE htk rfl h fun t S1 ht b1 f1 => ?_
  rw [wp_add, v_nil]
  obtain ⟨n, hn⟩ : ∃ n : Nat, 1 + (t : Int) = n := ⟨t + 1, by omega⟩
  refine tops_k hn b1 (by omega) fun qs S2 lq hq b2 f2 => ?_
  have n0 : 0 < n := by omega
  have n3 : n ≤ 3 := by omega
  replace b2 := b2.mono (d := c + 20) (by omega)
  have hq60 : LowL 60 60 qs := hq.mono (by decide) (by decide)
  have hq900 : LowL 900 900 qs := hq.mono (by decide) (by decide)
  dsimp only
  -- the system, the place
  rw [w_seq, w_par, v_cons, v_call, v_cons, wpR_var]
  refine ⟨_, rfl, ?_⟩
  rw [v_cons, wpR_var]
  refine ⟨_, rfl, ?_⟩
  rw [v_nil]
  refine drawn_k b2 hq (by omega) fun A B S3 hA hB lA lB b3 f3 => ?_
  rw [lq] at hA hB
  have esys : sysD qs.length A B = sysD n A B := by rw [lq]
  rw [esys, v_cons]
  refine tkLen htk (n := n) rfl rfl (by rw [len_tup, List.length_map, lq]) b3 fun at_ S4 hat b4 f4 => ?_
  rw [v_nil, two_of]
  dsimp only
  have strue := sys_true (n := n) (by omega) hA hB (by omega) (by omega)
  have sgood : ∀ {S : Store}, gd b S 6 (sysD n A B) := sys_good (k := 3) (by omega) hA hB (by omega) (by omega)
  obtain ⟨q, eq⟩ : ∃ q, qs[at_]? = some q := ⟨qs[at_]'(by omega), List.getElem?_eq_getElem (by omega)⟩
  have lowq := hq q (List.mem_of_getElem? eq)
  -- the number there
  rw [w_seq, w_asg, v_bin, wpR_var]
  refine ⟨_, rfl, ?_⟩
  rw [wpR_var]
  refine ⟨_, rfl, ?_⟩
  rw [wp_ixT]
  refine ⟨nD q, atI_of (by rw [List.getElem?_map, eq]; rfl), ?_⟩
  rw [nD, wp_gtup2]
  dsimp only
  -- ways
  rw [w_seq, w_set]
  refine GP.use (b := b) (m := 0) (P := ILP b (NotNum b) 9) (ways_k (t := q.1) (u := q.2) rfl rfl (Low.mono (p := (q.1, q.2)) lowq (by decide) (by decide))) b4 fun ws S5 hws b5 f5 => ?_
  dsimp only
  -- a bad row
  rw [w_seq, w_set, v_bin, v_bin, v_sl, wpR_var]
  refine ⟨_, rfl, ?_⟩
  rw [v_onone, v_osome, wpR_var]
  refine ⟨_, rfl, at_, rfl, ?_⟩
  rw [wp_slT, v_tup, v_cons]
  refine GP.use (b := b) (m := 1) (P := NotNum b) (gq_ix (n := 9) (m := 0) (m' := 1) pm_nn (gp_var rfl (pm_lp pm_nn) hws) (gn_take (n := 9) htk rfl rfl)) b5 fun x S6 hx b6 f6 => ?_
  rw [v_nil]
  refine ⟨fits_of (by simp), ?_⟩
  have lcut : ∀ lo hi, (cutD (qs.map nD) lo hi).length ≤ 3 := fun lo hi => Nat.le_trans cut_len (by simp; omega)
  have lc1 := lcut none (some (at_ : Int))
  rw [wp_addT (by simp; omega), v_sl, wpR_var]
  refine ⟨_, rfl, ?_⟩
  rw [v_osome, v_bin, wpR_var]
  refine ⟨_, rfl, ?_⟩
  rw [wpR_c, wp_add]
  refine ⟨_, rfl, ?_⟩
  rw [v_onone, wp_slT]
  have lc2 := lcut (some ((at_ : Int) + 1)) none
  rw [wp_addT (by simp; omega)]
  dsimp only
  generalize hbad : D.tup (cutD (qs.map nD) none (some (at_ : Int)) ++ [x] ++ cutD (qs.map nD) (some ((at_ : Int) + 1)) none) = bad
  have gq : ∀ {k : Nat} {S : Store}, ∀ d ∈ qs.map nD, gd b S (k + 1) d := fun {k S} d hd => by
    obtain ⟨q, hq', rfl⟩ := List.mem_map.mp hd
    have := hq900 q hq'
    refine gd.tup (by simp) fun d hd => ?_
    rcases (by simpa using hd : d = .int q.1 ∨ d = .int q.2) with rfl | rfl
    · exact gd.int (this.top.mono (by decide))
    · exact gd.int (this.base.mono (by decide))
  have nrbad : NotRow b n S6 bad := by
    rw [← hbad]
    refine ⟨gd.tup (by simp; omega) fun d hd => ?_, isN_row (d := x) (by simp) hx.2⟩
    rcases List.mem_append.mp hd with hd | hd
    · rcases List.mem_append.mp hd with hd | hd
      · exact gq d (mem_cut hd)
      · rw [List.mem_singleton.mp hd]; exact hx.1.mono (by decide)
    · exact gq d (mem_cut hd)
  -- the bad one
  rw [w_seq, w_set]
  refine GP.use (b := b) (m := 1) (P := NotRow b n) (gq_ix (n := 8) (m := 0) (m' := 1) pm_nr (bads_k (n := n) lq n0 (by omega) hq900 rfl rfl nrbad) (gn_take (n := 8) htk rfl rfl)) b6 fun bd S7 hbd b7 f7 => ?_
  dsimp only
  have F7 := f1.trans (f2.trans (f3.trans (f4.trans (f5.trans (f6.trans f7)))))
  replace b7 : IsBox S7 b (c + 180) := b7.mono (by omega)
  -- what is no system
  rw [w_seq, w_set]
  refine wp_eLc ?_
  have spv : ∀ {sd : SD} {S : Store}, sd[0]? = some (some (.ref b)) → sd[9]? = some (some (sysD n A B)) → GP b 110 (IG b 6) (eCall g__law_spoilt (aCons (eVar 0) (aCons (eVar 9) aNil))) sd S := fun {sd S} h0 h9 => gp_of fun S1 c' f1 b1 hc' QQ kk => by
    rw [v_call, v_cons, wpR_var]
    refine ⟨_, h0, ?_⟩
    rw [v_cons, wpR_var]
    refine ⟨_, h9, ?_⟩
    rw [v_nil]
    exact spoilt_k b1 (by omega) hA hB (by omega) (by omega) kk hc'
  have anv : ∀ {sd : SD} {S : Store}, sd[0]? = some (some (.ref b)) → GP b 1 (IG b 6) (eCall g__law_any (aCons (eVar 0) aNil)) sd S := fun {sd S} h0 => gp_of fun S1 c' f1 b1 hc' QQ kk => by
    rw [v_call, v_cons, wpR_var]
    refine ⟨_, h0, ?_⟩
    rw [v_nil]
    exact any_k b1 (fun x S2 hx b2 f2 => kk x S2 (hx.mono (by decide)) b2 f2) hc'
  rw [v_itSeq]
  refine GP.use (b := b) (m := 221) (P := ILn b 6 4) (gln_lst (ga_c (m := 1) (m' := 220) (anv rfl) (ga_c (m := 110) (m' := 110) (spv rfl rfl) (ga_c (m := 110) (m' := 0) (spv rfl rfl) (ga_c (m := 0) (m' := 0) (gp_lst (k := 5) (ga_c (gp_str oSy) gp_nil)) gp_nil))))) b7 fun vs S8 hvs b8 f8 => ?_
  obtain ⟨p8, vals, rfl, hp8, ep8, lv, gv⟩ := hvs
  rw [seqQ_ref]
  refine ⟨_, rdL_lst ep8, ?_⟩
  refine lc_at (vals := vals) (fun d => !isSys d) (fun d => d) (by omega) (fun S' f => rdL_fr f (rdL_lst ep8)) (fun d hd S9 f9 => ?_) (fun S9 f9 e9 => ?_)
  · rw [v_bnot, v_tru, v_call, v_cons, wpR_var]
    refine ⟨_, wipe_get (by simp [startD, N__law_refused_right]), ?_⟩
    rw [v_nil]
    refine lsystem_k ((gv d hd).fr f9).good fun S10 f10 => ?_
    refine ⟨_, tru_bl _, rfl, f10, fun _ => ?_⟩
    rw [wpR_var]
    exact ⟨_, wipe_get (by simp [startD, N__law_refused_right]), rfl, Fr.refl⟩
  rw [List.map_id'] at e9
  dsimp only
  have b9 := b8.fr f9
  have F9 := F7.trans (f8.trans (f9.b b))
  have godd : ∀ d ∈ vals.filter (fun d => !isSys d), gd b S9 6 d ∧ isSys d = false := fun d hd => by
    obtain ⟨h1, h2⟩ := List.mem_filter.mp hd
    exact ⟨(gv d h1).fr f9, by simpa using h2⟩
  have lodd : (vals.filter (fun d => !isSys d)).length ≤ 4 := by rw [← lv]; exact List.length_filter_le _ _
  generalize vals.filter (fun d => !isSys d) = odds at e9 godd lodd
  have hb8 : b < S8.length := b8.lt
  have gbd : gd b S9 6 bd := (hbd.1.frb (f8.trans (f9.b b))).mono (by decide)
  -- the rows
  have hold : ∀ (v : Nat) (r : D) (sd : SD) (S0 : Store) (QQ : D → Store → Prop), sd[5]? = some (some (.ref S8.length)) → sd[v]? = some (some r) → v ≠ 19 → 19 < sd.length → IsBox S0 b (c + 180 + 221) → FrB b S9 S0 → gd b S9 6 r →
      (∀ p S', FrB b S0 S' → IsBox S' b (c + 180 + 221) → S0.length ≤ p → (∃ ys, S'[p]? = some (.lst ys) ∧ ys.length = odds.length ∧ ∀ y ∈ ys, ∃ it, RowAt b p S' y it ∧ OkIt b S9 it) → QQ (.ref p) S') →
      wpR (lockE 5 (eLc (itSeqK (eVar 5)) (gNm 19) bTrue (eLst (aCons (eC (.str "holds")) (aCons (eLst (aCons (eVar 19) (aCons (eVar v) aNil))) (aCons (eC (.str "system")) (aCons (eC (.int 0)) aNil))))) [19]) sd S0) QQ E := by
    intro v r sd S0 QQ h5 hv hv19 hsl b0 f0 gr kk
    have e0 : rdL S0 S8.length = some odds := rdL_lst (f0.at e9 (by omega))
    refine lock_lst h5 e0 (wp_eLc (it_lst h5 e0 ?_))
    have hb0 := b0.lt
    refine lc_finL (b := b) (c := c + 180 + 221) (m := 0) (fun j S' y => ∃ d, odds[j]? = some d ∧ RowAt b S0.length S' y ⟨"holds", [d, r], "system", 0⟩) (fun f ⟨d, e, z⟩ => ⟨d, e, z.frb f⟩) (fun ⟨d, e, z⟩ => ⟨d, e, z.setl⟩) b0 (fun S' f => rdL_frb f e0 (by omega)) (show odds.length ≤ 100000 by omega) (fun j d hd S10 f10 hlt b10 => ?_) (fun S10 ys f10 b10 e10 l10 p10 => ?_)
    · rw [v_lst, v_cons, wpR_c, v_cons, v_lst, v_cons, wpR_var]
      refine ⟨_, wipe_get hsl, ?_⟩
      rw [v_cons, wpR_var]
      refine ⟨_, (wipe_ne hv19).trans hv, ?_⟩
      rw [v_nil]
      refine ⟨fits_of (by simp), ?_⟩
      rw [v_cons, wpR_c, v_cons, wpR_c, v_nil]
      refine ⟨fits_of (by simp), ?_⟩
      have hl10 := f10.1
      have hb10 := b10.lt
      generalize hS11 : S10 ++ [SO.lst [d, r]] = S11
      have a11 : S11[S10.length]? = some (.lst [d, r]) := by rw [← hS11]; exact last_at _ _
      have f11 : Fr S10 S11 := by rw [← hS11]; exact Fr.app _
      have l11 : S11.length = S10.length + 1 := by rw [← hS11]; simp
      refine ⟨⟨d, hd, S11.length, S10.length, rfl, by omega, by omega, by omega, by omega, last_at _ _, (Fr.app _).at a11⟩, (b10.fr f11).app _, (f11.trans (Fr.app _)).b b⟩
    · refine kk _ _ f10 (b10.mono (by omega)) (Nat.le_refl _) ⟨ys, e10, l10, fun y hy => ?_⟩
      obtain ⟨j, hj⟩ := List.mem_iff_getElem?.mp hy
      obtain ⟨d, hd, z⟩ := p10 j y hj
      have := godd d (List.mem_of_getElem? hd)
      exact ⟨_, z, .sys this.1 gr this.2⟩
  rw [w_seq, w_set, v_bin, v_bin]
  refine hold 4 bd _ S9 _ rfl rfl (by decide) (by simp [startD, N__law_refused_right]) (b9.mono (by omega)) FrB.refl gbd fun p1 S10 f10 b10 hp1 ⟨ys1, e1, l1, h1⟩ => ?_
  refine hold 2 (.tup (qs.map nD)) _ S10 _ rfl rfl (by decide) (by simp [startD, N__law_refused_right]) b10 f10 (nums_good (k := 4) hq900 (by omega)) fun p2 S11 f11 b11 hp2 ⟨ys2, e2, l2, h2⟩ => ?_
  have hb9 : b < S9.length := b9.lt
  have l910 := f10.1
  have l1011 := f11.1
  have n1 := (List.getElem?_eq_some_iff.mp e1).1
  have n2 := (List.getElem?_eq_some_iff.mp e2).1
  have e1' := f11.at e1 (by omega)
  rw [wp_addL e1' e2 (by omega), v_lst, v_cons, v_lst, v_cons, wpR_c, v_cons, v_lst, v_cons, wpR_var]
  refine ⟨_, rfl, ?_⟩
  rw [v_cons, wpR_var]
  refine ⟨_, rfl, ?_⟩
  rw [v_nil]
  refine ⟨fits_of (by simp), ?_⟩
  rw [v_cons, wpR_c, v_cons, wpR_c, v_nil]
  refine ⟨fits_of (by simp), ?_⟩
  rw [v_nil]
  refine ⟨fits_of (by simp), ?_⟩
  generalize hS12 : S11 ++ [SO.lst (ys1 ++ ys2)] = S12
  have a12 : S12[S11.length]? = some (.lst (ys1 ++ ys2)) := by rw [← hS12]; exact last_at _ _
  have f12 : Fr S11 S12 := by rw [← hS12]; exact Fr.app _
  have l12 : S12.length = S11.length + 1 := by rw [← hS12]; simp
  generalize hS13 : S12 ++ [SO.lst [sysD n A B, bd]] = S13
  have a13 : S13[S12.length]? = some (.lst [sysD n A B, bd]) := by rw [← hS13]; exact last_at _ _
  have f13 : Fr S12 S13 := by rw [← hS13]; exact Fr.app _
  have l13 : S13.length = S12.length + 1 := by rw [← hS13]; simp
  generalize hS14 : S13 ++ [SO.lst [D.str "holds", D.ref S12.length, D.str "row", D.int 1]] = S14
  have a14 : S14[S13.length]? = some (.lst [D.str "holds", D.ref S12.length, D.str "row", D.int 1]) := by rw [← hS14]; exact last_at _ _
  have f14 : Fr S13 S14 := by rw [← hS14]; exact Fr.app _
  have l14 : S14.length = S13.length + 1 := by rw [← hS14]; simp
  generalize hS15 : S14 ++ [SO.lst [D.ref S13.length]] = S15
  have a15 : S15[S14.length]? = some (.lst [D.ref S13.length]) := by rw [← hS15]; exact last_at _ _
  have f15 : Fr S14 S15 := by rw [← hS15]; exact Fr.app _
  have l15 : S15.length = S14.length + 1 := by rw [← hS15]; simp
  have a12' := (f13.trans (f14.trans f15)).at a12
  rw [wp_addL a12' a15 (by simp; omega)]
  dsimp only
  have f16 : Fr S15 (S15 ++ [SO.lst (ys1 ++ ys2 ++ [D.ref S13.length])]) := Fr.app _
  have a16 : (S15 ++ [SO.lst (ys1 ++ ys2 ++ [D.ref S13.length])])[S15.length]? = some (.lst (ys1 ++ ys2 ++ [D.ref S13.length])) := last_at _ _
  have l16 : (S15 ++ [SO.lst (ys1 ++ ys2 ++ [D.ref S13.length])]).length = S15.length + 1 := by simp
  have hid16 : FrB b S15 (hid S15.length (S15 ++ [SO.lst (ys1 ++ ys2 ++ [D.ref S13.length])])) := by
    unfold hid
    rw [List.set_append_right _ _ (Nat.le_refl _)]
    simp
    exact (Fr.app _).b b
  generalize S15 ++ [SO.lst (ys1 ++ ys2 ++ [D.ref S13.length])] = S16 at f16 a16 l16 hid16
  generalize hr : S15.length = r at a16 hid16
  have hrb : r ≠ b := by omega
  have F1116 := (f12.trans (f13.trans (f14.trans (f15.trans f16)))).b b
  have F1016 := f11.trans F1116
  have F916 := f10.trans F1016
  have F915 : FrB b S9 S15 := f10.trans (f11.trans ((f12.trans (f13.trans (f14.trans f15))).b b))
  have asks16 : Asks b r S16 9 := by
    refine ⟨_, a16, by simp; omega, fun y hy => ?_⟩
    rcases List.mem_append.mp hy with hy | hy
    · rcases List.mem_append.mp hy with hy | hy
      · obtain ⟨it, g1, g2⟩ := h1 y hy
        exact ⟨it, (g1.new (l' := r) (by omega)).frb F1016, (g2.frb F915).frb hid16⟩
      · obtain ⟨it, g1, g2⟩ := h2 y hy
        exact ⟨it, (g1.new (l' := r) (by omega)).frb F1116, (g2.frb F915).frb hid16⟩
    · rw [List.mem_singleton.mp hy]
      exact ⟨⟨"holds", [sysD n A B, bd], "row", 1⟩, ⟨S13.length, S12.length, rfl, by omega, by omega, by omega, by omega, (f15.trans f16).at a14, (f14.trans (f15.trans f16)).at a13⟩, .row sgood ((gbd.frb F915).frb hid16) strue hbd.2⟩
  have b16 : IsBox S16 b (c + 401) := ((((b11.fr f12).fr f13).fr f14).fr f15).fr f16
  have F16 := F9.trans F916
  -- the values
  rw [w_seq, w_set]
  refine GP.use (b := b) (m := 0) (P := ILP b (NotTold b r) 16) (values_k (r := r) (by omega)) b16 fun vs S17 hvs b17 f17 => ?_
  have asks17 := asks16.frb f17 hrb
  have F17 := F16.trans f17
  have hr17 : r < S17.length := by have := f17.1; omega
  dsimp only
  refine w_mid (fun sd S' => sd.length = 20 ∧ sd[6]? = some (some (.ref r)) ∧ (∃ w, sd[1]? = some (some (.bl w))) ∧ Asks b r S' 13 ∧ IsBox S' b (c + 405) ∧ FrB b S S') ?_ ?_
  · rw [w_for, v_itSeq, v_lst, v_cons, wpR_c, v_cons, wpR_c, v_nil]
    refine ⟨fits_of (by simp), ?_⟩
    have e18 : (S17 ++ [SO.lst [D.str "tidy", D.str "turn"]])[S17.length]? = _ := last_at _ _
    rw [seqQ_ref]
    refine ⟨_, rdL_lst e18, ?_⟩
    have f18 : Fr S17 (S17 ++ [SO.lst [D.str "tidy", D.str "turn"]]) := Fr.app _
    have l18 : (S17 ++ [SO.lst [D.str "tidy", D.str "turn"]]).length = S17.length + 1 := by simp
    generalize S17 ++ [SO.lst [D.str "tidy", D.str "turn"]] = S18 at e18 f18 l18
    refine wp_for (fun i sd S' => ∃ x8, sd = [some (.ref b), some (.bl v), some (.tup (qs.map nD)), some ws, some bd, some (.ref S8.length), some (.ref r), some vs, x8, some (sysD n A B), some (.int at_), some (.int q.1), some (.int q.2), none, none, none, none, none, none, none] ∧ Asks b r S' (9 + 2 * i) ∧ ILP b (NotTold b r) 16 S' vs ∧ IsBox S' b (c + 401 + 2 * i) ∧ (∀ j, j < S18.length → j ≠ b → j ≠ r → S'[j]? = S18[j]?) ∧ S18.length ≤ S'.length) _ 0 _ _ ⟨none, rfl, asks17.frb (f18.b b) hrb, pm_lp pm_nt _ _ _ (f18.b b) hvs, b17.fr f18, fun _ _ _ _ => rfl, Nat.le_refl _⟩ ?_ ?_
    · rintro i d sd S19 hi ⟨x8, rfl, as, iv, b19, hs, l19⟩
      rw [Nat.zero_add] at *
      have e19 : S19[S17.length]? = some (.lst [D.str "tidy", D.str "turn"]) := by rw [hs _ (by omega) (by omega) (by omega)]; exact e18
      refine ⟨rdL_lst e19, ?_⟩
      obtain ⟨w, rfl, hw, hi2⟩ : ∃ w : Str, d = .str w ∧ (w = "tidy" ∨ w = "turn") ∧ i < 2 := by
        rcases i with _ | _ | i
        · simp at hi; exact ⟨_, hi.symm, .inl rfl, by omega⟩
        · simp at hi; exact ⟨_, hi.symm, .inr rfl, by omega⟩
        · simp at hi
      refine ⟨_, rfl, ?_⟩
      dsimp only
      rw [w_seq, w_expr]
      refine add_ask (w := w) (vs := vs) b19 (by omega) hrb rfl rfl rfl rfl hw iv as (by omega) fun S20 as2 iv2 b20 hs2 l20 => ?_
      dsimp only
      rw [w_expr]
      refine add_ask (w := w) (vs := vs) b20 (by omega) hrb rfl rfl rfl rfl hw iv2 as2 (by omega) fun S21 as3 iv3 b21 hs3 l21 => ?_
      refine ⟨some (.str w), rfl, as3, iv3, b21.mono (by omega), fun j hj hjb hjr => ?_, by omega⟩
      rw [hs3 j (by omega) hjb hjr, hs2 j (by omega) hjb hjr, hs j hj hjb hjr]
    · rintro sd S19 ⟨x8, rfl, as, iv, b19, hs, l19⟩
      have e19 : S19[S17.length]? = some (.lst [D.str "tidy", D.str "turn"]) := by rw [hs _ (by omega) (by omega) (by omega)]; exact e18
      refine ⟨rdL_lst e19, rfl, rfl, ⟨v, rfl⟩, as, b19, ?_⟩
      have hSr : S.length ≤ r := by
        have := F9.1
        omega
      refine ⟨by have := F17.1; have := f18.le; omega, fun j hj hjb => ?_⟩
      rw [hs j (by have := F17.1; have := f18.le; omega) hjb (by omega), f18 j (by have := F17.1; omega)]
      exact F17.2 j hj hjb
  rintro sd S18 ⟨lsd, s6, ⟨w, s1⟩, ⟨ys, er, ly, hy⟩, b18, F18⟩
  -- the asking
  refine w_mid (fun sd S' => Fr S18 S') ?_ ?_
  · rw [w_for]
    refine it_lst s6 (rdL_lst er) ?_
    refine wp_for (fun i sd S' => sd.length = 20 ∧ (∃ w, sd[1]? = some (some (.bl w))) ∧ Fr S18 S') _ 0 _ _ ⟨lsd, ⟨w, s1⟩, Fr.refl⟩ ?_ ?_
    · rintro i d sd S19 hi ⟨lsd, ⟨w, s1⟩, f19⟩
      refine ⟨rdL_fr f19 (rdL_lst er), ?_⟩
      obtain ⟨it, ⟨p, q', rfl, hp, hq', hpr, hqr, e1, e2⟩, ok⟩ := hy d (List.mem_of_getElem? hi)
      refine ⟨_, gtup4 (rdL_lst (f19.at e1)), ?_⟩
      dsimp only
      refine ask_k (b := b) (c := c + 405) (it := it) (named := w) (b18.fr f19) (by omega) ((okit_shown hrb ok).frb (f19.b b)) hq' (f19.at e2) (by simp [lsd]) ?_ ?_ ?_ ?_ ?_ fun sd' S' h1 h2 h3 => ?_
      · rw [List.getElem?_set_ne (by decide), List.getElem?_set_ne (by decide), List.getElem?_set_ne (by decide), List.getElem?_set_ne (by decide)]; exact s1
      · rw [List.getElem?_set_ne (by decide), List.getElem?_set_ne (by decide), List.getElem?_set_ne (by decide)]; exact List.getElem?_set_self (by omega)
      · rw [List.getElem?_set_ne (by decide), List.getElem?_set_ne (by decide)]; exact List.getElem?_set_self (by simp [lsd])
      · rw [List.getElem?_set_ne (by decide)]; exact List.getElem?_set_self (by simp [lsd])
      · exact List.getElem?_set_self (by simp [lsd])
      · exact ⟨h1, h2, f19.trans h3⟩
    · rintro sd S19 ⟨lsd, ⟨w, s1⟩, f19⟩
      exact ⟨rdL_fr f19 (rdL_lst er), f19⟩
  intro sd S19 f19
  rw [w_ret, wpR_c]
  exact k S19 ((b18.fr f19).mono (by omega)) (F18.trans (f19.b b))
end
end Kk12
end Lay

set_option Elab.async false
set_option linter.all false
set_option maxRecDepth 100000
set_option maxHeartbeats 4000000
/-! the pure law -/
namespace Lay
namespace Kk12
open PySem PySem.Spec PyProof.Rows L2
open Classical
theorem law_ok (ns : List Int) (hn : ns.length ≤ 63) : ∃ S', g_law [.ref 0] [.ro (ns.map D.int)] = .ok (.bl true) S' := by
  suffices q : wpR (g_law [.ref 0] [.ro (ns.map D.int)]) (fun d _ => d = .bl true) fun _ _ => False by
    obtain ⟨d, S', e, rfl⟩ := wpR_ex q
    exact ⟨S', e⟩
  generalize hS0 : [SO.ro (ns.map D.int)] = S0
  have h0 : S0[0]? = some (.ro (ns.map D.int)) := by rw [← hS0]; rfl
  have l0 : S0.length = 1 := by rw [← hS0]; rfl
  refine wp_fn rfl ?_
  rw [w_seq, w_for]
  refine rg_k ?_
  rw [v_cons, v_callB, v_cons, wpR_c, v_cons, v_callB, v_cons, wpR_c, v_cons, v_callB, v_cons, wpR_var]
  refine ⟨_, rfl, ?_⟩
  rw [v_nil, wp_len]
  refine ⟨ns.length, by unfold lenD; dsimp only; rw [h0]; simp, ?_⟩
  rw [v_nil, wp_min, v_nil, wp_max, v_nil]
  generalize hm : (if (if (ns.length : Int) < 5 then (ns.length : Int) else 5) > 2 then (if (ns.length : Int) < 5 then (ns.length : Int) else 5) else 2) = m
  have m5 : 0 ≤ m ∧ m ≤ 5 := by rw [← hm]; split <;> split <;> omega
  refine ⟨m.toNat, by congr 2; omega, by omega, ?_⟩
  refine wp_for (fun i sd S' => ∃ (s1 s2 s3 s4 : Option D), sd = [some (.ref 0), s1, s2, s3, s4] ∧ Fr S0 S') _ 0 _ _ ⟨none, none, none, none, rfl, Fr.refl⟩ ?_ ?_
  · rintro j d sd S1 hj ⟨s1, s2, s3, s4, rfl, f1⟩
    obtain ⟨rfl, hj5⟩ := rngN_at hj
    refine ⟨trivial, _, rfl, ?_⟩
    obtain ⟨x, S2, e2, f2⟩ := cell_ok (c0 := 6445) (k := j) (f1.at h0) (by omega) (by decide)
    obtain ⟨S3, e3, b3, f3⟩ := box_ok (x := x) (S := S2)
    dsimp only
    rw [w_seq, w_set, v_call, v_cons, v_call, v_cons, wpR_var]
    refine ⟨_, rfl, ?_⟩
    rw [v_cons, wpR_var]
    refine ⟨_, rfl, ?_⟩
    rw [v_nil, show g__law_cell = cellF 6445 from rfl, e2, wpR_ok, v_nil, show g__law_box = boxF from rfl, e3, wpR_ok]
    have F3 := f1.trans (f2.trans f3)
    have lb : S0.length ≤ S2.length := (f1.trans f2).le
    dsimp only
    rw [w_seq, w_par, v_cons]
    refine tkE htk rfl b3 fun way S4 hw b4 f4 => ?_
    rw [v_cons, v_bin]
    refine tkE htk rfl b4 fun t S5 ht b5 f5 => ?_
    rw [wpR_c, wp_eq, v_nil, two_of]
    dsimp only
    generalize hbn : decide ((t : Int) = 0) = named
    have F5 := f4.trans f5
    have fin : ∀ (S' : Store), FrB S2.length S3 S' → Fr S0 S' := fun S' f => f.fr F3 lb
    refine w_mid (fun sd S' => sd = [some (.ref 0), some (.int j), some (.ref S2.length), some (.int way), some (.bl named)] ∧ IsBox S' S2.length 4 ∧ FrB S2.length S3 S') ?_ ?_
    · rw [w_if, v_band, v_asB, v_bin, wpR_var]
      refine ⟨_, rfl, ?_⟩
      rw [wpR_c, wp_eq]
      refine ⟨_, rfl, ?_⟩
      by_cases w0 : (way : Int) = 0
      · simp only [w0, decide_true, if_true]
        rw [v_bnot, v_tru, v_call, v_cons, wpR_var]
        refine ⟨_, rfl, ?_⟩
        rw [v_cons, wpR_var]
        refine ⟨_, rfl, ?_⟩
        rw [v_nil]
        refine great_right_k b5 (fun S6 b6 f6 => ?_) (by omega)
        refine ⟨_, tru_bl _, ?_⟩
        simp only [Bool.not_true, Bool.false_eq_true, if_false]
        rw [w_next]
        exact ⟨by rw [← w0]; rfl, b6, F5.trans f6⟩
      · simp only [w0, decide_false, Bool.false_eq_true, if_false]
        rw [w_next]
        exact ⟨rfl, b5.mono (by omega), F5⟩
    rintro sd S6 ⟨rfl, b6, f6⟩
    rw [w_if, v_bor, v_bnot, v_tru, v_call, v_cons, wpR_var]
    refine ⟨_, rfl, ?_⟩
    rw [v_cons, wpR_var]
    refine ⟨_, rfl, ?_⟩
    rw [v_nil]
    refine holds_right_k b6 (fun S7 b7 f7 => ?_) (by omega)
    refine ⟨_, tru_bl _, ?_⟩
    simp only [Bool.not_true, Bool.false_eq_true, if_false]
    rw [v_bor, v_bnot, v_tru, v_call, v_cons, wpR_var]
    refine ⟨_, rfl, ?_⟩
    rw [v_cons, v_not, wpR_var]
    refine ⟨_, rfl, _, tru_bl _, ?_⟩
    rw [v_nil]
    refine tidy_right_k b7 (fun S8 b8 f8 => ?_) (by omega)
    refine ⟨_, tru_bl _, ?_⟩
    simp only [Bool.not_true, Bool.false_eq_true, if_false]
    rw [v_bnot, v_tru, v_call, v_cons, wpR_var]
    refine ⟨_, rfl, ?_⟩
    rw [v_cons, wpR_var]
    refine ⟨_, rfl, ?_⟩
    rw [v_nil]
    refine refused_right_k b8 (fun S9 b9 f9 => ?_) (by omega)
    refine ⟨_, tru_bl _, ?_⟩
    simp only [Bool.not_true, Bool.false_eq_true, if_false]
    rw [w_next]
    exact ⟨_, _, _, _, rfl, fin _ (f6.trans (f7.trans (f8.trans f9)))⟩
  · rintro sd S5 ⟨s1, s2, s3, s4, rfl, f5⟩
    refine ⟨trivial, ?_⟩
    dsimp only
    rw [w_ret, wpR_c]
end Kk12
end Lay

theorem PySem.Challenge.cw_wiresay_k12_systems_and_tidy_rows_holds : PySem.Challenge.rw_wiresay_k12_systems_and_tidy_rows.Holds := by
  exact Lay.Kk12.holds_of Lay.Kk12.law_ok
