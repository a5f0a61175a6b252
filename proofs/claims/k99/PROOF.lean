import PyProof.Rows.All
import Wide.All
import OpenK.AllK
import Wide.FinOn
import PyProof.EqAt
import PyProof.EqKinds
import PyProof.TupleCall
import HandS.ForMost
import HandS.HeadHook1
import HandS.Exc
import HandS.ExcOwn
import HandS.TryMany
import HandS.CallSlots
import HandS.ExcInit
import HandS.ExcIs
import HandS.IsInst
import HandS.WordsExc
import HandS.Wide
import HandS.Style
import HandS.Flow
import HandS.TupAny
import HandS.NoneIn
import HandS.Conv
import KE.KExcIs
import HandS.HeadHook4
import HandS.Head2
import HandS.HeadEnd
import HandS.Zip
import PySem.Challenge.RW_wiresay_k99_errors
set_option Elab.async false
set_option linter.all false
set_option maxRecDepth 100000
set_option maxHeartbeats 4000000
/-! L0: a layer over HandS in which immutable data are trees and mutable objects stand in a numbered store; programs become functions. -/
namespace Lay
abbrev St := L2.St
open PySem PySem.Spec PyProof.Rows L2

/-- data: immutable things as trees; ref n: the n-th object of the store; exn c ds: an exception object of the c-th class, its fields -/
inductive D where
  | non | bl (b : Bool) | int (i : Int) | str (x : Str) | tup (ds : List D) | ref (n : Nat) | exn (c : Nat) (ds : List D)

/-- what stands in the store -/
inductive SO where
  | lst (ds : List D)
  | ro (ds : List D)
  | dct (kvs : List (Key × D))
  | dlk (kvs : List (Key × D))
abbrev Store := List SO
/-- a raised exception: its class's number, its fields -/
structure Ex where
  c : Nat
  ds : List D
inductive Res (α : Type) where
  | ok (a : α) (S : Store)
  | exc (e : Ex) (S : Store)
  | bad
abbrev M (α : Type) := Store → Res α
/-- a class of the program -/
structure Cls where
  name : Str
  flds : List Str
  sups : List Nat
structure Ctx where
  K : PySem.W.Frag
  T : List Cls
def Ctx.addr (C : Ctx) (c : Nat) : Addr := match C.T[c]? with
  | some q => He.ga C.K q.name
  | none => 0
def Ctx.flds (C : Ctx) (c : Nat) : List Str := match C.T[c]? with
  | some q => q.flds
  | none => []
/-- an exception object of the class cls, its dict d, at a -/
def ExV (cls : Value) (d : Option Addr) (a : Addr) : HO := .ext fun h => ∃ (oe : Obj) (vs : Array Value), h.get? a = some oe ∧ Zc cls d oe ∧ oe.data = .fields vs
/-- what is kept for ever -/
def Fix : HO → Prop
  | .tup _ => True
  | .frz _ _ => True
  | .ext _ => True
  | .xd _ => True
  | _ => False
/-- the state has grown: more numbered objects; what is fixed stands -/
structure Le (ρ : List Addr) (H : Hp) (ρ' : List Addr) (H' : Hp) : Prop where
  ext : ∃ t, ρ' = ρ ++ t
  fix : ∀ a o, H a = some o → Fix o → H' a = some o
theorem Le.refl {ρ : List Addr} {H : Hp} : Le ρ H ρ H := ⟨⟨[], by simp⟩, fun _ _ h _ => h⟩
theorem Le.trans {ρ ρ1 ρ2 : List Addr} {H H1 H2 : Hp} (x : Le ρ H ρ1 H1) (y : Le ρ1 H1 ρ2 H2) : Le ρ H ρ2 H2 := by
  obtain ⟨⟨t, e⟩, f⟩ := x
  obtain ⟨⟨u, e'⟩, f'⟩ := y
  exact ⟨⟨t ++ u, by rw [e', e, List.append_assoc]⟩, fun a o h z => f' a o (f a o h z) z⟩
theorem Le.at {ρ ρ' : List Addr} {H H' : Hp} (x : Le ρ H ρ' H') {n : Nat} {a : Addr} (h : ρ[n]? = some a) : ρ'[n]? = some a := by
  obtain ⟨⟨t, e⟩, _⟩ := x
  rw [e, List.getElem?_append_left (List.getElem?_eq_some_iff.mp h).1]
  exact h
theorem Le.lock {ρ : List Addr} {H : Hp} {a : Addr} {o : HO} (hn : ∀ o', H a = some o' → ¬ Fix o') : Le ρ H ρ (upd H a o) :=
  ⟨⟨[], by simp⟩, fun b u h z => by
    have hb : b ≠ a := fun e => by subst e; exact hn u h z
    rw [upd_ne hb]; exact h⟩
theorem Le.new {ρ : List Addr} {H : Hp} {a : Addr} {o : HO} (hn : H a = none) : Le ρ H ρ (upd H a o) := Le.lock fun o' h => by rw [hn] at h; cases h
theorem Le.newR {ρ : List Addr} {H : Hp} {a : Addr} {o : HO} (hn : H a = none) : Le ρ H (ρ ++ [a]) (upd H a o) := ⟨⟨[a], rfl⟩, (Le.new (ρ := ρ) hn).fix⟩

/-- an exception's own dict holds its fields -/
def DictOk (flds : List Str) (H : Hp) (d : Option Addr) (xs : List V) : Prop :=
  xs.length = flds.length ∧ ((flds = [] ∧ d = none) ∨ ∃ dd fs, d = some dd ∧ H dd = some (.xd fs) ∧ ∀ (i : Nat) f, flds[i]? = some f → fs.lookup f = xs[i]?)
theorem DictOk.le {flds : List Str} {ρ ρ' : List Addr} {H H' : Hp} {d : Option Addr} {xs : List V} (l : Le ρ H ρ' H') (h : DictOk flds H d xs) : DictOk flds H' d xs := by
  obtain ⟨hl, h⟩ := h
  refine ⟨hl, ?_⟩
  rcases h with h | ⟨dd, fs, e1, e2, e3⟩
  · exact .inl h
  · exact .inr ⟨dd, fs, e1, l.fix _ _ e2 trivial, e3⟩
mutual
def Rep (C : Ctx) (ρ : List Addr) (H : Hp) : D → V → Prop
  | .non, v => v = .non
  | .bl b, v => v = .bl b
  | .int i, v => v = .int i
  | .str x, v => v = .str x
  | .tup ds, v => ∃ a xs, v = .ref a ∧ SqT C.K H a xs ∧ Reps C ρ H ds xs
  | .ref n, v => ∃ a, ρ[n]? = some a ∧ v = .ref a
  | .exn c ds, v => ∃ a d xs, v = .ref a ∧ c < C.T.length ∧ H a = some (ExV (.ref (C.addr c)) d a) ∧
      DictOk (C.flds c) H d xs ∧ Reps C ρ H ds xs
def Reps (C : Ctx) (ρ : List Addr) (H : Hp) : List D → List V → Prop
  | [], xs => xs = []
  | d :: ds, xs => ∃ v vs, xs = v :: vs ∧ Rep C ρ H d v ∧ Reps C ρ H ds vs
end
theorem SqT.le {K : PySem.W.Frag} {ρ ρ' : List Addr} {H H' : Hp} {a : Addr} {xs : List V} (l : Le ρ H ρ' H') (h : SqT K H a xs) : SqT K H' a xs := by
  rcases h with (h | ⟨o, h⟩) | h
  · exact .inl (.inl (l.fix _ _ h trivial))
  · exact .inl (.inr ⟨o, l.fix _ _ h trivial⟩)
  · exact .inr h
section
variable {C : Ctx} {ρ ρ' : List Addr} {H H' : Hp}
mutual
theorem Rep.le (l : Le ρ H ρ' H') : ∀ {d : D} {v : V}, Rep C ρ H d v → Rep C ρ' H' d v
  | .non, v, h => by simpa only [Rep] using h
  | .bl b, v, h => by simpa only [Rep] using h
  | .int i, v, h => by simpa only [Rep] using h
  | .str x, v, h => by simpa only [Rep] using h
  | .tup ds, v, h => by
    simp only [Rep] at h ⊢
    obtain ⟨a, xs, e, s, r⟩ := h
    exact ⟨a, xs, e, SqT.le l s, Reps.le l r⟩
  | .ref n, v, h => by
    simp only [Rep] at h ⊢
    obtain ⟨a, e, h⟩ := h
    exact ⟨a, l.at e, h⟩
  | .exn c ds, v, h => by
    simp only [Rep] at h ⊢
    obtain ⟨a, d, xs, e, hc, ha, hd, r⟩ := h
    exact ⟨a, d, xs, e, hc, l.fix _ _ ha trivial, hd.le l, Reps.le l r⟩
theorem Reps.le (l : Le ρ H ρ' H') : ∀ {ds : List D} {vs : List V}, Reps C ρ H ds vs → Reps C ρ' H' ds vs
  | [], vs, h => by simpa only [Reps] using h
  | d :: ds, vs, h => by
    simp only [Reps] at h ⊢
    obtain ⟨v, ws, e, r, t⟩ := h
    exact ⟨v, ws, e, Rep.le l r, Reps.le l t⟩
end
theorem Reps.nil : Reps C ρ H [] [] := by simp only [Reps]
theorem Reps.cons {d : D} {v : V} {ds : List D} {vs : List V} (r : Rep C ρ H d v) (t : Reps C ρ H ds vs) : Reps C ρ H (d :: ds) (v :: vs) := by
  simp only [Reps]; exact ⟨v, vs, rfl, r, t⟩
theorem Reps.inv {d : D} {ds : List D} {xs : List V} (h : Reps C ρ H (d :: ds) xs) : ∃ v vs, xs = v :: vs ∧ Rep C ρ H d v ∧ Reps C ρ H ds vs := by
  simpa only [Reps] using h
theorem Reps.nil_inv {xs : List V} (h : Reps C ρ H [] xs) : xs = [] := by simpa only [Reps] using h
theorem Reps.length : ∀ {ds : List D} {vs : List V}, Reps C ρ H ds vs → ds.length = vs.length
  | [], vs, h => by rw [h.nil_inv] <;> rfl
  | d :: ds, vs, h => by
    obtain ⟨v, ws, rfl, r, t⟩ := h.inv
    simp [Reps.length t]
theorem Reps.get : ∀ {ds : List D} {vs : List V} {i : Nat} {d : D}, Reps C ρ H ds vs → ds[i]? = some d → ∃ v, vs[i]? = some v ∧ Rep C ρ H d v
  | [], vs, i, d, h, e => by simp at e
  | x :: ds, vs, i, d, h, e => by
    obtain ⟨v, ws, rfl, r, t⟩ := h.inv
    cases i with
    | zero => simp at e; subst e; exact ⟨v, rfl, r⟩
    | succ i => obtain ⟨w, h1, h2⟩ := Reps.get (i := i) t (by simpa using e); exact ⟨w, by simpa using h1, h2⟩
theorem Reps.append : ∀ {ds es : List D} {vs ws : List V}, Reps C ρ H ds vs → Reps C ρ H es ws → Reps C ρ H (ds ++ es) (vs ++ ws)
  | [], es, vs, ws, h, t => by rw [h.nil_inv]; exact t
  | d :: ds, es, vs, ws, h, t => by
    obtain ⟨v, us, rfl, r, q⟩ := h.inv
    exact Reps.cons r (Reps.append q t)
theorem Reps.set : ∀ {ds : List D} {vs : List V} {d : D} {v : V} (i : Nat), Rep C ρ H d v → Reps C ρ H ds vs → Reps C ρ H (ds.set i d) (vs.set i v)
  | [], vs, d, v, i, r, h => by rw [h.nil_inv]; exact Reps.nil
  | x :: ds, vs, d, v, i, r, h => by
    obtain ⟨w, us, rfl, q, t⟩ := h.inv
    cases i with
    | zero => exact Reps.cons r t
    | succ i => exact Reps.cons q (Reps.set i r t)
theorem Reps.take : ∀ {ds : List D} {vs : List V} (n : Nat), Reps C ρ H ds vs → Reps C ρ H (ds.take n) (vs.take n)
  | ds, vs, 0, h => by simp [Reps]
  | [], vs, n + 1, h => by rw [h.nil_inv]; exact Reps.nil
  | d :: ds, vs, n + 1, h => by
    obtain ⟨w, us, rfl, q, t⟩ := h.inv
    exact Reps.cons q (Reps.take n t)
theorem Reps.drop : ∀ {ds : List D} {vs : List V} (n : Nat), Reps C ρ H ds vs → Reps C ρ H (ds.drop n) (vs.drop n)
  | ds, vs, 0, h => h
  | [], vs, n + 1, h => by rw [h.nil_inv]; exact Reps.nil
  | d :: ds, vs, n + 1, h => by
    obtain ⟨w, us, rfl, q, t⟩ := h.inv
    exact Reps.drop n t
theorem Reps.eraseIdx : ∀ {ds : List D} {vs : List V} (n : Nat), Reps C ρ H ds vs → Reps C ρ H (ds.eraseIdx n) (vs.eraseIdx n)
  | [], vs, n, h => by rw [h.nil_inv]; exact Reps.nil
  | d :: ds, vs, n, h => by
    obtain ⟨w, us, rfl, q, t⟩ := h.inv
    cases n with
    | zero => exact t
    | succ n => exact Reps.cons q (Reps.eraseIdx n t)
theorem Reps.reverse {ds : List D} {vs : List V} (h : Reps C ρ H ds vs) : Reps C ρ H ds.reverse vs.reverse := by
  induction ds generalizing vs with
  | nil => rw [h.nil_inv]; exact Reps.nil
  | cons d ds ih =>
    obtain ⟨w, us, rfl, q, t⟩ := h.inv
    rw [List.reverse_cons, List.reverse_cons]
    exact Reps.append (ih t) (Reps.cons q Reps.nil)
end

/-! ### the store -/
def KReps (C : Ctx) (ρ : List Addr) (H : Hp) (kvs : List (Key × D)) (ws : List (Key × V)) : Prop := Paired (fun (p : Key × D) (q : Key × V) => p.1 = q.1 ∧ Rep C ρ H p.2 q.2) kvs ws
theorem KReps.le {C : Ctx} {ρ ρ' : List Addr} {H H' : Hp} (l : Le ρ H ρ' H') {kvs : List (Key × D)} {ws : List (Key × V)} (h : KReps C ρ H kvs ws) : KReps C ρ' H' kvs ws :=
  Paired.mapP h fun _ _ z => ⟨z.1, z.2.le l⟩
/-- a list of the written part -/
def KL (K : PySem.W.Frag) (a : Addr) (xs : List V) : Prop :=
  ∃ (o : Obj) (its : Array Value) (n : Nat), K.lookup a = some o ∧ o.cls = .type "list" ∧ o.dict = none ∧ o.data = .seq its n ∧ its.size ≤ sizeLine ∧ Vals xs its.toList
def RepO (C : Ctx) (ρ : List Addr) (H : Hp) (a : Addr) : SO → Prop
  | .lst ds => ∃ xs, H a = some (.lst xs) ∧ Reps C ρ H ds xs
  | .ro ds => ∃ xs, ((∃ o, H a = some (.frz o (.lst xs))) ∨ KL C.K a xs) ∧ Reps C ρ H ds xs
  | .dct kvs => ∃ ws, H a = some (.dK ws) ∧ KReps C ρ H kvs ws
  | .dlk kvs => ∃ ws o, H a = some (.frz o (.dK ws)) ∧ KReps C ρ H kvs ws
def SO.isRo : SO → Bool
  | .ro _ => true
  | _ => false
structure SRep (C : Ctx) (ρ : List Addr) (H : Hp) (S : Store) : Prop where
  len : ρ.length = S.length
  inj : ∀ (i j : Nat) a o u, ρ[i]? = some a → ρ[j]? = some a → S[i]? = some o → S[j]? = some u → o.isRo = false → u.isRo = false → i = j
  at_ : ∀ (n : Nat) a o, ρ[n]? = some a → S[n]? = some o → RepO C ρ H a o
section
variable {C : Ctx} {ρ ρ' : List Addr} {H H' : Hp} {S : Store}
/-- an object of the store under growth -/
theorem RepO.le {a : Addr} {o : SO} (l : Le ρ H ρ' H') (e : o.isRo = true ∨ H' a = H a) (h : RepO C ρ H a o) : RepO C ρ' H' a o := by
  cases o with
  | lst ds => obtain ⟨xs, h1, h2⟩ := h; rcases e with e | e; cases e; exact ⟨xs, e.trans h1, h2.le l⟩
  | ro ds =>
    obtain ⟨xs, h1, h2⟩ := h
    refine ⟨xs, ?_, h2.le l⟩
    rcases h1 with ⟨o, h1⟩ | h1
    · exact .inl ⟨o, l.fix _ _ h1 trivial⟩
    · exact .inr h1
  | dct kvs => obtain ⟨ws, h1, h2⟩ := h; rcases e with e | e; cases e; exact ⟨ws, e.trans h1, h2.le l⟩
  | dlk kvs => obtain ⟨ws, o, h1, h2⟩ := h; rcases e with e | e; cases e; exact ⟨ws, o, e.trans h1, h2.le l⟩
theorem RepO.some {a : Addr} {o : SO} (h : RepO C ρ H a o) (e : o.isRo = false) : H a ≠ none := by
  cases o with
  | lst ds => obtain ⟨xs, h1, h2⟩ := h; rw [h1]; simp
  | ro ds => cases e
  | dct kvs => obtain ⟨ws, h1, h2⟩ := h; rw [h1]; simp
  | dlk kvs => obtain ⟨ws, o, h1, h2⟩ := h; rw [h1]; simp
theorem isRo_or (o : SO) : o.isRo = true ∨ o.isRo = false := by cases o <;> simp [SO.isRo]
/-- a new object of the abstract heap, not of the store -/
theorem SRep.free {p : Addr} {o : HO} (r : SRep C ρ H S) (hn : H p = none) : SRep C ρ (upd H p o) S := by
  refine ⟨r.len, r.inj, fun n a so h1 h2 => ?_⟩
  have z := r.at_ n a so h1 h2
  refine z.le (Le.new hn) ?_
  rcases isRo_or so with q | q
  · exact .inl q
  · exact .inr (upd_ne fun e => z.some q (e ▸ hn))
/-- a new object of the store -/
theorem SRep.push {p : Addr} {o : HO} {so : SO} (r : SRep C ρ H S) (hn : H p = none) (new : RepO C (ρ ++ [p]) (upd H p o) p so) : SRep C (ρ ++ [p]) (upd H p o) (S ++ [so]) := by
  have key : ∀ (n : Nat) a u, (ρ ++ [p])[n]? = some a → (S ++ [so])[n]? = some u → (n < ρ.length ∧ ρ[n]? = some a ∧ S[n]? = some u) ∨ (n = ρ.length ∧ a = p ∧ u = so) := by
    intro n a u h1 h2
    by_cases hl : n < ρ.length
    · rw [List.getElem?_append_left hl] at h1
      rw [List.getElem?_append_left (by rw [← r.len]; exact hl)] at h2
      exact .inl ⟨hl, h1, h2⟩
    · have hl2 : n < (ρ ++ [p]).length := (List.getElem?_eq_some_iff.mp h1).1
      rw [List.length_append, List.length_singleton] at hl2
      have e : n = ρ.length := by omega
      subst e
      rw [List.getElem?_append_right (Nat.le_refl _)] at h1
      rw [r.len, List.getElem?_append_right (Nat.le_refl _)] at h2
      simp at h1 h2
      exact .inr ⟨rfl, h1.symm, h2.symm⟩
  have old : ∀ (n : Nat) a u, ρ[n]? = some a → S[n]? = some u → u.isRo = false → a ≠ p := fun n a u h1 h2 h3 e => (r.at_ n a u h1 h2).some h3 (e ▸ hn)
  refine ⟨by simp [r.len], fun i j a x y h1 h2 h3 h4 h5 h6 => ?_, fun n a u h1 h2 => ?_⟩
  · rcases key i a x h1 h3 with ⟨q1, q2, q3⟩ | ⟨q1, q2, q3⟩
    · rcases key j a y h2 h4 with ⟨p1, p2, p3⟩ | ⟨p1, p2, p3⟩
      · exact r.inj i j a x y q2 p2 q3 p3 h5 h6
      · exact absurd p2 (old i a x q2 q3 h5)
    · rcases key j a y h2 h4 with ⟨p1, p2, p3⟩ | ⟨p1, p2, p3⟩
      · exact absurd q2 (old j a y p2 p3 h6)
      · omega
  · rcases key n a u h1 h2 with ⟨q1, q2, q3⟩ | ⟨q1, q2, q3⟩
    · have z := r.at_ n a u q2 q3
      refine z.le (Le.newR hn) ?_
      rcases isRo_or u with w | w
      · exact .inl w
      · exact .inr (upd_ne (old n a u q2 q3 w))
    · subst q2 q3
      exact new
/-- an object of the store is written -/
theorem SRep.write {n : Nat} {a : Addr} {o : HO} {so so' : SO} (r : SRep C ρ H S) (hρ : ρ[n]? = some a) (hS : S[n]? = some so) (h1 : so.isRo = false) (l : Le ρ H ρ (upd H a o)) (new : RepO C ρ (upd H a o) a so') : SRep C ρ (upd H a o) (S.set n so') := by
  have hn : n < S.length := (List.getElem?_eq_some_iff.mp hS).1
  have key : ∀ (i : Nat) u, (S.set n so')[i]? = some u → (i ≠ n ∧ S[i]? = some u) ∨ (i = n ∧ u = so') := by
    intro i u h
    by_cases e : i = n
    · subst e
      rw [List.getElem?_set_self hn] at h
      exact .inr ⟨rfl, (Option.some.inj h).symm⟩
    · rw [List.getElem?_set_ne (Ne.symm e)] at h
      exact .inl ⟨e, h⟩
  refine ⟨by simp [r.len], fun i j b x y e1 e2 e3 e4 e5 e6 => ?_, fun i b u e1 e2 => ?_⟩
  · rcases key i x e3 with ⟨q1, q2⟩ | ⟨q1, q2⟩
    · rcases key j y e4 with ⟨p1, p2⟩ | ⟨p1, p2⟩
      · exact r.inj i j b x y e1 e2 q2 p2 e5 e6
      · subst p1
        exact r.inj i j b x so e1 e2 q2 hS e5 h1
    · rcases key j y e4 with ⟨p1, p2⟩ | ⟨p1, p2⟩
      · subst q1
        exact r.inj i j b so y e1 e2 hS p2 h1 e6
      · omega
  · rcases key i u e2 with ⟨q1, q2⟩ | ⟨q1, q2⟩
    · have z := r.at_ i b u e1 q2
      refine z.le l ?_
      rcases isRo_or u with w | w
      · exact .inl w
      · refine .inr (upd_ne fun e => q1 ?_)
        subst e
        exact r.inj i n b u so e1 hρ q2 hS w h1
    · subst q1 q2
      rw [hρ] at e1
      cases e1
      exact new
end

/-! ### slots, ends -/
abbrev SD := List (Option D)
structure Slots (C : Ctx) (ρ : List Addr) (H : Hp) (sd : SD) (σ : St) : Prop where
  len : sd.length = σ.length
  at_ : ∀ (i : Nat) d, sd[i]? = some (some d) → ∃ v, σ[i]? = some (some v) ∧ Rep C ρ H d v
theorem Slots.le {C : Ctx} {ρ ρ' : List Addr} {H H' : Hp} {sd : SD} {σ : St} (l : Le ρ H ρ' H') (h : Slots C ρ H sd σ) : Slots C ρ' H' sd σ :=
  ⟨h.len, fun i d e => let ⟨v, e1, r⟩ := h.at_ i d e; ⟨v, e1, r.le l⟩⟩
theorem Slots.set {C : Ctx} {ρ : List Addr} {H : Hp} {sd : SD} {σ : St} {i : Nat} {d : D} {v : V} (h : Slots C ρ H sd σ) (r : Rep C ρ H d v) : Slots C ρ H (sd.set i (some d)) (σ.set i (some v)) := by
  refine ⟨by simp [h.len], fun j e q => ?_⟩
  by_cases hj : j = i
  · subst hj
    have hl : j < sd.length := by
      have := (List.getElem?_eq_some_iff.mp q).1
      simpa using this
    rw [List.getElem?_set_self hl] at q
    cases q
    exact ⟨v, by rw [List.getElem?_set_self (by rw [← h.len]; exact hl)], r⟩
  · rw [List.getElem?_set_ne (Ne.symm hj)] at q
    obtain ⟨w, e1, r1⟩ := h.at_ j e q
    exact ⟨w, by rw [List.getElem?_set_ne (Ne.symm hj)]; exact e1, r1⟩
/-- an exception that flies: its class's object, its dict -/
def ExRep (C : Ctx) (ρ : List Addr) (H : Hp) (e : Ex) (cls : Value) (d : Option Addr) : Prop :=
  e.c < C.T.length ∧ cls = .ref (C.addr e.c) ∧ ∃ xs, DictOk (C.flds e.c) H d xs ∧ Reps C ρ H e.ds xs
theorem ExRep.le {C : Ctx} {ρ ρ' : List Addr} {H H' : Hp} {e : Ex} {cls : Value} {d : Option Addr} (l : Le ρ H ρ' H') (h : ExRep C ρ H e cls d) : ExRep C ρ' H' e cls d := by
  obtain ⟨h1, h2, xs, h4, h5⟩ := h
  exact ⟨h1, h2, xs, h4.le l, h5.le l⟩
/-- what a result means -/
def EndR {α β : Type} (C : Ctx) (W : WX) (σ : St) (ρ : List Addr) (H : Hp) (RA : α → β → List Addr → Hp → Prop) (r : Res α) (Q : β → Hp → Prop) : Prop :=
  match r with
  | .ok a S' => ∀ b ρ' H', Le ρ H ρ' H' → SRep C ρ' H' S' → RA a b ρ' H' → Q b H'
  | .exc e S' => ∀ cls d ρ' H', Le ρ H ρ' H' → SRep C ρ' H' S' → ExRep C ρ' H' e cls d → W cls d σ H'
  | .bad => False
abbrev EE := SD → Store → Res D
abbrev EB := SD → Store → Res Bool
abbrev EA := SD → Store → Res (List D)
def RD (C : Ctx) : D → V → List Addr → Hp → Prop := fun d v ρ H => Rep C ρ H d v
def RB : Bool → Bool → List Addr → Hp → Prop := fun a b _ _ => a = b
def RL (C : Ctx) : List D → List V → List Addr → Hp → Prop := fun d v ρ H => Reps C ρ H d v
/-- the reading of an expression by a function of ours -/
def LG {α β : Type} (C : Ctx) (RA : α → β → List Addr → Hp → Prop) (W : WX) (m : SD → Store → Res α) (σ : St) (H : Hp) (Q : β → Hp → Prop) : Prop :=
  ∃ sd ρ S, Slots C ρ H sd σ ∧ SRep C ρ H S ∧ EndR C W σ ρ H RA (m sd S) Q
abbrev LE (C : Ctx) (W : WX) (m : EE) : TE := LG C (RD C) W m
abbrev LB (C : Ctx) (W : WX) (m : EB) : TT := LG C RB W m
abbrev LA (C : Ctx) (W : WX) (m : EA) : TA := LG C (RL C) W m
theorem EndR.base {α β : Type} {C : Ctx} {W : WX} {σ : St} {ρ ρ' : List Addr} {H H' : Hp} {RA : α → β → List Addr → Hp → Prop} {r : Res α} {Q : β → Hp → Prop} (l : Le ρ H ρ' H') (h : EndR C W σ ρ H RA r Q) : EndR C W σ ρ' H' RA r Q := by
  cases r with
  | ok a S' => exact fun b ρ2 H2 l2 => h b ρ2 H2 (l.trans l2)
  | exc e S' => exact fun c d ρ2 H2 l2 => h c d ρ2 H2 (l.trans l2)
  | bad => exact h
theorem EndR.weak {α β : Type} {C : Ctx} {W : WX} {σ : St} {ρ : List Addr} {H : Hp} {RA : α → β → List Addr → Hp → Prop} {r : Res α} {Q Q' : β → Hp → Prop} (h : EndR C W σ ρ H RA r Q) (hq : ∀ b H', Q b H' → Q' b H') : EndR C W σ ρ H RA r Q' := by
  cases r with
  | ok a S' => exact fun b ρ2 H2 l2 s ra => hq _ _ (h b ρ2 H2 l2 s ra)
  | exc e S' => exact h
  | bad => exact h
def Res.bind {α β : Type} (r : Res α) (f : α → Store → Res β) : Res β := match r with
  | .ok a S => f a S
  | .exc e S => .exc e S
  | .bad => .bad
@[simp] theorem bind_ok {α β : Type} (a : α) (S : Store) (f : α → Store → Res β) : (Res.ok a S).bind f = f a S := rfl
@[simp] theorem bind_exc {α β : Type} (e : Ex) (S : Store) (f : α → Store → Res β) : (Res.exc e S).bind f = .exc e S := rfl
@[simp] theorem bind_bad {α β : Type} (f : α → Store → Res β) : (Res.bad).bind f = .bad := rfl
/-- one after the other -/
def eBind {α β : Type} (m : SD → Store → Res α) (f : α → SD → Store → Res β) : SD → Store → Res β := fun sd S => (m sd S).bind fun a => f a sd
theorem eBind_of {α β : Type} (m : SD → Store → Res α) (f : α → SD → Store → Res β) (sd : SD) (S : Store) : eBind m f sd S = (m sd S).bind fun a => f a sd := rfl
/-- THE STEP: a reading of m, then, with its value in hand, of f -/
theorem LG.run {α β γ δ : Type} {C : Ctx} {RA : α → β → List Addr → Hp → Prop} {RC : γ → δ → List Addr → Hp → Prop} {W : WX} {m : SD → Store → Res α} {f : α → SD → Store → Res γ} {σ : St} {H : Hp} {Q : δ → Hp → Prop} {Q' : β → Hp → Prop} {sd : SD} {ρ : List Addr} {S : Store}
    (h1 : Slots C ρ H sd σ) (h2 : SRep C ρ H S) (h3 : EndR C W σ ρ H RC (eBind m f sd S) Q)
    (k : ∀ a b ρ' S' H', Le ρ H ρ' H' → SRep C ρ' H' S' → RA a b ρ' H' → EndR C W σ ρ' H' RC (f a sd S') Q → Q' b H') : LG C RA W m σ H Q' := by
  refine ⟨sd, ρ, S, h1, h2, ?_⟩
  unfold eBind at h3
  cases e : m sd S with
  | ok a S' =>
    rw [e] at h3
    intro b ρ' H' l s ra
    exact k a b ρ' S' H' l s ra (EndR.base l h3)
  | exc x S' =>
    rw [e] at h3
    exact h3
  | bad =>
    rw [e] at h3
    exact h3
theorem _root_.L2.PE.imp {X : Cx} {e : Expr} {t t' : TE} (h : PE X e t) (k : ∀ σ H Q, t' σ H Q → t σ H Q) : PE X e t' := ⟨fun pins s σ H Q I q => h.run pins s σ H Q I (k σ H Q q)⟩
theorem _root_.L2.PT.imp {X : Cx} {e : Expr} {t t' : TT} (h : PT X e t) (k : ∀ σ H Q, t' σ H Q → t σ H Q) : PT X e t' := ⟨fun pins s σ H Q I q => h.run pins s σ H Q I (k σ H Q q)⟩
theorem _root_.L2.PA.imp {X : Cx} {e : List Expr} {t t' : TA} (h : PA X e t) (k : ∀ σ H Q, t' σ H Q → t σ H Q) : PA X e t' := ⟨fun pos pins s σ H Q I q => h.run pos pins s σ H Q I (k σ H Q q)⟩
end Lay

set_option Elab.async false
set_option linter.all false
set_option maxRecDepth 100000
set_option maxHeartbeats 4000000
/-! L1: operations by values. -/
namespace Lay
open PySem PySem.Spec PyProof.Rows L2
abbrev cx (X : Cx) (T : List Cls) : Ctx := ⟨X.K, T⟩
abbrev Pr (α : Type) := Option (α × Store)
def Res.ofO {α : Type} : Pr α → Res α
  | some (a, S) => .ok a S
  | none => .bad
@[simp] theorem ofO_some {α : Type} (a : α) (S : Store) : Res.ofO (some (a, S)) = .ok a S := rfl
@[simp] theorem ofO_none {α : Type} : (Res.ofO none : Res α) = .bad := rfl
/-- an operation that raises nothing has its value -/
def EndP {α β : Type} (C : Ctx) (ρ : List Addr) (H : Hp) (RA : α → β → List Addr → Hp → Prop) (r : Pr α) (Q : β → Hp → Prop) : Prop :=
  ∃ z, r = some z ∧ ∀ b ρ' H', Le ρ H ρ' H' → SRep C ρ' H' z.2 → RA z.1 b ρ' H' → Q b H'
theorem EndR.pr {α β : Type} {C : Ctx} {W : WX} {σ : St} {ρ : List Addr} {H : Hp} {RA : α → β → List Addr → Hp → Prop} {r : Pr α} {Q : β → Hp → Prop} (h : EndR C W σ ρ H RA (.ofO r) Q) : EndP C ρ H RA r Q := by
  cases r with
  | none => exact h.elim
  | some z => exact ⟨z, rfl, h⟩
theorem EndP.keep {α β : Type} {C : Ctx} {ρ : List Addr} {H : Hp} {RA : α → β → List Addr → Hp → Prop} {a : α} {S : Store} {b : β} {Q : β → Hp → Prop} (h : EndP C ρ H RA (some (a, S)) Q) (s : SRep C ρ H S) (ra : RA a b ρ H) : Q b H := by
  obtain ⟨z, e, h⟩ := h
  cases e
  exact h b ρ H Le.refl s ra
/-- a new object of the store is the value -/
theorem kPush {C : Ctx} {ρ : List Addr} {H : Hp} {S : Store} {so : SO} {p : Addr} {o : HO} {Q : V → Hp → Prop} (k : ∀ b ρ' H', Le ρ H ρ' H' → SRep C ρ' H' (S ++ [so]) → RD C (.ref S.length) b ρ' H' → Q b H') (s : SRep C ρ H S) (hp : H p = none)
    (new : RepO C (ρ ++ [p]) (upd H p o) p so) : Q (.ref p) (upd H p o) := by
  refine k _ (ρ ++ [p]) _ (Le.newR hp) (s.push hp new) ?_
  show Rep _ _ _ (.ref S.length) _
  simp only [Rep]
  exact ⟨p, by rw [← s.len, List.getElem?_append_right (Nat.le_refl _)]; simp, rfl⟩
/-- a new tuple is the value -/
theorem kTup {C : Ctx} {ρ : List Addr} {H : Hp} {S : Store} {p : Addr} {ds : List D} {xs : List V} {Q : V → Hp → Prop} (k : ∀ b ρ' H', Le ρ H ρ' H' → SRep C ρ' H' S → RD C (.tup ds) b ρ' H' → Q b H') (s : SRep C ρ H S) (hp : H p = none)
    (r : Reps C ρ H ds xs) : Q (.ref p) (upd H p (.tup xs)) := by
  refine k _ ρ _ (Le.new hp) (s.free hp) ?_
  show Rep _ _ _ (.tup ds) _
  simp only [Rep]
  exact ⟨p, xs, rfl, .inl (.inl upd_same), r.le (Le.new hp)⟩
section
variable {C : Ctx} {ρ : List Addr} {H : Hp} {S : Store} {v : V}
theorem rep_int {i : Int} : Rep C ρ H (.int i) v ↔ v = .int i := by simp only [Rep]
theorem rep_str {x : Str} : Rep C ρ H (.str x) v ↔ v = .str x := by simp only [Rep]
theorem rep_bl {b : Bool} : Rep C ρ H (.bl b) v ↔ v = .bl b := by simp only [Rep]
theorem rep_non : Rep C ρ H .non v ↔ v = .non := by simp only [Rep]
theorem rep_tup {ds : List D} : Rep C ρ H (.tup ds) v ↔ ∃ a xs, v = .ref a ∧ SqT C.K H a xs ∧ Reps C ρ H ds xs := by simp only [Rep]
theorem rep_ref {n : Nat} : Rep C ρ H (.ref n) v ↔ ∃ a, ρ[n]? = some a ∧ v = .ref a := by simp only [Rep]
/-- a list of the store -/
theorem SRep.lst {n : Nat} {ds : List D} (s : SRep C ρ H S) (r : Rep C ρ H (.ref n) v) (e : S[n]? = some (.lst ds)) : ∃ a xs, ρ[n]? = some a ∧ v = .ref a ∧ H a = some (.lst xs) ∧ Reps C ρ H ds xs := by
  obtain ⟨a, h1, h2⟩ := rep_ref.mp r
  obtain ⟨xs, h3, h4⟩ := s.at_ n a _ h1 e
  exact ⟨a, xs, h1, h2, h3, h4⟩
/-- .. to be read -/
def rdL (S : Store) (n : Nat) : Option (List D) := match S[n]? with
  | some (.lst ds) => some ds
  | some (.ro ds) => some ds
  | _ => none
theorem SRep.rd {n : Nat} {ds : List D} (s : SRep C ρ H S) (r : Rep C ρ H (.ref n) v) (e : rdL S n = some ds) : ∃ a xs, v = .ref a ∧ SqL C.K H a xs ∧ Reps C ρ H ds xs := by
  unfold rdL at e
  split at e
  · rename_i q h
    cases e
    obtain ⟨a, xs, h1, h2, h3, h4⟩ := s.lst r h
    exact ⟨a, xs, h2, .inl (.inl h3), h4⟩
  · rename_i q h
    cases e
    obtain ⟨a, h1, h2⟩ := rep_ref.mp r
    obtain ⟨xs, h3, h4⟩ := s.at_ n a _ h1 h
    refine ⟨a, xs, h2, ?_, h4⟩
    rcases h3 with ⟨o, h3⟩ | h3
    · exact .inl (.inr ⟨o, h3⟩)
    · exact .inr h3
  · cases e
theorem SRep.lst_upd {n : Nat} {ds es : List D} {a : Addr} {xs ys : List V} (s : SRep C ρ H S) (hρ : ρ[n]? = some a) (e : S[n]? = some (.lst ds)) (ha : H a = some (.lst xs)) (r : Reps C ρ H es ys) :
    Le ρ H ρ (upd H a (.lst ys)) ∧ SRep C ρ (upd H a (.lst ys)) (S.set n (.lst es)) := by
  have l : Le ρ H ρ (upd H a (.lst ys)) := Le.lock fun o' h => by rw [ha] at h; cases h; exact fun z => z
  exact ⟨l, s.write hρ e rfl l ⟨ys, upd_same, r.le l⟩⟩
end

abbrev P2 := D → D → Store → Pr D
/-- a two-place operation by D's -/
def rP (C : Ctx) (g : P2) : R2 := fun x y H Q => ∃ dx dy ρ S, Rep C ρ H dx x ∧ Rep C ρ H dy y ∧ SRep C ρ H S ∧ EndP C ρ H (RD C) (g dx dy S) Q
abbrev OpP (X : Cx) (T : List Cls) (f : Value → Value → Sem Value) (g : P2) : Prop := OpR X f (rP (cx X T) g)
/-- from a rule by values -/
theorem OpP.of {X : Cx} {T : List Cls} {f : Value → Value → Sem Value} {g : P2}
    (h : ∀ dx dy ρ S x y H Q, Rep (cx X T) ρ H dx x → Rep (cx X T) ρ H dy y → SRep (cx X T) ρ H S → EndP (cx X T) ρ H (RD (cx X T)) (g dx dy S) Q → ∃ r : R2, OpR X f r ∧ r x y H Q) : OpP X T f g := by
  intro pins s σ H x y v u Q I rx ry ⟨dx, dy, ρ, S, h1, h2, h3, h4⟩
  obtain ⟨r, hr, q⟩ := h dx dy ρ S x y H Q h1 h2 h3 h4
  exact hr pins s σ H x y v u Q I rx ry q

/-! ### arithmetic -/
def fits (n : Nat) : Bool := decide (n ≤ 16777216)
theorem fits_line {n : Nat} (h : fits n = true) : n ≤ sizeLine := by rw [sizeLine_eq]; exact of_decide_eq_true h
def pAdd : P2 := fun x y S => match x, y with
  | .int i, .int j => some (.int (i + j), S)
  | .str x, .str y => if fits (x.length + y.length) then some (.str (x ++ y), S) else none
  | .ref n, .ref m => match S[n]?, S[m]? with
    | some (.lst xs), some (.lst ys) => if fits (xs.length + ys.length) then some (.ref S.length, S ++ [.lst (xs ++ ys)]) else none
    | _, _ => none
  | .tup xs, .tup ys => if fits (xs.length + ys.length) then some (.tup (xs ++ ys), S) else none
  | _, _ => none
theorem op_pAdd {X : Cx} {T : List Cls} : OpP X T (binaryOp .Add) pAdd := OpP.of fun dx dy ρ S x y H Q h1 h2 h3 h4 => by
  obtain ⟨z, hz, k⟩ := h4
  unfold pAdd at hz
  split at hz
  · rename_i i j
    cases hz
    obtain rfl := rep_int.mp h1
    obtain rfl := rep_int.mp h2
    exact ⟨_, op_add, i, j, rfl, rfl, k _ _ _ Le.refl h3 (rep_int.mpr rfl)⟩
  · rename_i a b
    obtain rfl := rep_str.mp h1
    obtain rfl := rep_str.mp h2
    split at hz
    · rename_i hf
      cases hz
      exact ⟨_, op_add_str, a, b, rfl, rfl, fits_line hf, k _ _ _ Le.refl h3 (rep_str.mpr rfl)⟩
    · cases hz
  · rename_i n m
    split at hz
    · rename_i xs ys e1 e2
      split at hz
      · rename_i hf
        cases hz
        obtain ⟨a, us, _, rfl, ha, ra⟩ := h3.lst h1 e1
        obtain ⟨b, ws, _, rfl, hb, rb⟩ := h3.lst h2 e2
        refine ⟨_, op_cat, a, b, us, ws, rfl, rfl, ha, hb, by rw [← ra.length, ← rb.length]; exact fits_line hf, fun p hp => ?_⟩
        exact kPush k h3 hp ⟨us ++ ws, upd_same, (ra.append rb).le (Le.newR hp)⟩
      · cases hz
    · cases hz
  · rename_i xs ys
    split at hz
    · rename_i hf
      cases hz
      obtain ⟨a, us, rfl, ha, ra⟩ := rep_tup.mp h1
      obtain ⟨b, ws, rfl, hb, rb⟩ := rep_tup.mp h2
      refine ⟨_, op_catA, a, b, us, ws, rfl, rfl, ha, hb, by rw [← ra.length, ← rb.length]; exact fits_line hf, fun e => ?_, fun _ e => ?_, fun _ _ p hp => ?_⟩
      · subst e
        have e0 : xs = [] := List.length_eq_zero_iff.mp (ra.length.trans rfl)
        subst e0
        exact k _ _ _ Le.refl h3 h2
      · subst e
        have e0 : ys = [] := List.length_eq_zero_iff.mp (rb.length.trans rfl)
        subst e0
        refine k _ _ _ Le.refl h3 ?_
        show Rep _ _ _ (.tup (xs ++ [])) _
        rw [List.append_nil]
        exact h1
      · exact kTup k h3 hp (ra.append rb)
    · cases hz
  · cases hz
/-- a rule over ints -/
theorem op_ints {X : Cx} {T : List Cls} {f : Value → Value → Sem Value} {g : P2} {c : Int → Int → Bool} {h : Int → Int → D} {r : Int → Int → V} {P : Int → Int → Prop} (hr : OpR X f (rI P r)) (hc : ∀ i j, c i j = true → P i j) (hh : ∀ i j ρ H, Rep (cx X T) ρ H (h i j) (r i j))
    (e : ∀ dx dy S z, g dx dy S = some z → ∃ i j, dx = .int i ∧ dy = .int j ∧ c i j = true ∧ z = (h i j, S)) : OpP X T f g := OpP.of fun dx dy ρ S x y H Q h1 h2 h3 h4 => by
  obtain ⟨z, hz, k⟩ := h4
  obtain ⟨i, j, rfl, rfl, hcc, rfl⟩ := e dx dy S z hz
  obtain rfl := rep_int.mp h1
  obtain rfl := rep_int.mp h2
  exact ⟨_, hr, i, j, rfl, rfl, hc i j hcc, k _ _ _ Le.refl h3 (hh i j ρ H)⟩
def onInts (c : Int → Int → Bool) (h : Int → Int → D) : P2 := fun x y S => match x, y with
  | .int i, .int j => if c i j then some (h i j, S) else none
  | _, _ => none
theorem onInts_inv {c : Int → Int → Bool} {h : Int → Int → D} (dx dy : D) (S : Store) (z : D × Store) (e : onInts c h dx dy S = some z) : ∃ i j, dx = .int i ∧ dy = .int j ∧ c i j = true ∧ z = (h i j, S) := by
  unfold onInts at e
  split at e
  · rename_i i j
    split at e
    · rename_i hc
      cases e
      exact ⟨i, j, rfl, rfl, hc, rfl⟩
    · cases e
  · cases e
theorem rI_of0 {X : Cx} {f : Value → Value → Sem Value} {g : Int → Int → V} (h : OpR X f (rI0 g)) : OpR X f (rI (fun _ _ => True) g) := by
  intro pins s σ H x y v u Q I rx ry ⟨i, j, e1, e2, _, q⟩
  exact h pins s σ H x y v u Q I rx ry ⟨i, j, e1, e2, q⟩
def yes2 : Int → Int → Bool := fun _ _ => true
def pSub : P2 := onInts yes2 fun i j => .int (i - j)
theorem op_pSub {X : Cx} {T : List Cls} : OpP X T (binaryOp .Sub) pSub := op_ints (rI_of0 op_sub) (fun _ _ _ => trivial) (fun _ _ _ _ => rep_int.mpr rfl) onInts_inv
/-- the factors' bits: together below a million -/
def mulFits (i j : Int) : Bool := decide (i.natAbs.log2 + j.natAbs.log2 < 1000000)
def pMul : P2 := onInts mulFits fun i j => .int (i * j)
theorem op_pMul {X : Cx} {T : List Cls} : OpP X T (binaryOp .Mult) pMul := op_ints op_mulW (fun i j h => show CMulW i j from of_decide_eq_true (p := i.natAbs.log2 + j.natAbs.log2 < 1000000) h) (fun _ _ _ _ => rep_int.mpr rfl) onInts_inv
/-- floor division by a positive divisor below 2 ^ 9000 -/
def divFits (_ j : Int) : Bool := decide (0 < j ∧ j.natAbs.log2 < 9000)
def pDiv : P2 := onInts divFits fun i j => .int (i / j)
theorem op_pDiv {X : Cx} {T : List Cls} : OpP X T (binaryOp .FloorDiv) pDiv := op_ints op_fdivW (fun i j h => show CDivW i j from of_decide_eq_true (p := 0 < j ∧ j.natAbs.log2 < 9000) h) (fun _ _ _ _ => rep_int.mpr rfl) onInts_inv
def modFits (_ j : Int) : Bool := decide (0 < j)
def pMod : P2 := onInts modFits fun i j => .int (i % j)
theorem op_pMod {X : Cx} {T : List Cls} : OpP X T (binaryOp .Mod) pMod := op_ints op_mod (fun _ _ h => of_decide_eq_true h) (fun _ _ _ _ => rep_int.mpr rfl) onInts_inv
def powFits (i j : Int) : Bool := decide (0 ≤ j ∧ j ≤ 1000000 ∧ i.natAbs < 2 ^ 64)
def pPow : P2 := onInts powFits fun i j => .int (i ^ j.toNat)
theorem op_pPow {X : Cx} {T : List Cls} : OpP X T (binaryOp .Pow) pPow := op_ints op_pow (fun i j h => show CPow i j from of_decide_eq_true (p := 0 ≤ j ∧ j ≤ 1000000 ∧ i.natAbs < 2 ^ 64) h) (fun _ _ _ _ => rep_int.mpr rfl) onInts_inv
/-! ### order of ints -/
def pLt : P2 := onInts yes2 fun i j => .bl (decide (i < j))
def pLe : P2 := onInts yes2 fun i j => .bl (decide (i ≤ j))
def pGt : P2 := onInts yes2 fun i j => .bl (decide (j < i))
def pGe : P2 := onInts yes2 fun i j => .bl (decide (j ≤ i))
theorem op_pLt {X : Cx} {T : List Cls} : OpP X T (compareOp .Lt) pLt := op_ints (rI_of0 op_lt) (fun _ _ _ => trivial) (fun _ _ _ _ => rep_bl.mpr rfl) onInts_inv
theorem op_pLe {X : Cx} {T : List Cls} : OpP X T (compareOp .LtE) pLe := op_ints (rI_of0 op_le) (fun _ _ _ => trivial) (fun _ _ _ _ => rep_bl.mpr rfl) onInts_inv
theorem op_pGt {X : Cx} {T : List Cls} : OpP X T (compareOp .Gt) pGt := op_ints (rI_of0 op_gt) (fun _ _ _ => trivial) (fun _ _ _ _ => rep_bl.mpr rfl) onInts_inv
theorem op_pGe {X : Cx} {T : List Cls} : OpP X T (compareOp .GtE) pGe := op_ints (rI_of0 op_ge) (fun _ _ _ => trivial) (fun _ _ _ _ => rep_bl.mpr rfl) onInts_inv
/-! ### equality of data -/
mutual
/-- what == sees: lists by their items; fuel for the depth -/
def toPy (S : Store) : Nat → D → Option PyData
  | _, .non => some .none
  | _, .bl b => some (.bool b)
  | _, .int i => some (.int i)
  | _, .str x => some (.str x)
  | 0, _ => none
  | k + 1, .tup ds => (toPys S k ds).map .tuple
  | k + 1, .ref n => match rdL S n with
    | some ds => (toPys S k ds).map .list
    | none => none
  | _ + 1, .exn _ _ => none
def toPys (S : Store) : Nat → List D → Option (List PyData)
  | _, [] => some []
  | 0, _ :: _ => none
  | k + 1, d :: ds => match toPy S k d, toPys S (k + 1) ds with
    | some x, some xs => some (x :: xs)
    | _, _ => none
end
end Lay

set_option Elab.async false
set_option linter.all false
set_option maxRecDepth 100000
set_option maxHeartbeats 4000000
/-! L1b: equality, truth, kinds; expressions. -/
namespace Lay
open PySem PySem.Spec PyProof.Rows L2
section
variable {C : Ctx} {ρ : List Addr} {H : Hp} {S : Store}
mutual
theorem toPy_dp (s : SRep C ρ H S) : ∀ (k : Nat) (d : D) (v : V) (p : PyData), Rep C ρ H d v → toPy S k d = some p → Dp C.K H v p
  | k, .non, v, p, r, e => by cases k <;> (simp only [toPy] at e; cases e; rw [rep_non.mp r]; exact .non)
  | k, .bl b, v, p, r, e => by cases k <;> (simp only [toPy] at e; cases e; rw [rep_bl.mp r]; exact .bl b)
  | k, .int i, v, p, r, e => by cases k <;> (simp only [toPy] at e; cases e; rw [rep_int.mp r]; exact .int i)
  | k, .str x, v, p, r, e => by cases k <;> (simp only [toPy] at e; cases e; rw [rep_str.mp r]; exact .str x)
  | 0, .tup ds, v, p, r, e => by simp [toPy] at e
  | 0, .ref n, v, p, r, e => by simp [toPy] at e
  | k, .exn c ds, v, p, r, e => by cases k <;> simp [toPy] at e
  | k + 1, .tup ds, v, p, r, e => by
    simp only [toPy] at e
    obtain ⟨ps, e1, e2⟩ := Option.map_eq_some_iff.mp e
    subst e2
    obtain ⟨a, xs, rfl, h1, h2⟩ := rep_tup.mp r
    exact .tup h1 (toPys_dp s k ds xs ps h2 e1)
  | k + 1, .ref n, v, p, r, e => by
    simp only [toPy] at e
    cases h : rdL S n with
    | none => rw [h] at e; cases e
    | some ds =>
      rw [h] at e
      obtain ⟨ps, e1, e2⟩ := Option.map_eq_some_iff.mp e
      subst e2
      obtain ⟨a, xs, rfl, h1, h2⟩ := s.rd r h
      exact .lst h1 (toPys_dp s k ds xs ps h2 e1)
  termination_by k d => (k, 0)
theorem toPys_dp (s : SRep C ρ H S) : ∀ (k : Nat) (ds : List D) (vs : List V) (ps : List PyData), Reps C ρ H ds vs → toPys S k ds = some ps → DpAll C.K H vs ps
  | k, [], vs, ps, r, e => by
    have e' : toPys S k [] = some [] := by cases k <;> simp only [toPys]
    rw [e'] at e
    cases e
    rw [r.nil_inv]
    exact .nil
  | 0, d :: ds, vs, ps, r, e => by simp [toPys] at e
  | k + 1, d :: ds, vs, ps, r, e => by
    simp only [toPys] at e
    obtain ⟨v, ws, rfl, r1, r2⟩ := r.inv
    split at e
    · rename_i x xs e1 e2
      cases e
      exact .cons (toPy_dp s k d v x r1 e1) (toPys_dp s (k + 1) ds ws xs r2 e2)
    · cases e
  termination_by k ds => (k, ds.length + 1)
end
end
def pEqB (x y : D) (S : Store) : Option Bool := match toPy S 140 x, toPy S 140 y with
  | some a, some b => if SeqAt.shaped a && SeqAt.shaped b then some (PyData.eqv a b) else none
  | _, _ => none
def pEq : P2 := fun x y S => (pEqB x y S).map fun b => (.bl b, S)
def pNe : P2 := fun x y S => (pEqB x y S).map fun b => (.bl (!b), S)
theorem pEqB_inv {x y : D} {S : Store} {b : Bool} (h : pEqB x y S = some b) : ∃ p q, toPy S 140 x = some p ∧ toPy S 140 y = some q ∧ SeqAt.shaped p = true ∧ SeqAt.shaped q = true ∧ b = PyData.eqv p q := by
  unfold pEqB at h
  split at h
  · rename_i p q e1 e2
    split at h
    · rename_i z
      cases h
      obtain ⟨z1, z2⟩ := Bool.and_eq_true_iff.mp z
      exact ⟨p, q, e1, e2, z1, z2, rfl⟩
    · cases h
  · cases h
theorem op_pEq {X : Cx} {T : List Cls} (hu : X.A.units + 64 < cLine) : OpP X T (compareOp .Eq) pEq := OpP.of fun dx dy ρ S x y H Q h1 h2 h3 h4 => by
  obtain ⟨z, hz, k⟩ := h4
  obtain ⟨b, e, rfl⟩ := Option.map_eq_some_iff.mp hz
  obtain ⟨p, q, e1, e2, z1, z2, rfl⟩ := pEqB_inv e
  exact ⟨_, op_eqD hu, p, q, toPy_dp h3 _ _ _ _ h1 e1, toPy_dp h3 _ _ _ _ h2 e2, z1, z2, k _ _ _ Le.refl h3 (rep_bl.mpr rfl)⟩
theorem op_pNe {X : Cx} {T : List Cls} (hu : X.A.units + 64 < cLine) : OpP X T (compareOp .NotEq) pNe := OpP.of fun dx dy ρ S x y H Q h1 h2 h3 h4 => by
  obtain ⟨z, hz, k⟩ := h4
  obtain ⟨b, e, rfl⟩ := Option.map_eq_some_iff.mp hz
  obtain ⟨p, q, e1, e2, z1, z2, rfl⟩ := pEqB_inv e
  exact ⟨_, op_neD hu, p, q, toPy_dp h3 _ _ _ _ h1 e1, toPy_dp h3 _ _ _ _ h2 e2, z1, z2, k _ _ _ Le.refl h3 (rep_bl.mpr rfl)⟩
/-! ### is -/
def isNon : D → Bool
  | .non => true
  | _ => false
def pIsB (x y : D) : Option Bool := match y with
  | .non => some (isNon x)
  | .bl b => match x with
    | .bl a => some (a == b)
    | _ => none
  | _ => none
def pIs : P2 := fun x y S => (pIsB x y).map fun b => (.bl b, S)
def pIsNot : P2 := fun x y S => (pIsB x y).map fun b => (.bl (!b), S)
theorem isNon_rep {C : Ctx} {ρ : List Addr} {H : Hp} {d : D} {v : V} (r : Rep C ρ H d v) : decide (v = .non) = isNon d := by
  cases d with
  | non => rw [rep_non.mp r]; rfl
  | bl b => rw [rep_bl.mp r]; rfl
  | int i => rw [rep_int.mp r]; rfl
  | str x => rw [rep_str.mp r]; rfl
  | tup ds => obtain ⟨a, xs, rfl, _⟩ := rep_tup.mp r; rfl
  | ref n => obtain ⟨a, _, rfl⟩ := rep_ref.mp r; rfl
  | exn c ds => simp only [Rep] at r; obtain ⟨a, d, xs, rfl, _⟩ := r; rfl
theorem op_pIs {X : Cx} {T : List Cls} : OpP X T (compareOp .Is) pIs := OpP.of fun dx dy ρ S x y H Q h1 h2 h3 h4 => by
  obtain ⟨z, hz, k⟩ := h4
  obtain ⟨b, e, rfl⟩ := Option.map_eq_some_iff.mp hz
  unfold pIsB at e
  split at e
  · cases e
    obtain rfl := rep_non.mp h2
    exact ⟨_, op_isN, rfl, k _ _ _ Le.refl h3 (rep_bl.mpr (by rw [isNon_rep h1]))⟩
  · split at e
    · rename_i b' _ a
      cases e
      obtain rfl := rep_bl.mp h1
      obtain rfl := rep_bl.mp h2
      exact ⟨_, op_isBl, a, b', rfl, rfl, k _ _ _ Le.refl h3 (rep_bl.mpr (by congr 1))⟩
    · cases e
  · cases e
theorem op_pIsNot {X : Cx} {T : List Cls} : OpP X T (compareOp .IsNot) pIsNot := OpP.of fun dx dy ρ S x y H Q h1 h2 h3 h4 => by
  obtain ⟨z, hz, k⟩ := h4
  obtain ⟨b, e, rfl⟩ := Option.map_eq_some_iff.mp hz
  unfold pIsB at e
  split at e
  · cases e
    obtain rfl := rep_non.mp h2
    exact ⟨_, op_notN, rfl, k _ _ _ Le.refl h3 (rep_bl.mpr (by rw [isNon_rep h1]))⟩
  · split at e
    · rename_i b' _ a
      cases e
      obtain rfl := rep_bl.mp h1
      obtain rfl := rep_bl.mp h2
      exact ⟨_, op_notBl, a, b', rfl, rfl, k _ _ _ Le.refl h3 (rep_bl.mpr (by congr 1))⟩
    · cases e
  · cases e
/-! ### truth -/
def pTru (x : D) (S : Store) : Option Bool := match x with
  | .non => some false
  | .bl b => some b
  | .int i => some (i != 0)
  | .str y => if fits y.length then some ((y.length : Int) != 0) else none
  | .tup ds => some (!ds.isEmpty)
  | .ref n => match S[n]? with
    | some (.lst ds) => some (!ds.isEmpty)
    | some (.ro ds) => some (!ds.isEmpty)
    | some (.dct kvs) => some (!kvs.isEmpty)
    | _ => none
  | .exn _ _ => none
theorem Reps.empty {C : Ctx} {ρ : List Addr} {H : Hp} {ds : List D} {xs : List V} (r : Reps C ρ H ds xs) : xs.isEmpty = ds.isEmpty := by
  cases ds with
  | nil => rw [r.nil_inv] <;> rfl
  | cons d ds => obtain ⟨v, vs, rfl, _⟩ := r.inv; rfl
theorem KReps.empty {C : Ctx} {ρ : List Addr} {H : Hp} {ds : List (Key × D)} {xs : List (Key × V)} (r : KReps C ρ H ds xs) : xs.isEmpty = ds.isEmpty := by
  cases r <;> rfl
theorem pTru_ok {C : Ctx} {ρ : List Addr} {H : Hp} {S : Store} {x : D} {v : V} {b : Bool} (s : SRep C ρ H S) (r : Rep C ρ H x v) (e : pTru x S = some b) : TruV C.K v H b := by
  unfold pTru at e
  split at e
  · cases e; rw [rep_non.mp r]; rfl
  · cases e; rw [rep_bl.mp r]; rfl
  · cases e; rw [rep_int.mp r]; rfl
  · split at e
    · rename_i hf
      cases e; rw [rep_str.mp r]; exact ⟨fits_line hf, rfl⟩
    · cases e
  · cases e
    obtain ⟨a, xs, rfl, h1, h2⟩ := rep_tup.mp r
    exact .inr (.inl ⟨xs, h1, by rw [h2.empty]⟩)
  · rename_i n
    split at e
    · rename_i ds hs
      cases e
      obtain ⟨a, xs, h1, rfl, h3, h4⟩ := s.lst r hs
      exact .inl ⟨xs, .inl (.inl h3), by rw [h4.empty]⟩
    · rename_i ds hs
      cases e
      obtain ⟨a, xs, rfl, h3, h4⟩ := s.rd r (show rdL S n = some ds by unfold rdL; rw [hs])
      exact .inl ⟨xs, h3, by rw [h4.empty]⟩
    · rename_i kvs hs
      cases e
      obtain ⟨a, h1, rfl⟩ := rep_ref.mp r
      obtain ⟨ws, h3, h4⟩ := s.at_ n a _ h1 hs
      exact .inr (.inr ⟨ws, h3, by rw [h4.empty]⟩)
    · cases e
  · cases e

/-! ### expressions -/
section
variable {X : Cx} {T : List Cls} {W : WX} {a b c e : Expr} {fa fb fc m : EE} {pos : Pos}
def eVar (i : Nat) : EE := fun sd S => match sd[i]? with
  | some (some d) => .ok d S
  | _ => .bad
theorem e_var {i : Nat} (h : PE X e (tVar i)) : PE X e (LE (cx X T) W (eVar i)) := h.imp fun σ H Q ⟨sd, ρ, S, h1, h2, h3⟩ => by
  unfold eVar at h3
  split at h3
  · rename_i d e
    obtain ⟨v, e1, r⟩ := h1.at_ i d e
    exact ⟨v, e1, h3 v ρ H Le.refl h2 r⟩
  · exact h3.elim
def eC (d : D) : EE := fun _ S => .ok d S
theorem e_c {d : D} {v : V} (h : PE X e (tC v)) (r : ∀ ρ H, Rep (cx X T) ρ H d v) : PE X e (LE (cx X T) W (eC d)) := h.imp fun σ H Q ⟨sd, ρ, S, h1, h2, h3⟩ => h3 v ρ H Le.refl h2 (r ρ H)
theorem e_int {i : Int} {j : Nat} : PE X (.Constant (.int i) j pos) (LE (cx X T) W (eC (.int i))) := e_c pe_int fun _ _ => rep_int.mpr rfl
theorem e_bl {i : Bool} {j : Nat} : PE X (.Constant (.bool i) j pos) (LE (cx X T) W (eC (.bl i))) := e_c pe_bl fun _ _ => rep_bl.mpr rfl
theorem e_non {j : Nat} : PE X (.Constant .none j pos) (LE (cx X T) W (eC .non)) := e_c pe_non fun _ _ => rep_non.mpr rfl
theorem e_str {i : Str} {j : Nat} : PE X (.Constant (.str i) j pos) (LE (cx X T) W (eC (.str i))) := e_c pe_str fun _ _ => rep_str.mpr rfl
def eBin (g : P2) (fa fb : EE) : EE := eBind fa fun x => eBind fb fun y => fun _ S => .ofO (g x y S)
theorem eBin_run {g : P2} {σ : St} {H : Hp} {Q : VK} (h : LE (cx X T) W (eBin g fa fb) σ H Q) : tOp (rP (cx X T) g) (LE (cx X T) W fa) (LE (cx X T) W fb) σ H Q := by
  obtain ⟨sd, ρ, S, h1, h2, h3⟩ := h
  refine LG.run h1 h2 h3 fun dx x ρ1 S1 H1 l1 s1 r1 k1 => ?_
  refine LG.run (h1.le l1) s1 k1 fun dy y ρ2 S2 H2 l2 s2 r2 k2 => ?_
  exact ⟨dx, dy, ρ2, S2, Rep.le l2 r1, r2, s2, k2.pr⟩
theorem e_bin {op : Operator} {g : P2} (ho : OpP X T (binaryOp op) g) (ha : PE X a (LE (cx X T) W fa)) (hb : PE X b (LE (cx X T) W fb)) : PE X (.BinOp a op b pos) (LE (cx X T) W (eBin g fa fb)) :=
  (pe_op ho ha hb).imp fun _ _ _ h => eBin_run h
theorem e_cmp {op : CmpOp} {g : P2} (ho : OpP X T (compareOp op) g) (ha : PE X a (LE (cx X T) W fa)) (hb : PE X b (LE (cx X T) W fb)) (hm : behindInMarks op b = false) : PE X (.Compare a [op] [b] pos) (LE (cx X T) W (eBin g fa fb)) :=
  (pe_cmpR ho ha hb hm).imp fun _ _ _ h => eBin_run h
/-- a value that must be a bool -/
def asB (m : EE) : EB := eBind m fun x => fun _ S => match x with
  | .bl b => .ok b S
  | _ => .bad
theorem asB_run {σ : St} {H : Hp} {Q : Bool → Hp → Prop} (h : LB (cx X T) W (asB m) σ H Q) : LE (cx X T) W m σ H fun x H' => ∃ k, x = .bl k ∧ Q k H' := by
  obtain ⟨sd, ρ, S, h1, h2, h3⟩ := h
  refine LG.run h1 h2 h3 fun dx x ρ1 S1 H1 l1 s1 r1 k1 => ?_
  split at k1
  · rename_i b
    exact ⟨b, rep_bl.mp r1, k1 b ρ1 H1 Le.refl s1 rfl⟩
  · exact k1.elim
theorem t_cmp {op : CmpOp} {g : P2} (ho : OpP X T (compareOp op) g) (ha : PE X a (LE (cx X T) W fa)) (hb : PE X b (LE (cx X T) W fb)) (hm : behindInMarks op b = false) : PT X (.Compare a [op] [b] pos) (LB (cx X T) W (asB (eBin g fa fb))) :=
  (pt_cmpR ho ha hb hm).imp fun _ _ _ h => by
    unfold tTest
    have z := asB_run h
    obtain ⟨sd, ρ, S, h1, h2, h3⟩ := z
    exact eBin_run ⟨sd, ρ, S, h1, h2, h3⟩
/-- a op b op' c -/
def eChain (g g' : P2) (fa fb fc : EE) : EE := eBind fa fun x => eBind fb fun y => eBind (fun _ S => .ofO (g x y S)) fun z => match z with
  | .bl true => eBind fc fun w => fun _ S => .ofO (g' y w S)
  | .bl false => fun _ S => .ok (.bl false) S
  | _ => fun _ _ => .bad
theorem eChain_run {g g' : P2} {σ : St} {H : Hp} {Q : VK} (h : LE (cx X T) W (eChain g g' fa fb fc) σ H Q) : tChain (rP (cx X T) g) (rP (cx X T) g') (LE (cx X T) W fa) (LE (cx X T) W fb) (LE (cx X T) W fc) σ H Q := by
  obtain ⟨sd, ρ, S, h1, h2, h3⟩ := h
  refine LG.run h1 h2 h3 fun dx x ρ1 S1 H1 l1 s1 r1 k1 => ?_
  refine LG.run (h1.le l1) s1 k1 fun dy y ρ2 S2 H2 l2 s2 r2 k2 => ?_
  have L2 := l1.trans l2
  refine ⟨dx, dy, ρ2, S2, Rep.le l2 r1, r2, s2, ?_⟩
  rw [eBind_of] at k2
  cases e : g dx dy S2 with
  | none => simp only [e, ofO_none, bind_bad] at k2; exact k2.elim
  | some z =>
    obtain ⟨dz, S3⟩ := z
    simp only [e, ofO_some, bind_ok] at k2
    refine ⟨(dz, S3), rfl, fun v ρ3 H3 l3 s3 r3 => ?_⟩
    have k3 := EndR.base l3 k2
    split at k3
    · refine ⟨true, rep_bl.mp r3, ?_⟩
      rw [if_pos rfl]
      refine LG.run (h1.le (L2.trans l3)) s3 k3 fun dw w ρ4 S4 H4 l4 s4 r4 k4 => ?_
      exact ⟨dy, dw, ρ4, S4, Rep.le (l3.trans l4) r2, r4, s4, k4.pr⟩
    · refine ⟨false, rep_bl.mp r3, ?_⟩
      rw [if_neg Bool.false_ne_true]
      exact k3 _ ρ3 H3 Le.refl s3 (rep_bl.mpr rfl)
    · exact k3.elim
theorem e_chain {op op' : CmpOp} {g g' : P2} (ho : OpP X T (compareOp op) g) (ho' : OpP X T (compareOp op') g') (ha : PE X a (LE (cx X T) W fa)) (hb : PE X b (LE (cx X T) W fb)) (hc : PE X c (LE (cx X T) W fc)) (hm : lastMarks [op, op'] [b, c] = false) :
    PE X (.Compare a [op, op'] [b, c] pos) (LE (cx X T) W (eChain g g' fa fb fc)) := (pe_chain ho ho' ha hb hc hm).imp fun _ _ _ h => eChain_run h
theorem t_chain {op op' : CmpOp} {g g' : P2} (ho : OpP X T (compareOp op) g) (ho' : OpP X T (compareOp op') g') (ha : PE X a (LE (cx X T) W fa)) (hb : PE X b (LE (cx X T) W fb)) (hc : PE X c (LE (cx X T) W fc)) (hm : lastMarks [op, op'] [b, c] = false) :
    PT X (.Compare a [op, op'] [b, c] pos) (LB (cx X T) W (asB (eChain g g' fa fb fc))) := (pt_chain ho ho' ha hb hc hm).imp fun _ _ _ h => by
    unfold tTest
    have z := asB_run h
    obtain ⟨sd, ρ, S, h1, h2, h3⟩ := z
    exact eChain_run ⟨sd, ρ, S, h1, h2, h3⟩
/-- a value's truth -/
def eTru (m : EE) : EB := eBind m fun x => fun _ S => .ofO ((pTru x S).map fun b => (b, S))
theorem eTru_run {σ : St} {H : Hp} {Q : Bool → Hp → Prop} (h : LB (cx X T) W (eTru m) σ H Q) : LE (cx X T) W m σ H fun x H' => ∃ k, TruV X.K x H' k ∧ Q k H' := by
  obtain ⟨sd, ρ, S, h1, h2, h3⟩ := h
  refine LG.run h1 h2 h3 fun dx x ρ1 S1 H1 l1 s1 r1 k1 => ?_
  obtain ⟨z, e, k⟩ := k1.pr
  obtain ⟨b, e1, rfl⟩ := Option.map_eq_some_iff.mp e
  exact ⟨b, pTru_ok s1 r1 e1, k b ρ1 H1 Le.refl s1 rfl⟩
theorem t_tru (ha : PE X a (LE (cx X T) W fa)) (he : ∀ whole, isTrue a X.env whole = (do let v ← whole; standAt a.pos; holding [v] (truthy v))) : PT X a (LB (cx X T) W (eTru fa)) :=
  (pt_truth ha he).imp fun _ _ _ h => eTru_run h
variable {ta tb tc : EB} {rest : List Expr}
def bNot (t : EB) : EB := eBind t fun b => fun _ S => .ok (!b) S
theorem t_not (ha : PT X a (LB (cx X T) W ta)) : PT X (.UnaryOp .Not a pos) (LB (cx X T) W (bNot ta)) := (pt_not ha).imp fun σ H Q ⟨sd, ρ, S, h1, h2, h3⟩ => by
  refine LG.run h1 h2 h3 fun dx x ρ1 S1 H1 l1 s1 r1 k1 => ?_
  cases r1
  exact k1 _ ρ1 H1 Le.refl s1 rfl
def bAnd (t u : EB) : EB := eBind t fun b => if b then u else fun _ S => .ok false S
def bOr (t u : EB) : EB := eBind t fun b => if b then fun _ S => .ok true S else u
theorem LG.of {α β : Type} {C : Ctx} {RA : α → β → List Addr → Hp → Prop} {m : SD → Store → Res α} {σ : St} {H : Hp} {Q : β → Hp → Prop} {sd : SD} {ρ : List Addr} {S : Store} (h1 : Slots C ρ H sd σ) (h2 : SRep C ρ H S) (h3 : EndR C W σ ρ H RA (m sd S) Q) : LG C RA W m σ H Q := ⟨sd, ρ, S, h1, h2, h3⟩
theorem t_and (ha : PT X a (LB (cx X T) W ta)) (hb : PW X (.BoolOp .And (b :: rest) pos) (LB (cx X T) W tb)) : PW X (.BoolOp .And (a :: b :: rest) pos) (LB (cx X T) W (bAnd ta tb)) := by
  have z := pw_and ha hb
  refine ⟨fun wh pins s σ H Q I h => z.run wh pins s σ H Q I ?_⟩
  obtain ⟨sd, ρ, S, h1, h2, h3⟩ := h
  refine LG.run h1 h2 h3 fun dx x ρ1 S1 H1 l1 s1 r1 k1 => ?_
  cases r1
  cases dx with
  | true => exact LG.of (h1.le l1) s1 k1
  | false => exact k1 _ ρ1 H1 Le.refl s1 rfl
theorem t_or (ha : PT X a (LB (cx X T) W ta)) (hb : PW X (.BoolOp .Or (b :: rest) pos) (LB (cx X T) W tb)) : PW X (.BoolOp .Or (a :: b :: rest) pos) (LB (cx X T) W (bOr ta tb)) := by
  have z := pw_or ha hb
  refine ⟨fun wh pins s σ H Q I h => z.run wh pins s σ H Q I ?_⟩
  obtain ⟨sd, ρ, S, h1, h2, h3⟩ := h
  refine LG.run h1 h2 h3 fun dx x ρ1 S1 H1 l1 s1 r1 k1 => ?_
  cases r1
  cases dx with
  | false => exact LG.of (h1.le l1) s1 k1
  | true => exact k1 _ ρ1 H1 Le.refl s1 rfl
/-- .. as values, by truth -/
def eOr (fa fb : EE) : EE := eBind fa fun x => eBind (fun _ S => .ofO ((pTru x S).map fun b => (b, S))) fun b => if b then fun _ S => .ok x S else fb
def eAnd (fa fb : EE) : EE := eBind fa fun x => eBind (fun _ S => .ofO ((pTru x S).map fun b => (b, S))) fun b => if b then fb else fun _ S => .ok x S
theorem e_or (ha : PE X a (LE (cx X T) W fa)) (hb : PE X (.BoolOp .Or (b :: rest) pos) (LE (cx X T) W fb)) : PE X (.BoolOp .Or (a :: b :: rest) pos) (LE (cx X T) W (eOr fa fb)) := (pe_orT ha hb).imp fun σ H Q ⟨sd, ρ, S, h1, h2, h3⟩ => by
  refine LG.run h1 h2 h3 fun dx x ρ1 S1 H1 l1 s1 r1 k1 => ?_
  rw [eBind_of] at k1
  cases e : pTru dx S1 with
  | none => simp only [e, Option.map_none, ofO_none, bind_bad] at k1; exact k1.elim
  | some k =>
    simp only [e, Option.map_some, ofO_some, bind_ok] at k1
    refine ⟨k, pTru_ok s1 r1 e, ?_⟩
    cases k with
    | true => rw [if_pos rfl]; exact k1 x ρ1 H1 Le.refl s1 r1
    | false => rw [if_neg Bool.false_ne_true]; exact LG.of (h1.le l1) s1 k1
theorem e_and (ha : PE X a (LE (cx X T) W fa)) (hb : PE X (.BoolOp .And (b :: rest) pos) (LE (cx X T) W fb)) : PE X (.BoolOp .And (a :: b :: rest) pos) (LE (cx X T) W (eAnd fa fb)) := (pe_andT ha hb).imp fun σ H Q ⟨sd, ρ, S, h1, h2, h3⟩ => by
  refine LG.run h1 h2 h3 fun dx x ρ1 S1 H1 l1 s1 r1 k1 => ?_
  rw [eBind_of] at k1
  cases e : pTru dx S1 with
  | none => simp only [e, Option.map_none, ofO_none, bind_bad] at k1; exact k1.elim
  | some k =>
    simp only [e, Option.map_some, ofO_some, bind_ok] at k1
    refine ⟨k, pTru_ok s1 r1 e, ?_⟩
    cases k with
    | false => rw [if_neg Bool.false_ne_true]; exact k1 x ρ1 H1 Le.refl s1 r1
    | true => rw [if_pos rfl]; exact LG.of (h1.le l1) s1 k1
def eNot (fa : EE) : EE := eBind (eTru fa) fun b => fun _ S => .ok (.bl (!b)) S
theorem e_not (ha : PE X a (LE (cx X T) W fa)) : PE X (.UnaryOp .Not a pos) (LE (cx X T) W (eNot fa)) := (pe_notT ha).imp fun σ H Q ⟨sd, ρ, S, h1, h2, h3⟩ => by
  unfold eNot eTru at h3
  have e : eBind (eBind fa fun x => fun _ S => .ofO ((pTru x S).map fun b => (b, S))) (fun b => fun (_ : SD) S => Res.ok (D.bl (!b)) S) sd S = eBind fa (fun x => eBind (fun _ S => .ofO ((pTru x S).map fun b => (b, S))) (fun b => fun _ S => .ok (.bl (!b)) S)) sd S := by
    unfold eBind
    cases fa sd S <;> rfl
  rw [e] at h3
  refine LG.run h1 h2 h3 fun dx x ρ1 S1 H1 l1 s1 r1 k1 => ?_
  rw [eBind_of] at k1
  cases e : pTru dx S1 with
  | none => simp only [e, Option.map_none, ofO_none, bind_bad] at k1; exact k1.elim
  | some k =>
    simp only [e, Option.map_some, ofO_some, bind_ok] at k1
    exact ⟨k, pTru_ok s1 r1 e, k1 _ ρ1 H1 Le.refl s1 (rep_bl.mpr rfl)⟩
/-- a if t else b -/
def eIf (t : EB) (fa fb : EE) : EE := eBind t fun k => if k then fa else fb
theorem e_if (hc : PT X c (LB (cx X T) W tc)) (ha : PE X a (LE (cx X T) W fa)) (hb : PE X b (LE (cx X T) W fb)) : PE X (.IfExp c a b pos) (LE (cx X T) W (eIf tc fa fb)) := (pe_ifExp hc ha hb).imp fun σ H Q ⟨sd, ρ, S, h1, h2, h3⟩ => by
  refine LG.run h1 h2 h3 fun dx x ρ1 S1 H1 l1 s1 r1 k1 => ?_
  cases r1
  cases dx with
  | true => exact LG.of (h1.le l1) s1 k1
  | false => exact LG.of (h1.le l1) s1 k1
end
end Lay

set_option Elab.async false
set_option linter.all false
set_option maxRecDepth 100000
set_option maxHeartbeats 4000000
/-! L2x: arguments, displays, items, slices, built-ins, methods. -/
namespace Lay
open PySem PySem.Spec PyProof.Rows L2
section
variable {X : Cx} {T : List Cls} {W : WX} {a b c e : Expr} {es : List Expr} {fa fb fc m : EE} {aa : EA} {pos p : Pos}
/-! ### arguments -/
def aNil : EA := fun _ S => .ok [] S
def aCons (fa : EE) (aa : EA) : EA := eBind fa fun x => eBind aa fun xs => fun _ S => .ok (x :: xs) S
theorem a_nil : PA X [] (LA (cx X T) W aNil) := pa_nil.imp fun σ H Q ⟨sd, ρ, S, h1, h2, h3⟩ => h3 [] ρ H Le.refl h2 Reps.nil
theorem a_cons (ha : PE X e (LE (cx X T) W fa)) (hr : PA X es (LA (cx X T) W aa)) (hs : starEach (e :: es) X.env = (false, eval e X.env) :: starEach es X.env := by rfl) : PA X (e :: es) (LA (cx X T) W (aCons fa aa)) :=
  (pa_cons ha hr hs).imp fun σ H Q ⟨sd, ρ, S, h1, h2, h3⟩ => by
    refine LG.run h1 h2 h3 fun dx x ρ1 S1 H1 l1 s1 r1 k1 => ?_
    refine LG.run (h1.le l1) s1 k1 fun dy y ρ2 S2 H2 l2 s2 r2 k2 => ?_
    exact k2 _ ρ2 H2 Le.refl s2 (Reps.cons (Rep.le l2 r1) r2)
/-! ### displays -/
def eTup (aa : EA) : EE := eBind aa fun xs => fun _ S => if fits xs.length then .ok (.tup xs) S else .bad
def eLst (aa : EA) : EE := eBind aa fun xs => fun _ S => if fits xs.length then .ok (.ref S.length) (S ++ [.lst xs]) else .bad
theorem e_tup {x1} (h : PA X es (LA (cx X T) W aa)) : PE X (.Tuple es x1 pos) (LE (cx X T) W (eTup aa)) := (pe_tup h).imp fun σ H Q ⟨sd, ρ, S, h1, h2, h3⟩ => by
  refine LG.run h1 h2 h3 fun dx x ρ1 S1 H1 l1 s1 r1 k1 => ?_
  split at k1
  · rename_i hf
    refine ⟨by rw [← Reps.length r1]; exact fits_line hf, fun p hp => ?_⟩
    exact kTup (fun b ρ' H' l s r => k1 b ρ' H' l s r) s1 hp r1
  · exact k1.elim
theorem e_lst (h : PA X es (LA (cx X T) W aa)) : PE X (.List es pos) (LE (cx X T) W (eLst aa)) := (pe_lst h).imp fun σ H Q ⟨sd, ρ, S, h1, h2, h3⟩ => by
  refine LG.run h1 h2 h3 fun dx x ρ1 S1 H1 l1 s1 r1 k1 => ?_
  split at k1
  · rename_i hf
    refine ⟨by rw [← Reps.length r1]; exact fits_line hf, fun p hp => ?_⟩
    exact kPush (fun b ρ' H' l s r => k1 b ρ' H' l s r) s1 hp ⟨x, upd_same, Reps.le (Le.newR hp) r1⟩
  · exact k1.elim
/-! ### items -/
theorem atI_rep {C : Ctx} {ρ : List Addr} {H : Hp} {ds : List D} {xs : List V} {i : Int} {d : D} (r : Reps C ρ H ds xs) (e : atI ds i = some d) : ∃ v, atI xs i = some v ∧ Rep C ρ H d v := by
  unfold atI at e ⊢
  rw [← r.length]
  cases h : ixN ds.length i with
  | none => rw [h] at e; cases e
  | some j =>
    rw [h] at e
    obtain ⟨v, h1, h2⟩ := r.get (i := j) e
    exact ⟨v, h1, h2⟩
def pIx : P2 := fun x y S => match x, y with
  | .tup ds, .int i => (atI ds i).map fun d => (d, S)
  | .ref n, .int i => match rdL S n with
    | some ds => (atI ds i).map fun d => (d, S)
    | none => none
  | .str z, .int i => if fits z.length then (atI z.cps.toList i).map fun c => (.str ⟨#[c]⟩, S) else none
  | _, _ => none
theorem ix_ok : IxR X (rP (cx X T) pIx) := by
  intro value slice pins s σ H x y v u Q I rx ry ⟨dx, dy, ρ, S, h1, h2, h3, z, hz, k⟩ hsub
  have go : rIx X.K x y H Q := by
    unfold pIx at hz
    split at hz
    · rename_i ds i
      obtain ⟨d, e, rfl⟩ := Option.map_eq_some_iff.mp hz
      obtain ⟨a, xs, rfl, q1, q2⟩ := rep_tup.mp h1
      obtain rfl := rep_int.mp h2
      obtain ⟨v, e1, r⟩ := atI_rep q2 e
      exact .inr (.inl ⟨a, xs, i, v, rfl, rfl, q1, e1, k _ _ _ Le.refl h3 r⟩)
    · rename_i n i
      split at hz
      · rename_i ds hd
        obtain ⟨d, e, rfl⟩ := Option.map_eq_some_iff.mp hz
        obtain ⟨a, xs, rfl, q1, q2⟩ := h3.rd h1 hd
        obtain rfl := rep_int.mp h2
        obtain ⟨v, e1, r⟩ := atI_rep q2 e
        exact .inl ⟨a, xs, i, v, rfl, rfl, q1, e1, k _ _ _ Le.refl h3 r⟩
      · cases hz
    · rename_i z i
      split at hz
      · rename_i hf
        obtain ⟨c, e, rfl⟩ := Option.map_eq_some_iff.mp hz
        obtain rfl := rep_str.mp h1
        obtain rfl := rep_int.mp h2
        exact .inr (.inr ⟨z, i, c, rfl, rfl, fits_line hf, e, k _ _ _ Le.refl h3 (rep_str.mpr rfl)⟩)
      · cases hz
    · cases hz
  exact ix_seq value slice pins s σ H x y v u Q I rx ry go hsub
theorem e_ix (ha : PE X a (LE (cx X T) W fa)) (hb : PE X b (LE (cx X T) W fb)) (hs : PlainIx b) : PE X (.Subscript a b pos) (LE (cx X T) W (eBin pIx fa fb)) := (pe_ix ix_ok ha hb hs).imp fun _ _ _ h => eBin_run h
/-! ### slices -/
abbrev EO := SD → Store → Res (Option Int)
def oNone : EO := fun _ S => .ok none S
def oSome (m : EE) : EO := eBind m fun x => fun _ S => match x with
  | .int i => .ok (some i) S
  | _ => .bad
abbrev RO : Option Int → Option Int → List Addr → Hp → Prop := fun a b _ _ => a = b
abbrev LO (C : Ctx) (W : WX) (m : EO) : TO := LG C RO W m
theorem _root_.L2.PO.imp {X : Cx} {e : Option Expr} {t t' : TO} (h : PO X e t) (k : ∀ σ H Q, t' σ H Q → t σ H Q) : PO X e t' := ⟨fun pins s σ H Q I q => h.run pins s σ H Q I (k σ H Q q)⟩
theorem o_none : PO X none (LO (cx X T) W oNone) := po_none.imp fun σ H Q ⟨sd, ρ, S, h1, h2, h3⟩ => h3 none ρ H Le.refl h2 rfl
theorem o_some (ha : PE X a (LE (cx X T) W fa)) : PO X (some a) (LO (cx X T) W (oSome fa)) := (po_some ha).imp fun σ H Q ⟨sd, ρ, S, h1, h2, h3⟩ => by
  refine LG.run h1 h2 h3 fun dx x ρ1 S1 H1 l1 s1 r1 k1 => ?_
  split at k1
  · rename_i i
    exact ⟨i, rep_int.mp r1, k1 _ ρ1 H1 Le.refl s1 rfl⟩
  · exact k1.elim
def cutD (xs : List D) (lo hi : Option Int) : List D := (xs.drop (HT.sIx xs.length 0 lo)).take (HT.sIx xs.length xs.length hi - HT.sIx xs.length 0 lo)
theorem cutD_rep {C : Ctx} {ρ : List Addr} {H : Hp} {ds : List D} {xs : List V} {lo hi : Option Int} (r : Reps C ρ H ds xs) : Reps C ρ H (cutD ds lo hi) (cutV xs lo hi) := by
  unfold cutD cutV
  rw [r.length]
  exact (r.drop _).take _
def pSl (x : D) (lo hi : Option Int) (S : Store) : Pr D := match x with
  | .ref n => match rdL S n with
    | some ds => some (.ref S.length, S ++ [.lst (cutD ds lo hi)])
    | none => none
  | .str z => if fits z.length then some (.str (cutS z lo hi), S) else none
  | .tup ds => some (.tup (cutD ds lo hi), S)
  | _ => none
def rSlD (C : Ctx) : V → Option Int → Option Int → Hp → VK → Prop := fun x lo hi H Q => ∃ dx ρ S, Rep C ρ H dx x ∧ SRep C ρ H S ∧ EndP C ρ H (RD C) (pSl dx lo hi S) Q
theorem cutV_whole {xs : List V} {lo hi : Option Int} (h : HT.sIx xs.length 0 lo = 0 ∧ HT.sIx xs.length xs.length hi = xs.length) : cutV xs lo hi = xs := by
  unfold cutV
  rw [h.1, h.2]
  simp
theorem sl_ok : SlR X (rSlD (cx X T)) := by
  intro pins s σ H x v vl vu lo hi sl Q I rx hs pl pu ⟨dx, ρ, S, h1, h3, z, hz, k⟩
  unfold pSl at hz
  split at hz
  · rename_i n
    split at hz
    · rename_i ds hd
      cases hz
      obtain ⟨a, xs, rfl, q1, q2⟩ := h3.rd h1 hd
      exact sl_list pins s σ H _ v vl vu lo hi sl Q I rx hs pl pu ⟨a, xs, rfl, q1, fun p hp => kPush k h3 hp ⟨_, upd_same, (cutD_rep q2).le (Le.newR hp)⟩⟩
    · cases hz
  · rename_i z
    split at hz
    · rename_i hf
      cases hz
      obtain rfl := rep_str.mp h1
      exact sl_str pins s σ H _ v vl vu lo hi sl Q I rx hs pl pu ⟨z, rfl, fits_line hf, k _ _ _ Le.refl h3 (rep_str.mpr rfl)⟩
    · cases hz
  · rename_i ds
    cases hz
    obtain ⟨a, xs, rfl, q1, q2⟩ := rep_tup.mp h1
    refine sl_tupA pins s σ H _ v vl vu lo hi sl Q I rx hs pl pu ⟨a, xs, rfl, q1, fun hw => ?_, fun _ p hp => kTup k h3 hp (cutD_rep q2)⟩
    refine k _ _ _ Le.refl h3 (rep_tup.mpr ⟨a, _, rfl, q1, ?_⟩)
    have z := cutD_rep (lo := lo) (hi := hi) q2
    rw [cutV_whole hw] at z
    exact z
  · cases hz
def eSl (fa : EE) (lo hi : EO) : EE := eBind fa fun x => eBind lo fun l => eBind hi fun h => fun _ S => .ofO (pSl x l h S)
theorem e_sl {lo hi : Option Expr} {fl fh : EO} {p2 : Pos} (ha : PE X a (LE (cx X T) W fa)) (hl : PO X lo (LO (cx X T) W fl)) (hh : PO X hi (LO (cx X T) W fh)) : PE X (.Subscript a (.Slice lo hi none p2) pos) (LE (cx X T) W (eSl fa fl fh)) :=
  (pe_slice sl_ok ha hl hh).imp fun σ H Q ⟨sd, ρ, S, h1, h2, h3⟩ => by
    refine LG.run h1 h2 h3 fun dx x ρ1 S1 H1 l1 s1 r1 k1 => ?_
    refine LG.run (h1.le l1) s1 k1 fun dl l ρ2 S2 H2 l2 s2 r2 k2 => ?_
    refine LG.run (h1.le (l1.trans l2)) s2 k2 fun dh h ρ3 S3 H3 l3 s3 r3 k3 => ?_
    cases r2
    cases r3
    exact ⟨dx, ρ3, S3, Rep.le (l2.trans l3) r1, s3, k3.pr⟩
/-! ### calls of built-ins -/
abbrev PN := List D → Store → Pr D
def rN (C : Ctx) (g : PN) : List V → Hp → VK → Prop := fun xs H Q => ∃ ds ρ S, Reps C ρ H ds xs ∧ SRep C ρ H S ∧ EndP C ρ H (RD C) (g ds S) Q
abbrev CallP (X : Cx) (T : List Cls) (f : Value) (g : PN) : Prop := CallR X f (rN (cx X T) g)
theorem CallP.of {f : Value} {g : PN} (h : ∀ ds ρ S xs H Q, Reps (cx X T) ρ H ds xs → SRep (cx X T) ρ H S → EndP (cx X T) ρ H (RD (cx X T)) (g ds S) Q → ∃ r : List V → Hp → VK → Prop, CallR X f r ∧ r xs H Q) : CallP X T f g := by
  intro pins s σ H xs us Q I r ⟨ds, ρ, S, h1, h3, h4⟩
  obtain ⟨r', hr, q⟩ := h ds ρ S xs H Q h1 h3 h4
  exact hr pins s σ H xs us Q I r q
def eCallB (g : PN) (aa : EA) : EE := eBind aa fun xs => fun _ S => .ofO (g xs S)
theorem eCallB_run {g : PN} {σ : St} {H : Hp} {Q : VK} (h : LE (cx X T) W (eCallB g aa) σ H Q) : tCB (rN (cx X T) g) (LA (cx X T) W aa) σ H Q := by
  obtain ⟨sd, ρ, S, h1, h2, h3⟩ := h
  refine LG.run h1 h2 h3 fun dx x ρ1 S1 H1 l1 s1 r1 k1 => ?_
  exact ⟨dx, ρ1, S1, r1, s1, k1.pr⟩
variable {x : Str} {id ty : String} {t : TA}
theorem e_callB {g : PN} (hc : CallP X T (.builtin id) g) (hg : Gl X x) (hm : X.mg x = none) (hv : bootBuiltins x = some (.builtin id)) (ha : PA X (e :: es) (LA (cx X T) W aa)) (hn : x ≠ "__name__" := by decide) (hdb : (x == ("__debug__" : Str)) = false := by decide)
    (he : starEach (e :: es) X.env = (false, eval e X.env) :: starEach es X.env := by rfl) (hpl : (backTo pos (starEach es X.env)).any (·.1) = false := by rfl) : PE X (.Call (.Name x p) (e :: es) [] pos) (LE (cx X T) W (eCallB g aa)) :=
  (pe_callB hc hg hm hv ha hn hdb he hpl).imp fun _ _ _ h => eCallB_run h
theorem e_callTy {g : PN} (hc : CallP X T (.type ty) g) (hg : Gl X x) (hm : X.mg x = none) (hv : bootBuiltins x = some (.type ty)) (ha : PA X (e :: es) (LA (cx X T) W aa)) (hn : x ≠ "__name__" := by decide) (hdb : (x == ("__debug__" : Str)) = false := by decide)
    (he : starEach (e :: es) X.env = (false, eval e X.env) :: starEach es X.env := by rfl) (hpl : (backTo pos (starEach es X.env)).any (·.1) = false := by rfl) : PE X (.Call (.Name x p) (e :: es) [] pos) (LE (cx X T) W (eCallB g aa)) :=
  (pe_callTy hc hg hm hv ha hn hdb he hpl).imp fun _ _ _ h => eCallB_run h
end
section
variable {X : Cx} {T : List Cls}
theorem Reps.one {C : Ctx} {ρ : List Addr} {H : Hp} {d : D} {xs : List V} (r : Reps C ρ H [d] xs) : ∃ v, xs = [v] ∧ Rep C ρ H d v := by
  obtain ⟨v, vs, rfl, h1, h2⟩ := r.inv
  rw [h2.nil_inv]
  exact ⟨v, rfl, h1⟩
theorem Reps.two {C : Ctx} {ρ : List Addr} {H : Hp} {d e : D} {xs : List V} (r : Reps C ρ H [d, e] xs) : ∃ v w, xs = [v, w] ∧ Rep C ρ H d v ∧ Rep C ρ H e w := by
  obtain ⟨v, vs, rfl, h1, h2⟩ := r.inv
  obtain ⟨w, rfl, h3⟩ := h2.one
  exact ⟨v, w, rfl, h1, h3⟩
def lenD (x : D) (S : Store) : Option Nat := match x with
  | .str z => if fits z.length then some z.length else none
  | .tup ds => some ds.length
  | .ref n => match S[n]? with
    | some (.lst ds) => some ds.length
    | some (.ro ds) => some ds.length
    | some (.dct kvs) => some kvs.length
    | _ => none
  | _ => none
def pLen : PN := fun xs S => match xs with
  | [x] => (lenD x S).map fun n => (.int n, S)
  | _ => none
theorem call_pLen : CallP X T (.builtin "len") pLen := CallP.of fun ds ρ S xs H Q h1 h3 ⟨z, hz, k⟩ => by
  unfold pLen at hz
  split at hz
  · rename_i x
    obtain ⟨n, e, rfl⟩ := Option.map_eq_some_iff.mp hz
    obtain ⟨v, rfl, r⟩ := h1.one
    have q : Q (.int n) H := k _ _ _ Le.refl h3 (rep_int.mpr rfl)
    unfold lenD at e
    split at e
    · rename_i y
      split at e
      · rename_i hf
        cases e
        obtain rfl := rep_str.mp r
        exact ⟨_, call_len_str, y, rfl, fits_line hf, q⟩
      · cases e
    · rename_i ds
      cases e
      obtain ⟨a, ys, rfl, q1, q2⟩ := rep_tup.mp r
      exact ⟨_, call_len_seq, a, ys, rfl, .inr q1, by rw [← q2.length]; exact q⟩
    · rename_i m
      split at e
      · rename_i ds hs
        cases e
        obtain ⟨a, ys, rfl, q1, q2⟩ := h3.rd r (show rdL S m = some ds by unfold rdL; rw [hs])
        exact ⟨_, call_len_seq, a, ys, rfl, .inl q1, by rw [← q2.length]; exact q⟩
      · rename_i ds hs
        cases e
        obtain ⟨a, ys, rfl, q1, q2⟩ := h3.rd r (show rdL S m = some ds by unfold rdL; rw [hs])
        exact ⟨_, call_len_seq, a, ys, rfl, .inl q1, by rw [← q2.length]; exact q⟩
      · rename_i kvs hs
        cases e
        obtain ⟨a, q0, rfl⟩ := rep_ref.mp r
        obtain ⟨ws, q1, q2⟩ := h3.at_ m a _ q0 hs
        exact ⟨_, call_lenD, a, ws, rfl, q1, by rw [← Paired.length q2]; exact q⟩
      · cases e
    · cases e
  · cases hz
def pAbs : PN := fun xs S => match xs with
  | [.int i] => some (.int (if i < 0 then -i else i), S)
  | _ => none
theorem call_pAbs : CallP X T (.builtin "abs") pAbs := CallP.of fun ds ρ S xs H Q h1 h3 ⟨z, hz, k⟩ => by
  unfold pAbs at hz
  split at hz
  · rename_i i _
    cases hz
    obtain ⟨v, rfl, r⟩ := h1.one
    obtain rfl := rep_int.mp r
    exact ⟨_, call_abs, i, rfl, k _ _ _ Le.refl h3 (rep_int.mpr rfl)⟩
  · cases hz
def pInt : PN := fun xs S => match xs with
  | [.int i] => some (.int i, S)
  | [.bl b] => some (.int (if b then 1 else 0), S)
  | _ => none
theorem call_pInt : CallP X T (.type "int") pInt := CallP.of fun ds ρ S xs H Q h1 h3 ⟨z, hz, k⟩ => by
  unfold pInt at hz
  split at hz
  · rename_i i _
    cases hz
    obtain ⟨v, rfl, r⟩ := h1.one
    obtain rfl := rep_int.mp r
    exact ⟨_, call_int1, .inl ⟨i, rfl, k _ _ _ Le.refl h3 (rep_int.mpr rfl)⟩⟩
  · rename_i b _
    cases hz
    obtain ⟨v, rfl, r⟩ := h1.one
    obtain rfl := rep_bl.mp r
    exact ⟨_, call_int1, .inr ⟨b, rfl, k _ _ _ Le.refl h3 (rep_int.mpr rfl)⟩⟩
  · cases hz
def pMax2 : PN := fun xs S => match xs with
  | [.int i, .int j] => some (.int (if j > i then j else i), S)
  | _ => none
def pMin2 : PN := fun xs S => match xs with
  | [.int i, .int j] => some (.int (if j < i then j else i), S)
  | _ => none
theorem call_pMax2 (hc : X.calm = true) : CallP X T (.builtin "max") pMax2 := CallP.of fun ds ρ S xs H Q h1 h3 ⟨z, hz, k⟩ => by
  unfold pMax2 at hz
  split at hz
  · rename_i i j _
    cases hz
    obtain ⟨v, w, rfl, r, r'⟩ := h1.two
    obtain rfl := rep_int.mp r
    obtain rfl := rep_int.mp r'
    exact ⟨_, call_max2 hc, i, j, rfl, k _ _ _ Le.refl h3 (rep_int.mpr rfl)⟩
  · cases hz
theorem call_pMin2 (hc : X.calm = true) : CallP X T (.builtin "min") pMin2 := CallP.of fun ds ρ S xs H Q h1 h3 ⟨z, hz, k⟩ => by
  unfold pMin2 at hz
  split at hz
  · rename_i i j _
    cases hz
    obtain ⟨v, w, rfl, r, r'⟩ := h1.two
    obtain rfl := rep_int.mp r
    obtain rfl := rep_int.mp r'
    exact ⟨_, call_min2 hc, i, j, rfl, k _ _ _ Le.refl h3 (rep_int.mpr rfl)⟩
  · cases hz
/-- list(..) of a list, a tuple -/
def pList : PN := fun xs S => match xs with
  | [.tup ds] => some (.ref S.length, S ++ [.lst ds])
  | [.ref n] => (rdL S n).map fun ds => (.ref S.length, S ++ [.lst ds])
  | _ => none
theorem call_pList : CallP X T (.type "list") pList := CallP.of fun ds ρ S xs H Q h1 h3 ⟨z, hz, k⟩ => by
  unfold pList at hz
  split at hz
  · rename_i ds
    cases hz
    obtain ⟨v, rfl, r⟩ := h1.one
    obtain ⟨a, ys, rfl, q1, q2⟩ := rep_tup.mp r
    exact ⟨_, call_list_of, a, ys, rfl, .inr q1, fun p hp => kPush k h3 hp ⟨_, upd_same, q2.le (Le.newR hp)⟩⟩
  · rename_i n
    obtain ⟨ds, e, rfl⟩ := Option.map_eq_some_iff.mp hz
    obtain ⟨v, rfl, r⟩ := h1.one
    obtain ⟨a, ys, rfl, q1, q2⟩ := h3.rd r e
    exact ⟨_, call_list_of, a, ys, rfl, .inl q1, fun p hp => kPush k h3 hp ⟨_, upd_same, q2.le (Le.newR hp)⟩⟩
  · cases hz
def pTuple : PN := fun xs S => match xs with
  | [.tup ds] => some (.tup ds, S)
  | [.ref n] => (rdL S n).map fun ds => (.tup ds, S)
  | _ => none
theorem call_pTuple : CallP X T (.type "tuple") pTuple := CallP.of fun ds ρ S xs H Q h1 h3 ⟨z, hz, k⟩ => by
  unfold pTuple at hz
  split at hz
  · rename_i ds
    cases hz
    obtain ⟨v, rfl, r⟩ := h1.one
    obtain ⟨a, ys, rfl, q1, q2⟩ := rep_tup.mp r
    exact ⟨_, call_tuple_of, a, ys, rfl, .inr ⟨q1, k _ _ _ Le.refl h3 r⟩⟩
  · rename_i n
    obtain ⟨ds, e, rfl⟩ := Option.map_eq_some_iff.mp hz
    obtain ⟨v, rfl, r⟩ := h1.one
    obtain ⟨a, ys, rfl, q1, q2⟩ := h3.rd r e
    exact ⟨_, call_tuple_of, a, ys, rfl, .inl ⟨q1, fun p hp => kTup k h3 hp q2⟩⟩
  · cases hz
/-- sum(..) of a list of ints -/
def intsOf : List D → Option (List Int)
  | [] => some []
  | .int i :: ds => (intsOf ds).map (i :: ·)
  | _ :: _ => none
theorem intsOf_rep {C : Ctx} {ρ : List Addr} {H : Hp} : ∀ {ds : List D} {ns : List Int} {xs : List V}, intsOf ds = some ns → Reps C ρ H ds xs → xs = ns.map V.int
  | [], ns, xs, e, r => by cases e; rw [r.nil_inv]; rfl
  | d :: ds, ns, xs, e, r => by
    cases d with
    | int i =>
      obtain ⟨ms, e1, rfl⟩ := Option.map_eq_some_iff.mp e
      obtain ⟨v, vs, rfl, r1, r2⟩ := r.inv
      obtain rfl := rep_int.mp r1
      rw [intsOf_rep e1 r2]
      rfl
    | _ => cases e
def pSum : PN := fun xs S => match xs with
  | [.ref n] => ((rdL S n).bind intsOf).map fun ns => (.int ns.sum, S)
  | _ => none
theorem call_pSum (hc : X.calm = true) : CallP X T (.builtin "sum") pSum := CallP.of fun ds ρ S xs H Q h1 h3 ⟨z, hz, k⟩ => by
  unfold pSum at hz
  split at hz
  · rename_i n
    obtain ⟨ns, e, rfl⟩ := Option.map_eq_some_iff.mp hz
    obtain ⟨ds, e1, e2⟩ := Option.bind_eq_some_iff.mp e
    obtain ⟨v, rfl, r⟩ := h1.one
    obtain ⟨a, ys, rfl, q1, q2⟩ := h3.rd r e1
    rw [intsOf_rep e2 q2] at q1
    exact ⟨_, cr_sum hc, a, ns, rfl, q1, k _ _ _ Le.refl h3 (rep_int.mpr rfl)⟩
  · cases hz
end
end Lay

set_option Elab.async false
set_option linter.all false
set_option maxRecDepth 100000
set_option maxHeartbeats 4000000
/-! L3: statements, loops, comprehensions, calls. -/
namespace Lay
open PySem PySem.Spec PyProof.Rows L2
inductive SRes where
  | nx (sd : SD) (S : Store)
  | rt (d : D) (S : Store)
  | bk (sd : SD) (S : Store)
  | ct (sd : SD) (S : Store)
  | exc (e : Ex) (sd : SD) (S : Store)
  | bad
abbrev FF := SD → Store → SRes
def EndS (C : Ctx) (W : WX) (Dn : Ends) (ρ : List Addr) (H : Hp) (r : SRes) : Prop :=
  match r with
  | .nx sd' S' => ∀ σ' ρ' H', Le ρ H ρ' H' → Slots C ρ' H' sd' σ' → SRep C ρ' H' S' → Dn.nx σ' H'
  | .rt d S' => ∀ v ρ' H', Le ρ H ρ' H' → SRep C ρ' H' S' → Rep C ρ' H' d v → Dn.rt v H'
  | .bk sd' S' => ∀ σ' ρ' H', Le ρ H ρ' H' → Slots C ρ' H' sd' σ' → SRep C ρ' H' S' → Dn.bk σ' H'
  | .ct sd' S' => ∀ σ' ρ' H', Le ρ H ρ' H' → Slots C ρ' H' sd' σ' → SRep C ρ' H' S' → Dn.ct σ' H'
  | .exc e sd' S' => ∀ cls d σ' ρ' H', Le ρ H ρ' H' → Slots C ρ' H' sd' σ' → SRep C ρ' H' S' → ExRep C ρ' H' e cls d → W cls d σ' H'
  | .bad => False
def LS (C : Ctx) (W : WX) (F : FF) : TS := fun Dn σ H => ∃ sd ρ S, Slots C ρ H sd σ ∧ SRep C ρ H S ∧ EndS C W Dn ρ H (F sd S)
theorem EndS.base {C : Ctx} {W : WX} {Dn : Ends} {ρ ρ' : List Addr} {H H' : Hp} {r : SRes} (l : Le ρ H ρ' H') (h : EndS C W Dn ρ H r) : EndS C W Dn ρ' H' r := by
  cases r with
  | nx sd S => exact fun σ2 ρ2 H2 l2 => h σ2 ρ2 H2 (l.trans l2)
  | rt d S => exact fun σ2 ρ2 H2 l2 => h σ2 ρ2 H2 (l.trans l2)
  | bk sd S => exact fun σ2 ρ2 H2 l2 => h σ2 ρ2 H2 (l.trans l2)
  | ct sd S => exact fun σ2 ρ2 H2 l2 => h σ2 ρ2 H2 (l.trans l2)
  | exc e sd S => exact fun c d σ2 ρ2 H2 l2 => h c d σ2 ρ2 H2 (l.trans l2)
  | bad => exact h
/-- an expression, then a statement with its value -/
def sBind {α : Type} (m : SD → Store → Res α) (k : α → FF) : FF := fun sd S => match m sd S with
  | .ok a S' => k a sd S'
  | .exc e S' => .exc e sd S'
  | .bad => .bad
theorem LS.run {α β : Type} {C : Ctx} {RA : α → β → List Addr → Hp → Prop} {W : WX} {m : SD → Store → Res α} {f : α → FF} {σ : St} {H : Hp} {Dn : Ends} {Q' : β → Hp → Prop} {sd : SD} {ρ : List Addr} {S : Store}
    (h1 : Slots C ρ H sd σ) (h2 : SRep C ρ H S) (h3 : EndS C W Dn ρ H (sBind m f sd S))
    (k : ∀ a b ρ' S' H', Le ρ H ρ' H' → SRep C ρ' H' S' → RA a b ρ' H' → EndS C W Dn ρ' H' (f a sd S') → Q' b H') : LG C RA W m σ H Q' := by
  refine ⟨sd, ρ, S, h1, h2, ?_⟩
  unfold sBind at h3
  cases e : m sd S with
  | ok a S' =>
    rw [e] at h3
    intro b ρ' H' l s ra
    exact k a b ρ' S' H' l s ra (EndS.base l h3)
  | exc x S' =>
    rw [e] at h3
    exact fun c d ρ' H' l s r => h3 c d σ ρ' H' l (h1.le l) s r
  | bad =>
    rw [e] at h3
    exact h3
theorem _root_.L2.PS.imp {X : Cx} {st : Stmt} {t t' : TS} (h : PS X st t) (k : ∀ Dn σ H, t' Dn σ H → t Dn σ H) : PS X st t' := ⟨fun pins s σ H Dn I q => h.run pins s σ H Dn I (k Dn σ H q)⟩
theorem _root_.L2.PSs.imp {X : Cx} {st : List Stmt} {t t' : TS} (h : PSs X st t) (k : ∀ Dn σ H, t' Dn σ H → t Dn σ H) : PSs X st t' := ⟨fun pins s σ H Dn I q => h.run pins s σ H Dn I (k Dn σ H q)⟩
section
variable {X : Cx} {T : List Cls} {W : WX} {a b c e : Expr} {es : List Expr} {fa fb fc m : EE} {aa : EA} {tc : EB} {pos p : Pos} {st : Stmt} {sts rest : List Stmt} {F G : FF}
/-! ### small statements -/
def sNext : FF := fun sd S => .nx sd S
def sSeq (F G : FF) : FF := fun sd S => match F sd S with
  | .nx sd' S' => G sd' S'
  | r => r
theorem ss_nil : PSs X [] (LS (cx X T) W sNext) := pss_nil.imp fun Dn σ H ⟨sd, ρ, S, h1, h2, h3⟩ => h3 σ ρ H Le.refl h1 h2
theorem LS.seq {C : Ctx} {σ : St} {H : Hp} {Dn : Ends} (h : LS C W (sSeq F G) Dn σ H) : LS C W F { Dn with nx := LS C W G Dn } σ H := by
  obtain ⟨sd, ρ, S, h1, h2, h3⟩ := h
  refine ⟨sd, ρ, S, h1, h2, ?_⟩
  unfold sSeq at h3
  cases q : F sd S with
  | nx sd' S' =>
    rw [q] at h3
    exact fun σ' ρ' H' l s1 s2 => ⟨sd', ρ', S', s1, s2, EndS.base l h3⟩
  | rt d S' => rw [q] at h3; exact h3
  | bk sd' S' => rw [q] at h3; exact h3
  | ct sd' S' => rw [q] at h3; exact h3
  | exc e sd' S' => rw [q] at h3; exact h3
  | bad => rw [q] at h3; exact h3
theorem ss_cons (h1 : PS X st (LS (cx X T) W F)) (h2 : PSs X rest (LS (cx X T) W G)) : PSs X (st :: rest) (LS (cx X T) W (sSeq F G)) := (pss_cons h1 h2).imp fun _ _ _ h => LS.seq h
theorem ss_one (h1 : PS X st (LS (cx X T) W F)) : PSs X [st] (LS (cx X T) W F) := pss_one h1
theorem s_pass : PS X (.Pass pos) (LS (cx X T) W sNext) := ps_pass.imp fun Dn σ H ⟨sd, ρ, S, h1, h2, h3⟩ => h3 σ ρ H Le.refl h1 h2
def sBrk : FF := fun sd S => .bk sd S
def sCnt : FF := fun sd S => .ct sd S
theorem s_break : PS X (.Break pos) (LS (cx X T) W sBrk) := ps_break.imp fun Dn σ H ⟨sd, ρ, S, h1, h2, h3⟩ => h3 σ ρ H Le.refl h1 h2
theorem s_continue : PS X (.Continue pos) (LS (cx X T) W sCnt) := ps_continue.imp fun Dn σ H ⟨sd, ρ, S, h1, h2, h3⟩ => h3 σ ρ H Le.refl h1 h2
def sExpr (m : EE) : FF := sBind m fun _ => sNext
theorem s_expr (he : PE X e (LE (cx X T) W fa)) (hs : swapsWith e none pos.line X.env = pure false := by rfl) : PS X (.Expr e pos) (LS (cx X T) W (sExpr fa)) := (ps_expr he hs).imp fun Dn σ H ⟨sd, ρ, S, h1, h2, h3⟩ => by
  refine LS.run h1 h2 h3 fun dx x ρ1 S1 H1 l1 s1 r1 k1 => ?_
  exact k1 σ ρ1 H1 Le.refl (h1.le l1) s1
def sRet (m : EE) : FF := sBind m fun d => fun _ S => .rt d S
theorem s_ret (he : PE X e (LE (cx X T) W fa)) : PS X (.Return (some e) pos) (LS (cx X T) W (sRet fa)) := (ps_ret he).imp fun Dn σ H ⟨sd, ρ, S, h1, h2, h3⟩ => by
  refine LS.run h1 h2 h3 fun dx x ρ1 S1 H1 l1 s1 r1 k1 => ?_
  exact k1 x ρ1 H1 Le.refl s1 r1
def sRetN : FF := fun _ S => .rt .non S
theorem s_retN : PS X (.Return none pos) (LS (cx X T) W sRetN) := ps_retN.imp fun Dn σ H ⟨sd, ρ, S, h1, h2, h3⟩ => h3 .non ρ H Le.refl h2 (rep_non.mpr rfl)
def sIf (t : EB) (F G : FF) : FF := sBind t fun b => if b then F else G
theorem s_if {p q : List Stmt} (hc : PT X c (LB (cx X T) W tc)) (ha : PSs X p (LS (cx X T) W F)) (hb : PSs X q (LS (cx X T) W G)) : PS X (.If c p q pos) (LS (cx X T) W (sIf tc F G)) := (ps_if hc ha hb).imp fun Dn σ H ⟨sd, ρ, S, h1, h2, h3⟩ => by
  refine LS.run h1 h2 h3 fun dx x ρ1 S1 H1 l1 s1 r1 k1 => ?_
  cases r1
  cases dx with
  | true => exact ⟨sd, ρ1, S1, h1.le l1, s1, k1⟩
  | false => exact ⟨sd, ρ1, S1, h1.le l1, s1, k1⟩
def sSet (i : Nat) (m : EE) : FF := sBind m fun d => fun sd S => .nx (sd.set i (some d)) S
theorem s_set {i : Nat} {x : Str} {pos' : Pos} (hN : X.N.Nodup) (hi : X.N[i]? = some x) (hx : Loc X.env.scope x) (he : PE X e (LE (cx X T) W fa)) (hs : swapsWith e (some (.Name x pos')) pos.line X.env = pure false := by rfl) (hf : X.fn x = true ∨ X.env.scope.names.lookup x = some .local := by first | exact .inl rfl | exact .inr rfl | assumption) :
    PS X (.Assign [.Name x pos'] e pos) (LS (cx X T) W (sSet i fa)) := (ps_set hN hi hx he hs hf).imp fun Dn σ H ⟨sd, ρ, S, h1, h2, h3⟩ => by
  refine LS.run h1 h2 h3 fun dx x ρ1 S1 H1 l1 s1 r1 k1 => ?_
  exact k1 _ ρ1 H1 Le.refl ((h1.le l1).set r1) s1
/-- a, b = x, y with plain local names -/
def sPar (i j : Nat) (aa : EA) : FF := sBind aa fun xs => match xs with
  | [x, y] => fun sd S => .nx ((sd.set i (some x)).set j (some y)) S
  | _ => fun _ _ => .bad
theorem s_par {i j : Nat} {x y : Str} {px py pt : Pos} {kt k2 pt2} (hc : X.calm = true) (hN : X.N.Nodup) (hi : X.N[i]? = some x) (hj : X.N[j]? = some y) (hij : i ≠ j)
    (hx : X.env.scope.names.lookup x = some .local) (hy : X.env.scope.names.lookup y = some .local) (ha : PA X [a, b] (LA (cx X T) W aa))
    (hw : swappedStores [.Tuple [.Name x px, .Name y py] kt pt] (.Tuple [a, b] k2 pt2) X.env = pure (some [x, y]))
    (hs : swapsWithSole [.Tuple [.Name x px, .Name y py] kt pt] (.Tuple [a, b] k2 pt2) pos.line X.env = pure false := by rfl) :
    PS X (.Assign [.Tuple [.Name x px, .Name y py] kt pt] (.Tuple [a, b] k2 pt2) pos) (LS (cx X T) W (sPar i j aa)) := (ps_par hc hN hi hj hij hx hy ha hw hs).imp fun Dn σ H ⟨sd, ρ, S, h1, h2, h3⟩ => by
  refine LS.run h1 h2 h3 fun dx x ρ1 S1 H1 l1 s1 r1 k1 => ?_
  split at k1
  · obtain ⟨v, w, rfl, r, r'⟩ := Reps.two r1
    exact ⟨v, w, rfl, k1 _ ρ1 H1 Le.refl (((h1.le l1).set r).set r') s1⟩
  · exact k1.elim
def sPar3 (i j l : Nat) (aa : EA) : FF := sBind aa fun xs => match xs with
  | [x, y, z] => fun sd S => .nx (((sd.set i (some x)).set j (some y)).set l (some z)) S
  | _ => fun _ _ => .bad
/-- name op= e -/
def sAug (i : Nat) (g : P2) (m : EE) : FF := fun sd S => match sd[i]? with
  | some (some x) => sBind m (fun y => fun sd S => match g x y S with
    | some (z, S') => .nx (sd.set i (some z)) S'
    | none => .bad) sd S
  | _ => .bad
theorem s_aug {i : Nat} {x : Str} {op : Operator} {g : P2} {pos' : Pos} (hN : X.N.Nodup) (hi : X.N[i]? = some x) (hx : Loc X.env.scope x) (ho : OpP X T (inplaceOp op) g) (he : PE X e (LE (cx X T) W fa)) (hf : X.fn x = true ∨ X.env.scope.names.lookup x = some .local := by first | exact .inl rfl | exact .inr rfl | assumption) :
    PS X (.AugAssign (.Name x pos') op e pos) (LS (cx X T) W (sAug i g fa)) := (ps_aug (ti := rP (cx X T) g) hN hi hx he ho hf).imp fun Dn σ H ⟨sd, ρ, S, h1, h2, h3⟩ => by
  unfold sAug at h3
  split at h3
  · rename_i d q
    obtain ⟨v, e1, r⟩ := h1.at_ i d q
    refine ⟨v, e1, ?_⟩
    refine LS.run h1 h2 h3 fun dy y ρ1 S1 H1 l1 s1 r1 k1 => ?_
    split at k1
    · rename_i z S' e2
      exact ⟨d, dy, ρ1, S1, r.le l1, r1, s1, (z, S'), e2, fun w ρ' H' l s r' => k1 _ ρ' H' l (((h1.le l1).le l).set r') s⟩
    · exact k1.elim
  · exact h3.elim
/-! ### targets -/
abbrev GD := D → SD → Store → Option (SD × Store)
abbrev GDs := List D → SD → Store → Option (SD × Store)
/-- the slots but those at vs stand -/
def Off (vs : List Nat) (σ σ' : St) : Prop := σ'.length = σ.length ∧ ∀ j, j ∉ vs → σ'[j]? = σ[j]?
theorem Off.trans {vs : List Nat} {σ σ1 σ2 : St} (a : Off vs σ σ1) (b : Off vs σ1 σ2) : Off vs σ σ2 := ⟨b.1.trans a.1, fun j h => (b.2 j h).trans (a.2 j h)⟩
theorem Off.mono {vs ws : List Nat} {σ σ1 : St} (a : Off vs σ σ1) (h : ∀ j ∈ vs, j ∈ ws) : Off ws σ σ1 := ⟨a.1, fun j hj => a.2 j fun z => hj (h j z)⟩
def LT (C : Ctx) (vs : List Nat) (g : GD) : TG := fun v σ H Q => ∃ d sd ρ S z, Rep C ρ H d v ∧ Slots C ρ H sd σ ∧ SRep C ρ H S ∧ g d sd S = some z ∧ ∀ σ' ρ' H', Le ρ H ρ' H' → Off vs σ σ' → Slots C ρ' H' z.1 σ' → SRep C ρ' H' z.2 → Q σ' H'
def LTs (C : Ctx) (vs : List Nat) (g : GDs) : TGs := fun v σ H Q => ∃ d sd ρ S z, Reps C ρ H d v ∧ Slots C ρ H sd σ ∧ SRep C ρ H S ∧ g d sd S = some z ∧ ∀ σ' ρ' H', Le ρ H ρ' H' → Off vs σ σ' → Slots C ρ' H' z.1 σ' → SRep C ρ' H' z.2 → Q σ' H'
theorem _root_.L2.PG.imp {X : Cx} {e : Expr} {t t' : TG} (h : PG X e t) (k : ∀ v σ H Q, t' v σ H Q → t v σ H Q) : PG X e t' := ⟨fun pins s σ H v u Q I r q => h.run pins s σ H v u Q I r (k v σ H Q q)⟩
theorem _root_.L2.PGs.imp {X : Cx} {e : List Expr} {t t' : TGs} (h : PGs X e t) (k : ∀ v σ H Q, t' v σ H Q → t v σ H Q) : PGs X e t' := ⟨fun pins s σ H v u Q I r q => h.run pins s σ H v u Q I r (k v σ H Q q)⟩
theorem _root_.L2.PG.or {X : Cx} {e : Expr} {t t' : TG} (h : PG X e t) (h' : PG X e t') : PG X e (fun v σ H Q => t v σ H Q ∨ t' v σ H Q) := ⟨fun pins s σ H v u Q I r q => q.elim (fun z => h.run pins s σ H v u Q I r z) fun z => h'.run pins s σ H v u Q I r z⟩
def gNm (i : Nat) : GD := fun d sd S => some (sd.set i (some d), S)
theorem g_name {i : Nat} {x : Str} (hN : X.N.Nodup) (hi : X.N[i]? = some x) (hx : Loc X.env.scope x) (hf : X.fn x = true ∨ X.env.scope.names.lookup x = some .local := by first | exact .inl rfl | exact .inr rfl | assumption) : PG X (.Name x pos) (LT (cx X T) [i] (gNm i)) :=
  (pg_name hN hi hx hf).imp fun v σ H Q ⟨d, sd, ρ, S, z, h1, h2, h3, e, k⟩ => by
    cases e
    exact k _ ρ H Le.refl ⟨by simp, fun j hj => List.getElem?_set_ne (fun q => hj (by simp [q]))⟩ (h2.set h1) h3
def gsNil : GDs := fun ds sd S => match ds with
  | [] => some (sd, S)
  | _ => none
def gsCons (g : GD) (gs : GDs) : GDs := fun ds sd S => match ds with
  | d :: r => match g d sd S with
    | some (sd', S') => gs r sd' S'
    | none => none
  | [] => none
variable {g : GD} {gs : GDs} {vs ws : List Nat}
theorem gs_nil : PGs X [] (LTs (cx X T) [] gsNil) := pgs_nil.imp fun v σ H Q ⟨d, sd, ρ, S, z, h1, h2, h3, e, k⟩ => by
  unfold gsNil at e
  split at e
  · cases e
    exact ⟨h1.nil_inv, k σ ρ H Le.refl ⟨rfl, fun _ _ => rfl⟩ h2 h3⟩
  · cases e
theorem gs_cons (hg : PG X e (LT (cx X T) vs g)) (hr : PGs X es (LTs (cx X T) ws gs)) (hs : (assignEach (e :: es) X.env).map (·.2) = assign e X.env :: (assignEach es X.env).map (·.2) := by rfl) : PGs X (e :: es) (LTs (cx X T) (vs ++ ws) (gsCons g gs)) :=
  (pgs_cons hg hr hs).imp fun v σ H Q ⟨d, sd, ρ, S, z, h1, h2, h3, e, k⟩ => by
    unfold gsCons at e
    split at e
    · rename_i x r
      obtain ⟨v, vr, rfl, r1, r2⟩ := h1.inv
      split at e
      · rename_i sd' S' e1
        refine ⟨v, vr, rfl, x, sd, ρ, S, (sd', S'), r1, h2, h3, e1, fun σ' ρ' H' l o s1 s2 => ?_⟩
        exact ⟨r, sd', ρ', S', z, r2.le l, s1, s2, e, fun σ2 ρ2 H2 l2 o2 s3 s4 => k σ2 ρ2 H2 (l.trans l2) ((o.mono fun j hj => List.mem_append_left _ hj).trans (o2.mono fun j hj => List.mem_append_right _ hj)) s3 s4⟩
      · cases e
    · cases e
def gTupD (n : Nat) (gs : GDs) : GD := fun d sd S => match d with
  | .tup ds => if ds.length = n then gs ds sd S else none
  | .ref k => match rdL S k with
    | some ds => if ds.length = n then gs ds sd S else none
    | none => none
  | _ => none
theorem g_tup {k : Nat} {n : Nat} (hc : X.calm = true) (h : PGs X es (LTs (cx X T) vs gs)) (hn : (assignEach es X.env).length = n := by rfl) (hst : (assignEach es X.env).findIdx? (·.1) = none := by rfl) (hu : PG X (.Tuple es k pos) (gUnl X.K n (LTs (cx X T) vs gs))) :
    PG X (.Tuple es k pos) (LT (cx X T) vs (gTupD n gs)) := ((pg_tup hc h hn hst).or hu).imp fun v σ H Q ⟨d, sd, ρ, S, z, h1, h2, h3, e, k⟩ => by
  unfold gTupD at e
  split at e
  · rename_i ds
    split at e
    · rename_i hl
      obtain ⟨a, xs, rfl, q1, q2⟩ := rep_tup.mp h1
      exact .inl ⟨a, xs, rfl, q1, by rw [← q2.length]; exact hl, ds, sd, ρ, S, z, q2, h2, h3, e, k⟩
    · cases e
  · rename_i m
    split at e
    · rename_i ds hd
      split at e
      · rename_i hl
        obtain ⟨a, xs, rfl, q1, q2⟩ := h3.rd h1 hd
        exact .inr ⟨a, xs, rfl, q1, by rw [← q2.length]; exact hl, ds, sd, ρ, S, z, q2, h2, h3, e, k⟩
      · cases e
    · cases e
  · cases e
/-- target = e -/
def sAsg (m : EE) (g : GD) : FF := sBind m fun d => fun sd S => match g d sd S with
  | some (sd', S') => .nx sd' S'
  | none => .bad
theorem s_asg {tg : Expr} (he : PE X e (LE (cx X T) W fa)) (hg : PG X tg (LT (cx X T) vs g)) (hs : swapsWithSole [tg] e pos.line X.env = pure false := by rfl) (hw : swappedStores [tg] e X.env = pure none := by rfl)
    (h1 : (assignEach [tg] X.env).map (·.2) = [assign tg X.env] := by rfl) : PS X (.Assign [tg] e pos) (LS (cx X T) W (sAsg fa g)) := (ps_asg he hg hs hw h1).imp fun Dn σ H ⟨sd, ρ, S, h1, h2, h3⟩ => by
  refine LS.run h1 h2 h3 fun dx x ρ1 S1 H1 l1 s1 r1 k1 => ?_
  split at k1
  · rename_i sd' S' e1
    exact ⟨dx, sd, ρ1, S1, (sd', S'), r1, h1.le l1, s1, e1, fun σ' ρ' H' l o q1 q2 => k1 σ' ρ' H' l q1 q2⟩
  · exact k1.elim
/-- o[i] = .. -/
def rSt (C : Ctx) (g : D → D → D → Store → Option Store) : TSet := fun o i v H Q => ∃ o' i' v' ρ S S', Rep C ρ H o' o ∧ Rep C ρ H i' i ∧ Rep C ρ H v' v ∧ SRep C ρ H S ∧ g o' i' v' S = some S' ∧ ∀ ρ' H', Le ρ H ρ' H' → SRep C ρ' H' S' → Q H'
def pSet (o i v : D) (S : Store) : Option Store := match o, i with
  | .ref n, .int k => match S[n]? with
    | some (.lst ds) => (ixN ds.length k).map fun j => S.set n (.lst (ds.set j v))
    | _ => none
  | _, _ => none
theorem pset_ok : PSet X (rSt (cx X T) pSet) := by
  intro pins s σ H o i v ov iv u Q I ro ri rv ⟨o', i', v', ρ, S, S', h1, h2, h3, h4, e, k⟩
  unfold pSet at e
  split at e
  · rename_i n j
    split at e
    · rename_i ds hs
      obtain ⟨m, e1, rfl⟩ := Option.map_eq_some_iff.mp e
      obtain ⟨a, xs, q0, rfl, q1, q2⟩ := h4.lst h1 hs
      obtain rfl := rep_int.mp h2
      refine set_list pins s σ H _ _ v ov iv u Q I ro ri rv ⟨a, xs, j, m, rfl, rfl, q1, by rw [← q2.length]; exact e1, ?_⟩
      obtain ⟨l, s1⟩ := h4.lst_upd q0 hs q1 (q2.set m h3)
      exact k ρ _ l s1
    · cases e
  · cases e
def gSubD (fo fi : EE) : GD := fun d sd S => match fo sd S with
  | .ok o S1 => match fi sd S1 with
    | .ok i S2 => (pSet o i d S2).map fun S3 => (sd, S3)
    | _ => none
  | _ => none
theorem g_sub {o i : Expr} {fo fi : EE} (ho : PE X o (LE (cx X T) W fo)) (hi : PE X i (LE (cx X T) W fi))
    (ha : ∀ v, assign (.Subscript o i pos) X.env v = (do
      let ov ← holding [v] (eval o X.env)
      let iv ← holding [v, ov] (eval i X.env)
      standAt pos
      holding [v, ov, iv] (setItem ov iv v)
      release [v, ov, iv] []) := by intro _; rfl) : PG X (.Subscript o i pos) (LT (cx X T) [] (gSubD fo fi)) := (pg_sub ho hi pset_ok ha).imp fun v σ H Q ⟨d, sd, ρ, S, z, h1, h2, h3, e, k⟩ => by
  unfold gSubD at e
  split at e
  · rename_i o' S1 e1
    split at e
    · rename_i i' S2 e2
      obtain ⟨S3, e3, rfl⟩ := Option.map_eq_some_iff.mp e
      refine ⟨sd, ρ, S, h2, h3, ?_⟩
      rw [e1]
      intro ov ρ1 H1 l1 s1 r1
      refine ⟨sd, ρ1, S1, h2.le l1, s1, ?_⟩
      rw [e2]
      intro iv ρ2 H2 l2 s2 r2
      exact ⟨o', i', d, ρ2, S2, S3, Rep.le l2 r1, r2, h1.le (l1.trans l2), s2, e3, fun ρ' H' l s3 => k σ ρ' H' ((l1.trans l2).trans l) ⟨rfl, fun _ _ => rfl⟩ (h2.le ((l1.trans l2).trans l)) s3⟩
    · cases e
  · cases e
end
/-! ### loops without a bound -/
section
variable {σ β : Type}
def runN (step : σ → Sum σ β) : Nat → σ → Option β
  | 0, _ => none
  | n + 1, s => match step s with
    | .inl s' => runN step n s'
    | .inr b => some b
theorem runN_mono (step : σ → Sum σ β) : ∀ (n : Nat) (s : σ) (b : β), runN step n s = some b → runN step (n + 1) s = some b
  | 0, s, b, h => by cases h
  | n + 1, s, b, h => by
    unfold runN at h ⊢
    cases e : step s with
    | inl s' => rw [e] at h; exact runN_mono step n s' b h
    | inr b' => rw [e] at h; exact h
theorem runN_le (step : σ → Sum σ β) {n m : Nat} (hm : n ≤ m) {s : σ} {b : β} (h : runN step n s = some b) : runN step m s = some b := by
  induction hm with
  | refl => exact h
  | step _ ih => exact runN_mono step _ s b ih
open Classical in
noncomputable def loopFix (step : σ → Sum σ β) (dflt : β) (s : σ) : β := if h : ∃ b, ∃ n, runN step n s = some b then h.choose else dflt
theorem loopFix_of {step : σ → Sum σ β} {dflt : β} {s : σ} {n : Nat} {b : β} (h : runN step n s = some b) : loopFix step dflt s = b := by
  have hh : ∃ b, ∃ n, runN step n s = some b := ⟨b, n, h⟩
  unfold loopFix
  rw [dif_pos hh]
  obtain ⟨m, hm⟩ := hh.choose_spec
  have h1 := runN_le step (Nat.le_max_left n m) h
  have h2 := runN_le step (Nat.le_max_right n m) hm
  rw [h1] at h2
  exact (Option.some.inj h2).symm
theorem loopFix_run {step : σ → Sum σ β} {dflt : β} {s : σ} (h : loopFix step dflt s ≠ dflt) : ∃ n, runN step n s = some (loopFix step dflt s) := by
  by_cases hh : ∃ b, ∃ n, runN step n s = some b
  · obtain ⟨b, n, e⟩ := hh
    exact ⟨n, by rw [loopFix_of e]; exact e⟩
  · exact absurd (by unfold loopFix; rw [dif_neg hh]) h
theorem loopFix_eq (step : σ → Sum σ β) (dflt : β) (s : σ) : loopFix step dflt s = match step s with
    | .inl s' => loopFix step dflt s'
    | .inr b => b := by
  cases e : step s with
  | inr b => exact loopFix_of (n := 1) (by unfold runN; rw [e])
  | inl s' =>
    by_cases hh : ∃ b, ∃ n, runN step n s' = some b
    · obtain ⟨b, n, q⟩ := hh
      show _ = loopFix step dflt s'
      rw [loopFix_of q]
      exact loopFix_of (n := n + 1) (by unfold runN; rw [e]; exact q)
    · have h2 : ¬ ∃ b, ∃ n, runN step n s = some b := fun ⟨b, n, q⟩ => by
        cases n with
        | zero => cases q
        | succ n =>
          unfold runN at q
          rw [e] at q
          exact hh ⟨b, n, q⟩
      show _ = loopFix step dflt s'
      unfold loopFix
      rw [dif_neg hh, dif_neg h2]
end
def whStep (t : EB) (F : FF) (q : SD × Store) : Sum (SD × Store) SRes := match t q.1 q.2 with
  | .ok true S1 => match F q.1 S1 with
    | .nx sd' S' => .inl (sd', S')
    | .ct sd' S' => .inl (sd', S')
    | .bk sd' S' => .inr (.nx sd' S')
    | r => .inr r
  | .ok false S1 => .inr (.nx q.1 S1)
  | .exc e S1 => .inr (.exc e q.1 S1)
  | .bad => .inr .bad
noncomputable def sWhile (t : EB) (F : FF) : FF := fun sd S => loopFix (whStep t F) .bad (sd, S)
section
variable {X : Cx} {T : List Cls} {W : WX} {c : Expr} {tc : EB} {pos : Pos} {body : List Stmt} {F : FF}
theorem s_while (hp : PassesOwn (model X.prog X.w) X.A X.env X.xe) (hc : PT X c (LB (cx X T) W tc)) (hb : PSs X body (LS (cx X T) W F)) : PS X (.While c body [] pos) (LS (cx X T) W (sWhile tc F)) :=
  (ps_while hp hc hb).imp fun Dn σ H ⟨sd, ρ, S, h1, h2, h3⟩ => by
    have nb : sWhile tc F sd S ≠ .bad := fun e => by rw [e] at h3; exact h3
    obtain ⟨n, hn⟩ := loopFix_run nb
    refine ⟨fun m σ H => ∃ sd ρ S r, Slots (cx X T) ρ H sd σ ∧ SRep (cx X T) ρ H S ∧ runN (whStep tc F) m (sd, S) = some r ∧ EndS (cx X T) W Dn ρ H r, ⟨n, sd, ρ, S, _, h1, h2, hn, h3⟩, ?_⟩
    rintro m σ H ⟨sd, ρ, S, r, h1, h2, hr, h3⟩
    cases m with
    | zero => cases hr
    | succ m =>
      refine ⟨sd, ρ, S, h1, h2, ?_⟩
      unfold runN whStep at hr
      dsimp only at hr
      cases e : tc sd S with
      | bad => rw [e] at hr; cases hr; exact h3.elim
      | exc x S1 =>
        rw [e] at hr
        cases hr
        exact fun cl d ρ' H' l s q => h3 cl d σ ρ' H' l (h1.le l) s q
      | ok k S1 =>
        intro k' ρ1 H1 l1 s1 rk
        cases rk
        cases k with
        | false =>
          rw [e] at hr
          cases hr
          rw [if_neg Bool.false_ne_true]
          exact h3 σ ρ1 H1 l1 (h1.le l1) s1
        | true =>
          rw [if_pos rfl]
          rw [e] at hr
          dsimp only at hr
          refine ⟨fun σ' H' => ∃ sd ρ S r, Slots (cx X T) ρ H' sd σ' ∧ SRep (cx X T) ρ H' S ∧ runN (whStep tc F) m (sd, S) = some r ∧ EndS (cx X T) W Dn ρ H' r, fun σ' H' z => ⟨m, Nat.lt_succ_self _, z⟩, sd, ρ1, S1, h1.le l1, s1, ?_⟩
          have h4 := EndS.base l1 h3
          cases ef : F sd S1 with
          | nx sd' S' =>
            rw [ef] at hr
            exact fun σ' ρ' H' l z1 z2 => ⟨sd', ρ', S', r, z1, z2, hr, EndS.base l h4⟩
          | ct sd' S' =>
            rw [ef] at hr
            exact fun σ' ρ' H' l z1 z2 => ⟨sd', ρ', S', r, z1, z2, hr, EndS.base l h4⟩
          | bk sd' S' => rw [ef] at hr; cases hr; exact h4
          | rt d S' => rw [ef] at hr; cases hr; exact h4
          | exc x sd' S' => rw [ef] at hr; cases hr; exact h4
          | bad => rw [ef] at hr; cases hr; exact h4
end
end Lay

set_option Elab.async false
set_option linter.all false
set_option maxRecDepth 100000
set_option maxHeartbeats 4000000
/-! L4: for, list comprehensions, methods of lists, defs and their calls. -/
namespace Lay
open PySem PySem.Spec PyProof.Rows L2
open Classical
/-! ### what is walked -/
structure ITd where
  ds : List D
  chk : Store → Prop
abbrev EI := SD → Store → Res ITd
def ItOk (C : Ctx) (t : ITd) (J : It) (ρ0 : List Addr) (H0 : Hp) : Prop := ∀ ρ H S, Le ρ0 H0 ρ H → SRep C ρ H S → t.chk S →
  (∀ i, i < t.ds.length → J.go i H) ∧ J.stop t.ds.length H ∧ ∀ i x H', J.yld i H x H' → ∀ d, t.ds[i]? = some d → Le ρ H ρ H' ∧ SRep C ρ H' S ∧ Rep C ρ H' d x
abbrev LI (C : Ctx) (W : WX) (m : EI) : TI := LG C (fun t J ρ H => ItOk C t J ρ H) W m
theorem _root_.L2.PI.imp {X : Cx} {tg e : Expr} {t t' : TI} (h : PI X tg e t) (k : ∀ σ H Q, t' σ H Q → t σ H Q) : PI X tg e t' := ⟨fun pins s σ H Q I q => h.run pins s σ H Q I (k σ H Q q)⟩
theorem _root_.L2.PI.or {X : Cx} {tg e : Expr} {t t' : TI} (h : PI X tg e t) (h' : PI X tg e t') : PI X tg e (fun σ H Q => t σ H Q ∨ t' σ H Q) := ⟨fun pins s σ H Q I q => q.elim (fun z => h.run pins s σ H Q I z) fun z => h'.run pins s σ H Q I z⟩
section
variable {C : Ctx} {ρ0 : List Addr} {H0 : Hp}
theorem itOk_list {n : Nat} {ds : List D} {a : Addr} (hρ : ρ0[n]? = some a) : ItOk C ⟨ds, fun S => rdL S n = some ds⟩ (Itl C.K a) ρ0 H0 := by
  intro ρ H S l s e
  obtain ⟨b, xs, e1, q1, q2⟩ := s.rd (rep_ref.mpr ⟨a, l.at hρ, rfl⟩) e
  cases e1
  refine ⟨fun i hi => ?_, ⟨xs, q1, by rw [← q2.length]; exact Nat.le_refl _⟩, fun i x H' ⟨e2, y⟩ d hd => ?_⟩
  · have hi' : i < xs.length := by rw [← q2.length]; exact hi
    exact ⟨xs, xs[i], q1, by simp [hi']⟩
  · subst e2
    obtain ⟨v, h1, h2⟩ := q2.get hd
    rw [y xs q1] at h1
    cases h1
    exact ⟨Le.refl, s, h2⟩
theorem itOk_tup {ds : List D} {a : Addr} {xs : List V} (q1 : SqT C.K H0 a xs) (q2 : Reps C ρ0 H0 ds xs) : ItOk C ⟨ds, fun _ => True⟩ (Itt C.K a) ρ0 H0 := by
  intro ρ H S l s _
  have p1 := SqT.le l q1
  have p2 := q2.le l
  refine ⟨fun i hi => ?_, ⟨xs, p1, by rw [← q2.length]; exact Nat.le_refl _⟩, fun i x H' ⟨e2, y⟩ d hd => ?_⟩
  · have hi' : i < xs.length := by rw [← q2.length]; exact hi
    exact ⟨xs, xs[i], p1, by simp [hi']⟩
  · subst e2
    obtain ⟨v, h1, h2⟩ := p2.get hd
    rw [y xs p1] at h1
    cases h1
    exact ⟨Le.refl, s, h2⟩
/-- lo, lo + 1, .. -/
def rngD (lo : Int) (n : Nat) : List D := (List.range n).map fun (i : Nat) => D.int (lo + (i : Int))
theorem itOk_range {lo : Int} {n : Nat} : ItOk C ⟨rngD lo n, fun _ => True⟩ (Itr lo n) ρ0 H0 := by
  intro ρ H S l s _
  have hl : (rngD lo n).length = n := by simp [rngD]
  refine ⟨fun i hi => by rw [hl] at hi; exact hi, by rw [hl]; exact Nat.le_refl n, fun i x H' ⟨e2, y⟩ d hd => ?_⟩
  subst e2
  subst y
  simp [rngD, List.getElem?_map] at hd
  obtain ⟨k, hk, rfl⟩ := hd
  have : k = i := by
    obtain ⟨h, e⟩ := List.getElem?_eq_some_iff.mp hk
    simpa using e.symm
  subst this
  exact ⟨Le.refl, s, rep_int.mpr rfl⟩
end
@[irreducible] def inR (i : Int) : Bool := decide (-(2 ^ 62) ≤ i ∧ i < 2 ^ 62)
theorem inR_of {i : Int} (h1 : -(2 ^ 62) ≤ i) (h2 : i < 2 ^ 62) : inR i = true := by unfold inR; exact decide_eq_true ⟨h1, h2⟩
theorem of_inR {i : Int} (h : inR i = true) : -(2 ^ 62) ≤ i ∧ i < 2 ^ 62 := by unfold inR at h; exact of_decide_eq_true h
def itRange (aa : EA) : EI := eBind aa fun xs => fun _ S => match xs with
  | [.int j] => if inR j then .ok ⟨rngD 0 j.toNat, fun _ => True⟩ S else .bad
  | _ => .bad
def itRange2 (aa : EA) : EI := eBind aa fun xs => fun _ S => match xs with
  | [.int i, .int j] => if inR i && inR j then .ok ⟨rngD i (j - i).toNat, fun _ => True⟩ S else .bad
  | _ => .bad
/-- the signs of a text, one by one -/
def signs (z : Str) : List D := z.cps.toList.map fun c => D.str ⟨#[c]⟩
section
variable {C : Ctx} {ρ0 : List Addr} {H0 : Hp}
theorem itOk_str {z : Str} : ItOk C ⟨signs z, fun _ => True⟩ (Its z) ρ0 H0 := by
  intro ρ H S l s _
  have hl : (signs z).length = z.cps.size := by simp [signs]
  refine ⟨fun i hi => by rw [hl] at hi; exact hi, by rw [hl]; exact Nat.le_refl _, fun i x H' ⟨e2, c, h1, h2⟩ d hd => ?_⟩
  subst e2
  subst h2
  have : (signs z)[i]? = some (.str ⟨#[c]⟩) := by
    have q : z.cps.toList[i]? = some c := by simpa using h1
    rw [signs, List.getElem?_map, q]
    rfl
  rw [this] at hd
  cases hd
  exact ⟨Le.refl, s, rep_str.mpr rfl⟩
end
/-- a list, a tuple, a text, as it comes -/
def iAny (K : PySem.W.Frag) (tl : TE) : TI := fun σ H R => tl σ H fun x H1 =>
  (∃ a xs, x = .ref a ∧ SqL K H1 a xs ∧ R (Itl K a) H1) ∨ (∃ a xs, x = .ref a ∧ SqT K H1 a xs ∧ R (Itt K a) H1) ∨ (∃ z, x = .str z ∧ R (Its z) H1)
section
variable {X : Cx} {T : List Cls} {W : WX} {a b c e l tg iter : Expr} {es : List Expr} {fa fb fc m : EE} {aa : EA} {tc : EB} {pos p : Pos} {st : Stmt} {body : List Stmt} {F G : FF} {it : EI} {g : GD} {vs : List Nat}
theorem pi_any {tl : TE} (hl : PE X l tl) : PI X tg l (iAny X.K tl) := by
  refine ⟨fun pins s σ H R I h => thn (hl.run pins s σ H _ I h) fun v s1 ⟨x, H1, I1, r1, q1⟩ => ?_⟩
  rcases q1 with ⟨a, xs, e1, h1, q⟩ | ⟨a, xs, e1, h1, q⟩ | ⟨z, e1, q⟩
  · subst e1
    cases r1
    obtain ⟨us, _, pl, _⟩ := I1.list h1
    have go := pi_one (tg := tg) (tk := s1.toks) I1 { cls := .type "list_iterator", data := .fields #[.ref a, rawInt 0] } (turn_list a _) ⟨_, Heap.get?_push_size _ rfl, rfl, rfl⟩ q
    exact wpAny_pyIter_list pl.isList go
  · subst e1
    cases r1
    obtain ⟨us, _, pt, _⟩ := I1.tuple h1
    have go := pi_one (tg := tg) (tk := s1.toks) I1 { cls := .type "tuple_iterator", data := .fields #[.ref a, rawInt 0] } (turn_tuple a _) ⟨_, Heap.get?_push_size _ rfl, rfl, rfl⟩ q
    exact wpAny_pyIter_tuple pt go
  · subst e1
    obtain ⟨t, rfl⟩ := r1
    by_cases ha : z.cps.all (· < 128) = true
    · have go := pi_one (tg := tg) (tk := s1.toks) I1 { cls := .type "str_ascii_iterator", data := .fields #[.str z t, rawInt 0] } (turn_str _ z t "str_ascii_iterator" (.inl rfl)) ⟨_, Heap.get?_push_size _ rfl, rfl, rfl⟩ q
      exact wpAny_pyIter_ascii ha go
    · have go := pi_one (tg := tg) (tk := s1.toks) I1 { cls := .type "str_iterator", data := .fields #[.str z t, rawInt 0] } (turn_str _ z t "str_iterator" (.inr rfl)) ⟨_, Heap.get?_push_size _ rfl, rfl, rfl⟩ q
      exact wpAny_pyIter_wide (Bool.eq_false_iff.mpr ha) go
def itSeq (m : EE) : EI := eBind m fun d => fun _ S => match d with
  | .tup ds => .ok ⟨ds, fun _ => True⟩ S
  | .ref n => match rdL S n with
    | some ds => .ok ⟨ds, fun S' => rdL S' n = some ds⟩ S
    | none => .bad
  | .str z => .ok ⟨signs z, fun _ => True⟩ S
  | _ => .bad
theorem i_seq (ha : PE X l (LE (cx X T) W fa)) : PI X tg l (LI (cx X T) W (itSeq fa)) := (pi_any ha).imp fun σ H R ⟨sd, ρ, S, h1, h2, h3⟩ => by
  refine LG.run h1 h2 h3 fun dx x ρ1 S1 H1 l1 s1 r1 k1 => ?_
  split at k1
  · obtain ⟨a, xs, rfl, q1, q2⟩ := rep_tup.mp r1
    exact .inr (.inl ⟨a, xs, rfl, q1, k1 _ ρ1 H1 Le.refl s1 (itOk_tup q1 q2)⟩)
  · split at k1
    · rename_i ds hd
      obtain ⟨a, e1, rfl⟩ := rep_ref.mp r1
      obtain ⟨b, xs, e2, q1, q2⟩ := s1.rd r1 hd
      cases e2
      exact .inl ⟨a, xs, rfl, q1, k1 _ ρ1 H1 Le.refl s1 (itOk_list e1)⟩
    · exact k1.elim
  · rename_i z
    obtain rfl := rep_str.mp r1
    exact .inr (.inr ⟨_, rfl, k1 _ ρ1 H1 Le.refl s1 itOk_str⟩)
  · exact k1.elim

theorem i_range1 (hg : Gl X "range") (hm : X.mg "range" = none) (ha : PA X [a] (LA (cx X T) W aa)) (hs : starEach [a] X.env = [(false, eval a X.env)] := by rfl) : PI X tg (.Call (.Name "range" p) [a] [] pos) (LI (cx X T) W (itRange aa)) :=
  (pi_range1 hg hm ha hs).imp fun σ H R ⟨sd, ρ, S, h1, h2, h3⟩ => by
    refine LG.run h1 h2 h3 fun dx x ρ1 S1 H1 l1 s1 r1 k1 => ?_
    split at k1
    · rename_i j
      split at k1
      · rename_i hf
        obtain ⟨v, rfl, r⟩ := Reps.one r1
        obtain rfl := rep_int.mp r
        obtain ⟨q1, q2⟩ := of_inR hf
        exact ⟨j, rfl, q1, q2, k1 _ ρ1 H1 Le.refl s1 itOk_range⟩
      · exact k1.elim
    · exact k1.elim
theorem i_range2 (hg : Gl X "range") (hm : X.mg "range" = none) (ha : PA X [a, b] (LA (cx X T) W aa)) (hs : starEach [a, b] X.env = [(false, eval a X.env), (false, eval b X.env)] := by rfl) (hs2 : starEach [b] X.env = [(false, eval b X.env)] := by rfl) :
    PI X tg (.Call (.Name "range" p) [a, b] [] pos) (LI (cx X T) W (itRange2 aa)) :=
  (pi_range2 hg hm ha hs hs2).imp fun σ H R ⟨sd, ρ, S, h1, h2, h3⟩ => by
    refine LG.run h1 h2 h3 fun dx x ρ1 S1 H1 l1 s1 r1 k1 => ?_
    split at k1
    · rename_i i j
      split at k1
      · rename_i hf
        obtain ⟨f1, f2⟩ := Bool.and_eq_true_iff.mp hf
        obtain ⟨v, w, rfl, r, r'⟩ := Reps.two r1
        obtain rfl := rep_int.mp r
        obtain rfl := rep_int.mp r'
        obtain ⟨q1, q2⟩ := of_inR f1
        obtain ⟨q3, q4⟩ := of_inR f2
        exact ⟨i, j, rfl, ⟨q1, q2, q3, q4⟩, k1 _ ρ1 H1 Le.refl s1 itOk_range⟩
      · exact k1.elim
    · exact k1.elim
/-! ### for -/
noncomputable def forD (g : GD) (F : FF) (chk : Store → Prop) : List D → FF
  | [] => fun sd S => if chk S then .nx sd S else .bad
  | d :: ds => fun sd S => if chk S then match g d sd S with
    | some (sd1, S1) => match F sd1 S1 with
      | .nx sd' S' => forD g F chk ds sd' S'
      | .ct sd' S' => forD g F chk ds sd' S'
      | .bk sd' S' => .nx sd' S'
      | r => r
    | none => .bad else .bad
noncomputable def sFor (it : EI) (g : GD) (F : FF) : FF := sBind it fun t => forD g F t.chk t.ds
theorem s_for (hp : PassesOwn (model X.prog X.w) X.A X.env X.xe) (hc : X.calm = true) (hi : PI X tg iter (LI (cx X T) W it)) (hg : PG X tg (LT (cx X T) vs g)) (hb : PSs X body (LS (cx X T) W F))
    (hs : ∀ x, foldedSetIterable iter X.env x = pure x := by intro _; rfl) : PS X (.For tg iter body [] pos) (LS (cx X T) W (sFor it g F)) := (ps_for hp hc hi hg hb hs).imp fun Dn σ H ⟨sd, ρ, S, h1, h2, h3⟩ => by
  refine LS.run h1 h2 h3 fun t J ρ1 S1 H1 l1 s1 ok k1 => ?_
  refine ⟨fun i m σ H => m = t.ds.length - i ∧ i ≤ t.ds.length ∧ ∃ sd ρ S, Le ρ1 H1 ρ H ∧ Slots (cx X T) ρ H sd σ ∧ SRep (cx X T) ρ H S ∧ EndS (cx X T) W Dn ρ H (forD g F t.chk (t.ds.drop i) sd S),
    ⟨_, rfl, Nat.zero_le _, sd, ρ1, S1, Le.refl, h1.le l1, s1, k1⟩, ?_⟩
  rintro i m σ H ⟨rfl, hi, sd, ρ, S, l, z1, z2, z3⟩
  by_cases hlt : i < t.ds.length
  · right
    rw [List.drop_eq_getElem_cons hlt] at z3
    unfold forD at z3
    by_cases hck : t.chk S
    · rw [if_pos hck] at z3
      obtain ⟨c1, c2, c3⟩ := ok ρ H S l z2 hck
      refine ⟨c1 i hlt, fun σ' H' => ∃ sd ρ S, Le ρ1 H1 ρ H' ∧ Slots (cx X T) ρ H' sd σ' ∧ SRep (cx X T) ρ H' S ∧ EndS (cx X T) W Dn ρ H' (forD g F t.chk (t.ds.drop (i + 1)) sd S), fun σ' H' z => ⟨t.ds.length - (i + 1), by omega, rfl, hlt, z⟩, fun x H' y => ?_⟩
      obtain ⟨q1, q2, q3⟩ := c3 i x H' y t.ds[i] (by simp [hlt])
      cases eg : g t.ds[i] sd S with
      | none => rw [eg] at z3; exact z3.elim
      | some z =>
        rw [eg] at z3
        refine ⟨t.ds[i], sd, ρ, S, z, q3, z1.le q1, q2, eg, fun σ2 ρ2 H2 l2 _ w1 w2 => ?_⟩
        have L1 := q1.trans l2
        refine ⟨z.1, ρ2, z.2, w1, w2, ?_⟩
        have z4 := EndS.base L1 z3
        dsimp only at z4
        cases ef : F z.1 z.2 with
        | nx sd' S' =>
          rw [ef] at z4
          exact fun σ' ρ' H' l' y1 y2 => ⟨sd', ρ', S', l.trans (L1.trans l'), y1, y2, EndS.base l' z4⟩
        | ct sd' S' =>
          rw [ef] at z4
          exact fun σ' ρ' H' l' y1 y2 => ⟨sd', ρ', S', l.trans (L1.trans l'), y1, y2, EndS.base l' z4⟩
        | bk sd' S' => rw [ef] at z4; exact z4
        | rt d S' => rw [ef] at z4; exact z4
        | exc e sd' S' => rw [ef] at z4; exact z4
        | bad => rw [ef] at z4; exact z4
    · rw [if_neg hck] at z3
      exact z3.elim
  · left
    have e : i = t.ds.length := by omega
    subst e
    rw [List.drop_length] at z3
    unfold forD at z3
    by_cases hck : t.chk S
    · rw [if_pos hck] at z3
      obtain ⟨c1, c2, c3⟩ := ok ρ H S l z2 hck
      exact ⟨c2, z3 σ ρ H Le.refl z1 z2⟩
    · rw [if_neg hck] at z3
      exact z3.elim
/-! ### list comprehensions -/
def WN : WX := fun _ _ _ _ => False
def wipeD (sd : SD) : List Nat → SD
  | [] => sd
  | v :: vs => (wipeD sd vs).set v none
theorem wipeD_slots {C : Ctx} {ρ : List Addr} {H : Hp} {sd : SD} {σ : St} (h : Slots C ρ H sd σ) : ∀ vs : List Nat, Slots C ρ H (wipeD sd vs) (wipe σ vs)
  | [] => h
  | v :: vs => by
    have ih := wipeD_slots h vs
    refine ⟨by unfold wipeD wipe; simp [ih.len], fun i d e => ?_⟩
    unfold wipeD at e
    unfold wipe
    by_cases hv : v = i
    · subst hv
      by_cases hl : v < (wipeD sd vs).length
      · rw [List.getElem?_set_self hl] at e; cases e
      · rw [List.getElem?_eq_none (by simpa using hl)] at e; cases e
    · rw [List.getElem?_set_ne hv] at e
      obtain ⟨w, e1, r⟩ := ih.at_ i d e
      exact ⟨w, by rw [List.getElem?_set_ne hv]; exact e1, r⟩
theorem wipe_at (σ : St) : ∀ (vs : List Nat) (j : Nat), (wipe σ vs)[j]? = if j ∈ vs then (if j < σ.length then some none else none) else σ[j]?
  | [], j => by simp [wipe]
  | v :: vs, j => by
    have ih := wipe_at σ vs j
    unfold wipe
    by_cases h : v = j
    · subst h
      by_cases hl : v < (wipe σ vs).length
      · have hl2 : v < σ.length := by rw [wipe_length] at hl; exact hl
        rw [List.getElem?_set_self hl]
        simp [hl2]
      · have hl2 : ¬ v < σ.length := by rw [wipe_length] at hl; exact hl
        rw [List.getElem?_eq_none (by simpa using hl)]
        simp [hl2]
    · have h' : j ≠ v := fun e => h e.symm
      rw [List.getElem?_set_ne h, ih]
      simp [h']
theorem wipe_off {vs : List Nat} {σ σ' : St} (h : Off vs (wipe σ vs) σ') : wipe σ' vs = wipe σ vs := by
  refine List.ext_getElem? fun j => ?_
  have hl : σ'.length = σ.length := by rw [h.1, wipe_length]
  rw [wipe_at, wipe_at, hl]
  by_cases hj : j ∈ vs
  · simp [hj]
  · simp only [hj, if_false]
    rw [h.2 j hj, wipe_at]
    simp [hj]
noncomputable def lcD (n : Nat) (g : GD) (tt : EB) (te : EE) (vs : List Nat) (chk : Store → Prop) (sd : SD) : List D → Store → Option Store
  | [], S => if chk S then some S else none
  | d :: ds, S => if chk S then match g d (wipeD sd vs) S with
    | some (sd1, S1) => match tt sd1 S1 with
      | .ok true S2 => match te sd1 S2 with
        | .ok y S3 => match S3[n]? with
          | some (.lst acc) => if fits (acc.length + 1) then lcD n g tt te vs chk sd ds (S3.set n (.lst (acc ++ [y]))) else none
          | _ => none
        | _ => none
      | .ok false S2 => lcD n g tt te vs chk sd ds S2
      | _ => none
    | none => none else none
noncomputable def eLc (it : EI) (g : GD) (tt : EB) (te : EE) (vs : List Nat) : EE := eBind it fun t => fun sd S => match lcD S.length g tt te vs t.chk sd t.ds (S ++ [.lst []]) with
  | some S' => .ok (.ref S.length) S'
  | none => .bad
def bTrue : EB := fun _ S => .ok true S
variable {tt : EB} {te : EE}
theorem ts_nil : PTs X [] (LB (cx X T) W bTrue) := ⟨fun pins s σ H Q I ⟨sd, ρ, S, h1, h2, h3⟩ => pts_nil.run pins s σ H Q I (h3 true ρ H Le.refl h2 rfl)⟩
theorem ts_one (h : PT X c (LB (cx X T) W tc)) : PTs X [c] (LB (cx X T) W tc) := pts_one h
theorem eLc_run {σ : St} {H : Hp} {Q : VK} (h : LE (cx X T) W (eLc it g tt te vs) σ H Q) : tLc (LI (cx X T) W it) (LT (cx X T) vs g) (LB (cx X T) WN tt) (LE (cx X T) WN te) vs σ H Q := by
  obtain ⟨sd, ρ, S, h1, h2, h3⟩ := h
  refine LG.run h1 h2 h3 fun t J ρ1 S1 H1 l1 s1 ok k1 => ?_
  intro p hp
  cases er : lcD S1.length g tt te vs t.chk sd t.ds (S1 ++ [.lst []]) with
  | none => rw [er] at k1; exact k1.elim
  | some Sr =>
    rw [er] at k1
    have s2 : SRep (cx X T) (ρ1 ++ [p]) (upd H1 p (.lst [])) (S1 ++ [.lst []]) := s1.push hp ⟨[], upd_same, Reps.nil⟩
    have hat : (ρ1 ++ [p])[S1.length]? = some p := by rw [← s1.len, List.getElem?_append_right (Nat.le_refl _)]; simp
    have b1 := h1.le l1
    refine ⟨fun i m H => m = t.ds.length - i ∧ i ≤ t.ds.length ∧ ∃ ρ S, Le (ρ1 ++ [p]) (upd H1 p (.lst [])) ρ H ∧ SRep (cx X T) ρ H S ∧ lcD S1.length g tt te vs t.chk sd (t.ds.drop i) S = some Sr,
      ⟨_, rfl, Nat.zero_le _, ρ1 ++ [p], _, Le.refl, s2, er⟩, ?_⟩
    rintro i m H ⟨rfl, hi, ρ, S, l, z2, z3⟩
    have lb := (Le.newR (o := .lst []) hp).trans l
    by_cases hlt : i < t.ds.length
    · right
      rw [List.drop_eq_getElem_cons hlt] at z3
      unfold lcD at z3
      split at z3
      · rename_i hck
        obtain ⟨c1, c2, c3⟩ := ok ρ H S lb z2 hck
        refine ⟨c1 i hlt, fun H' => ∃ ρ S, Le (ρ1 ++ [p]) (upd H1 p (.lst [])) ρ H' ∧ SRep (cx X T) ρ H' S ∧ lcD S1.length g tt te vs t.chk sd (t.ds.drop (i + 1)) S = some Sr, fun H' z => ⟨t.ds.length - (i + 1), by omega, rfl, hlt, z⟩, fun x H' y => ?_⟩
        obtain ⟨q1, q2, q3⟩ := c3 i x H' y t.ds[i] (by simp [hlt])
        have bw := wipeD_slots (b1.le (lb.trans q1)) vs
        cases eg : g t.ds[i] (wipeD sd vs) S with
        | none => rw [eg] at z3; cases z3
        | some z =>
          rw [eg] at z3
          refine ⟨t.ds[i], wipeD sd vs, ρ, S, z, q3, bw, q2, eg, fun σ2 ρ2 H2 l2 of w1 w2 => ⟨wipe_off of, ?_⟩⟩
          refine ⟨z.1, ρ2, z.2, w1, w2, ?_⟩
          dsimp only at z3
          cases et : tt z.1 z.2 with
          | bad => rw [et] at z3; cases z3
          | exc e S' => rw [et] at z3; cases z3
          | ok k S2 =>
            rw [et] at z3
            intro k' ρ3 H3 l3 w3 ek
            cases ek
            have L3 := (q1.trans l2).trans l3
            cases k with
            | false => exact ⟨ρ3, S2, l.trans L3, w3, z3⟩
            | true =>
              rw [if_pos rfl]
              refine ⟨z.1, ρ3, S2, w1.le l3, w3, ?_⟩
              dsimp only at z3
              cases ee : te z.1 S2 with
              | bad => rw [ee] at z3; cases z3
              | exc e S' => rw [ee] at z3; cases z3
              | ok y S3 =>
                rw [ee] at z3
                intro v ρ4 H4 l4 w4 r4
                dsimp only at z3
                split at z3
                · rename_i acc hacc
                  split at z3
                  · rename_i hf
                    have L4 := l.trans (L3.trans l4)
                    obtain ⟨xs, q5, q6⟩ := w4.at_ S1.length p _ (L4.at hat) hacc
                    refine ⟨xs, q5, by have := fits_line hf; rw [← q6.length]; omega, ?_⟩
                    obtain ⟨l5, s5⟩ := w4.lst_upd (L4.at hat) hacc q5 (q6.append (Reps.cons r4 Reps.nil))
                    exact ⟨ρ4, _, L4.trans l5, s5, z3⟩
                  · cases z3
                · cases z3
      · cases z3
    · left
      have e : i = t.ds.length := by omega
      subst e
      rw [List.drop_length] at z3
      unfold lcD at z3
      split at z3
      · rename_i hck
        obtain ⟨c1, c2, c3⟩ := ok ρ H S lb z2 hck
        cases z3
        exact ⟨c2, k1 _ ρ H lb z2 (rep_ref.mpr ⟨p, l.at hat, rfl⟩)⟩
      · cases z3
theorem e_lc {elt : Expr} {ifs : List Expr} {scope : Scope} {own : List (Str × Nat)} (hc : X.calm = true) (hN : X.N.Nodup) (hi : PI X tg iter (LI (cx X T) W it)) (ok : BlkOk X.N X.env.scope scope own)
    (hg : ∀ (s : Shared) (H : Hp) (C : Addr) (cl : List (Str × Addr)) (fp : List Addr), PG (X.blk s H scope (compEnvC scope cl C X.env) fp) tg (LT (cx X T) (own.map (·.2)) g))
    (ht : ∀ (s : Shared) (H : Hp) (C : Addr) (cl : List (Str × Addr)) (fp : List Addr), PTs (X.blk s H scope (compEnvC scope cl C X.env) fp) ifs (LB (cx X T) WN tt))
    (he : ∀ (s : Shared) (H : Hp) (C : Addr) (cl : List (Str × Addr)) (fp : List Addr), PE (X.blk s H scope (compEnvC scope cl C X.env) fp) elt (LE (cx X T) WN te)) (hs : ∀ x, foldedSetIterable iter X.env x = pure x := by intro _; rfl) :
    PE X (.ListComp elt [⟨tg, iter, ifs, 0⟩] scope pos) (LE (cx X T) W (eLc it g tt te (own.map (·.2)))) := (pe_lc hc hN hi ok hg ht he hs).imp fun _ _ _ h => eLc_run h
theorem s_setLc {i : Nat} {y : Str} {py spos : Pos} {elt : Expr} {ifs : List Expr} {scope : Scope} {own : List (Str × Nat)} (hc : X.calm = true) (hN : X.N.Nodup) (hy : X.N[i]? = some y) (hyl : X.env.scope.names.lookup y = some .local)
    (hsw : swapsWith (.ListComp elt [⟨tg, iter, ifs, 0⟩] scope pos) (some (.Name y py)) spos.line X.env = pure true) (hi : PI X tg iter (LI (cx X T) W it)) (ok : BlkOk X.N X.env.scope scope own)
    (hg : ∀ (s : Shared) (H : Hp) (C : Addr) (cl : List (Str × Addr)) (fp : List Addr), PG (X.blk s H scope (compEnvC scope cl C X.env) fp) tg (LT (cx X T) (own.map (·.2)) g))
    (ht : ∀ (s : Shared) (H : Hp) (C : Addr) (cl : List (Str × Addr)) (fp : List Addr), PTs (X.blk s H scope (compEnvC scope cl C X.env) fp) ifs (LB (cx X T) WN tt))
    (he : ∀ (s : Shared) (H : Hp) (C : Addr) (cl : List (Str × Addr)) (fp : List Addr), PE (X.blk s H scope (compEnvC scope cl C X.env) fp) elt (LE (cx X T) WN te)) (hs : ∀ x, foldedSetIterable iter X.env x = pure x := by intro _; rfl) :
    PS X (.Assign [.Name y py] (.ListComp elt [⟨tg, iter, ifs, 0⟩] scope pos) spos) (LS (cx X T) W (sSet i (eLc it g tt te (own.map (·.2))))) := (ps_setLc hc hN hy hyl hsw hi ok hg ht he hs).imp fun Dn σ H ⟨sd, ρ, S, h1, h2, h3⟩ => by
  have z : LE (cx X T) W (eLc it g tt te (own.map (·.2))) σ H fun x H1 => Dn.nx (σ.set i (some x)) H1 := LS.run h1 h2 h3 fun dx x ρ1 S1 H1 l1 s1 r1 k1 => k1 _ ρ1 H1 Le.refl ((h1.le l1).set r1) s1
  exact eLc_run z
end
end Lay

set_option Elab.async false
set_option linter.all false
set_option maxRecDepth 100000
set_option maxHeartbeats 4000000
/-! L5: methods of lists, defs and their calls, kinds of values. -/
namespace Lay
open PySem PySem.Spec PyProof.Rows L2
/-! ### methods of lists -/
abbrev PM := D → List D → Store → Pr D
def isL (x : D) (S : Store) : Bool := match x with
  | .ref n => (rdL S n).isSome
  | _ => false
def eMthL (g : PM) (fo : EE) (aa : EA) : EE := eBind fo fun x => eBind (fun _ S => if isL x S then .ok () S else .bad) fun _ => eBind aa fun xs => fun _ S => .ofO (g x xs S)
def rM (C : Ctx) (g : PM) : V → List V → Hp → VK → Prop := fun x xs H Q => ∃ dx ds ρ S, Rep C ρ H dx x ∧ Reps C ρ H ds xs ∧ SRep C ρ H S ∧ EndP C ρ H (RD C) (g dx ds S) Q
section
variable {X : Cx} {T : List Cls} {W : WX} {o e : Expr} {es : List Expr} {fo : EE} {aa : EA} {name : Str} {apos cpos : Pos} {id : String} {g : PM}
theorem eMthL_run {σ : St} {H : Hp} {Q : VK} (h : LE (cx X T) W (eMthL g fo aa) σ H Q) : tBM X.K "list" (rM (cx X T) g) (LE (cx X T) W fo) (LA (cx X T) W aa) σ H Q := by
  obtain ⟨sd, ρ, S, h1, h2, h3⟩ := h
  refine LG.run h1 h2 h3 fun dx x ρ1 S1 H1 l1 s1 r1 k1 => ?_
  rw [eBind_of] at k1
  cases q : isL dx S1 with
  | false => simp only [q] at k1; exact k1.elim
  | true =>
    simp only [q, if_true, bind_ok] at k1
    unfold isL at q
    split at q
    · rename_i n
      obtain ⟨ds, hd⟩ := Option.isSome_iff_exists.mp q
      obtain ⟨a, xs, rfl, q1, q2⟩ := s1.rd r1 hd
      refine ⟨.inl ⟨rfl, xs, q1⟩, ?_⟩
      refine LG.run (h1.le l1) s1 k1 fun dy y ρ2 S2 H2 l2 s2 r2 k2 => ?_
      exact ⟨.ref n, dy, ρ2, S2, Rep.le l2 r1, r2, s2, k2.pr⟩
    · cases q
theorem e_mthL (slot : Slot "list" name id) (hty : typeOf (.builtin id) = pure (.type "method_descriptor")) (hm : MtR X id (rM (cx X T) g)) (ho : PE X o (LE (cx X T) W fo)) (ha : PA X (e :: es) (LA (cx X T) W aa))
    (hbase : attributeBase o name X.env (eval o X.env) = eval o X.env := by rfl)
    (hfew : ((backTo cpos (starEach (e :: es) X.env)).all (fun x => !x.1) && (backToKw cpos (keywordEach [] X.env)).all (fun x => x.1.isSome)
      && decide ((e :: es).length + ([] : List Keyword).length + (if ([] : List Keyword).isEmpty then 0 else 1) < 30)) = true := by rfl)
    (hline : (apos.endLine == cpos.line) = true := by rfl) (hs : starEach (e :: es) X.env = (false, eval e X.env) :: starEach es X.env := by rfl) (hplain : (backTo cpos (starEach es X.env)).any (·.1) = false := by rfl) :
    PE X (.Call (.Attribute o name apos) (e :: es) [] cpos) (LE (cx X T) W (eMthL g fo aa)) := (pe_bm PySem.F.plainAttrs_list slot hty hm ho ha hbase hfew hline hs hplain).imp fun _ _ _ h => eMthL_run h
def pAppend : PM := fun x xs S => match x, xs with
  | .ref n, [y] => match S[n]? with
    | some (.lst ds) => if fits (ds.length + 1) then some (.non, S.set n (.lst (ds ++ [y]))) else none
    | _ => none
  | _, _ => none
theorem mt_pAppend : MtR X "list.append" (rM (cx X T) pAppend) := by
  intro pins s σ H x xs v us Q I rx rs ⟨dx, ds, ρ, S, h1, h2, h3, z, hz, k⟩
  unfold pAppend at hz
  split at hz
  · rename_i n y
    split at hz
    · rename_i ds hs
      split at hz
      · rename_i hf
        cases hz
        obtain ⟨a, ws, q0, rfl, q1, q2⟩ := h3.lst h1 hs
        obtain ⟨w, rfl, r⟩ := h2.one
        obtain ⟨l, s1⟩ := h3.lst_upd q0 hs q1 (q2.append (Reps.cons r Reps.nil))
        exact mt_append pins s σ H _ _ v us Q I rx rs ⟨a, ws, w, rfl, rfl, q1, by have := fits_line hf; rw [← q2.length]; omega, k _ _ _ l s1 (rep_non.mpr rfl)⟩
      · cases hz
    · cases hz
  · cases hz
def pPopAt : PM := fun x xs S => match x, xs with
  | .ref n, [.int i] => match S[n]? with
    | some (.lst ds) => if fits ds.length then (match ixN ds.length i with
      | some j => (ds[j]?).map fun d => (d, S.set n (.lst (ds.eraseIdx j)))
      | none => none) else none
    | _ => none
  | _, _ => none
theorem mt_pPopAt : MtR X "list.pop" (rM (cx X T) pPopAt) := by
  intro pins s σ H x xs v us Q I rx rs ⟨dx, ds, ρ, S, h1, h2, h3, z, hz, k⟩
  unfold pPopAt at hz
  split at hz
  · rename_i n i
    split at hz
    · rename_i ds hs
      split at hz
      · rename_i hf
        split at hz
        · rename_i j hj
          obtain ⟨d, hd, rfl⟩ := Option.map_eq_some_iff.mp hz
          obtain ⟨a, ws, q0, rfl, q1, q2⟩ := h3.lst h1 hs
          obtain ⟨w, rfl, r⟩ := h2.one
          obtain rfl := rep_int.mp r
          obtain ⟨y, e1, r1⟩ := q2.get hd
          obtain ⟨l, s1⟩ := h3.lst_upd q0 hs q1 (q2.eraseIdx j)
          obtain ⟨i1, i2, i3, i4⟩ := ixN_seq hj
          have hb := of_decide_eq_true (p := ds.length ≤ 16777216) hf
          exact mt_popAt pins s σ H _ _ v us Q I rx rs ⟨a, ws, i, j, y, rfl, rfl, q1, by omega, by omega, by rw [← q2.length]; exact i1, e1, k _ _ _ l s1 (r1.le l)⟩
        · cases hz
      · cases hz
    · cases hz
  · cases hz
end
/-! ### defs -/
def startD (n : Nat) (ds : List D) : SD := ds.map some ++ List.replicate (n - ds.length) none
def fnD (n np : Nat) (F : FF) : List D → M D := fun ds S => if ds.length = np then match F (startD n ds) S with
  | .nx _ S' => .ok .non S'
  | .rt d S' => .ok d S'
  | .exc e _ S' => .exc e S'
  | _ => .bad else .bad
def EndF (C : Ctx) (ρ : List Addr) (H : Hp) (r : Res D) (Q : VK) (E : XK) : Prop :=
  match r with
  | .ok d S' => ∀ v ρ' H', Le ρ H ρ' H' → SRep C ρ' H' S' → Rep C ρ' H' d v → Q v H'
  | .exc e S' => ∀ cls d ρ' H', Le ρ H ρ' H' → SRep C ρ' H' S' → ExRep C ρ' H' e cls d → E cls d H'
  | .bad => False
def spD (C : Ctx) (g : List D → M D) : Sp := fun vs H Q E => ∃ ds ρ S, Reps C ρ H ds vs ∧ SRep C ρ H S ∧ EndF C ρ H (g ds S) Q E
abbrev WF (E : XK) : WX := fun cls d _ H => E cls d H
theorem slots_start {C : Ctx} {ρ : List Addr} {H : Hp} {ds : List D} {vs : List V} (N : List Str) (r : Reps C ρ H ds vs) : Slots C ρ H (startD N.length ds) (L2.start N vs) := by
  refine ⟨by unfold startD L2.start; simp [r.length], fun i d e => ?_⟩
  unfold startD at e
  unfold L2.start
  by_cases hi : i < ds.length
  · rw [List.getElem?_append_left (by simpa using hi), List.getElem?_map] at e
    have hv : i < vs.length := by rw [← r.length]; exact hi
    rw [List.getElem?_append_left (by simpa using hv), List.getElem?_map]
    cases q : ds[i]? with
    | none => rw [q] at e; cases e
    | some d' =>
      rw [q] at e
      cases e
      obtain ⟨v, h1, h2⟩ := r.get q
      exact ⟨v, by rw [h1]; rfl, h2⟩
  · rw [List.getElem?_append_right (by simpa using hi), List.getElem?_replicate] at e
    split at e <;> cases e
theorem LS.start {C : Ctx} {N : List Str} {np : Nat} {F : FF} {vs : List V} {H : Hp} {Q : VK} {E : XK} (h : spD C (fnD N.length np F) vs H Q E) : LS C (WF E) F { nx := fun _ H' => Q .non H', rt := Q } (L2.start N vs) H := by
  obtain ⟨ds, ρ, S, r, s, h⟩ := h
  refine ⟨startD N.length ds, ρ, S, slots_start N r, s, ?_⟩
  unfold fnD at h
  by_cases hl : ds.length = np
  case neg => rw [if_neg hl] at h; exact h.elim
  rw [if_pos hl] at h
  cases e : F (startD N.length ds) S with
  | nx sd S' => rw [e] at h; exact fun σ' ρ' H' l _ s' => h .non ρ' H' l s' (rep_non.mpr rfl)
  | rt d S' => rw [e] at h; exact h
  | exc x sd S' => rw [e] at h; exact fun c d σ' ρ' H' l _ s' r' => h c d ρ' H' l s' r'
  | bk sd S' => rw [e] at h; exact h.elim
  | ct sd S' => rw [e] at h; exact h.elim
  | bad => rw [e] at h; exact h.elim
section
variable {P : Program} {w : World} {K : PySem.W.Frag} {mg : Str → Option Value} {base : Heap}
/-- the context of a def's body -/
abbrev bx (P : Program) (w : World) (K : PySem.W.Frag) (mg : Str → Option Value) (base : Heap) (N : List Str) (qual : Str) (scope : Scope) (f : Addr) (cdv : Value) (A : Around) (outer : List Env) (s : Shared) (H : Hp) (E : XK) : Cx := cxOf (L2.CX P w) P w K mg base N qual scope f cdv A outer s H E
theorem takesB {N : List Str} {qual : Str} {scope : Scope} {f : Addr} {cdv : Value} {A : Around} {outer : List Env} {s : Shared} {H : Hp} {E : XK} : Takes (bx P w K mg base N qual scope f cdv A outer s H E) (WF E) := takes_of rfl rfl rfl rfl
theorem passB {N : List Str} {qual : Str} {scope : Scope} {f : Addr} {cdv : Value} {A : Around} {outer : List Env} {s : Shared} {H : Hp} {E : XK} : PassesOwn (model P w) (bx P w K mg base N qual scope f cdv A outer s H E).A (bx P w K mg base N qual scope f cdv A outer s H E).env (bx P w K mg base N qual scope f cdv A outer s H E).xe := passes_of rfl
/-- a def does what our function says -/
abbrev DefOk (P : Program) (w : World) (K : PySem.W.Frag) (mg : Str → Option Value) (base : Heap) (T : List Cls) (k : Nat) (f : Addr) (fd : FuncData) (ps : List Str) (g : List D → M D) : Prop := FnOk P w K mg base (L2.CX P w) k f fd ps (spD ⟨K, T⟩ g)
theorem defOk {x qual : Str} {st : Stmt} {f : Addr} {fd : FuncData} {N ps : List Str} {k : Nat} {T : List Cls} {F : FF} (Fn : Fun K x qual st f fd) (S : FnScope N ps (defScope st))
    (body : ∀ (cdv : Value) (A : Around) (outer : List Env) (s : Shared) (H : Hp) (E : XK), Room k (bx P w K mg base N qual (defScope st) f cdv A outer s H E).A →
      PSs (bx P w K mg base N qual (defScope st) f cdv A outer s H E) (defBody st) (LS ⟨K, T⟩ (WF E) F)) : DefOk P w K mg base T (k + 1) f fd ps (fnD N.length ps.length F) := by
  refine Fn.okX S (fun vs H Q E h => ?_) (fun cdv A outer s H vs Q E hr h => ⟨_, body cdv A outer s H E hr, LS.start h⟩)
  obtain ⟨ds, ρ, S, r, _, h⟩ := h
  rw [← r.length]
  unfold fnD at h
  by_cases hl : ds.length = ps.length
  · exact hl
  · rw [if_neg hl] at h
    exact h.elim
end
/-! ### calls -/
def eCall (g : List D → M D) (aa : EA) : EE := eBind aa fun xs => fun _ S => g xs S
theorem EndR.fn {C : Ctx} {W : WX} {σ : St} {ρ : List Addr} {H : Hp} {r : Res D} {Q : VK} (h : EndR C W σ ρ H (RD C) r Q) : EndF C ρ H r Q (WE W σ) := by
  cases r with
  | ok d S => exact h
  | exc e S => exact h
  | bad => exact h
section
variable {X : Cx} {T : List Cls} {W : WX} {e : Expr} {es : List Expr} {aa : EA} {pos p : Pos} {x : Str} {k : Nat} {f : Addr} {fd : FuncData} {ps : List Str} {g : List D → M D}
/-- f(e, ..) -/
theorem e_call (F : DefOk X.prog X.w X.K X.mg X.base T k f fd ps g) (tk : Takes X W) (hr : Room k X.A) (hg : Gl X x) (hm : X.mg x = some (.ref f)) (hk : PySem.W.keepIn X.K (.ref f) = true) (hb : Binds X.K fd ps [])
    (ha : PA X (e :: es) (LA (cx X T) W aa)) (hdb : (x == ("__debug__" : Str)) = false := by decide) (he : starEach (e :: es) X.env = (false, eval e X.env) :: starEach es X.env := by rfl) (hpl : (backTo pos (starEach es X.env)).any (·.1) = false := by rfl) :
    PE X (.Call (.Name x p) (e :: es) [] pos) (LE (cx X T) W (eCall g aa)) := (pe_callSD (E := WE W) F hr hg hm hk hb .nil (fun σ => passAt tk σ) ha hdb he hpl).imp fun σ H Q ⟨sd, ρ, S, h1, h2, h3⟩ => by
  refine LG.run h1 h2 h3 fun ds us ρ1 S1 H1 l1 s1 r1 k1 => ?_
  rw [List.append_nil]
  exact ⟨ds, ρ1, S1, r1, s1, k1.fn⟩
end
end Lay

set_option Elab.async false
set_option linter.all false
set_option maxRecDepth 100000
set_option maxHeartbeats 4000000
/-! L6: calls by keywords; kinds of values, isinstance; fields of exceptions. -/
namespace Lay
open PySem PySem.Spec PyProof.Rows L2
/-! ### keywords -/
def permA {α : Type} (perm : List Nat) (l : List α) : List α := perm.filterMap fun i => l[i]?
theorem Reps.perm {C : Ctx} {ρ : List Addr} {H : Hp} {ds : List D} {vs : List V} (r : Reps C ρ H ds vs) : ∀ perm : List Nat, Reps C ρ H (permA perm ds) (permA perm vs)
  | [] => Reps.nil
  | i :: is => by
    have ih := Reps.perm r is
    unfold permA at ih ⊢
    rw [List.filterMap_cons, List.filterMap_cons]
    cases e : ds[i]? with
    | none =>
      have e2 : vs[i]? = none := by
        rw [List.getElem?_eq_none_iff] at e ⊢
        rw [← r.length]; exact e
      rw [e2]
      exact ih
    | some d =>
      obtain ⟨v, h1, h2⟩ := r.get e
      rw [h1]
      exact Reps.cons h2 ih
theorem vals_perm {vs : List V} {us : List Value} (r : Vals vs us) : ∀ perm : List Nat, Vals (permA perm vs) (permA perm us)
  | [] => .nil
  | i :: is => by
    have ih := vals_perm r is
    unfold permA at ih ⊢
    rw [List.filterMap_cons, List.filterMap_cons]
    cases e : vs[i]? with
    | none => rw [r.none_of e]; exact ih
    | some d =>
      obtain ⟨v, h1, h2⟩ := r.get e
      rw [h1]
      exact .cons h2 ih
section
variable {X : Cx} {T : List Cls} {W : WX} {e a : Expr} {kws : List Keyword} {aa : EA} {fa : EE} {pos p kpos : Pos} {x f' : Str} {nm : Option Str} {k : Nat} {f : Addr} {fd : FuncData} {ps ks : List Str} {g : List D → M D}
abbrev LK (X : Cx) (T : List Cls) (W : WX) (kws : List Keyword) (aa : EA) : Prop := PK X kws (LA (cx X T) W aa)
theorem k_nil : LK X T W [] aNil := ⟨fun pos pins s σ H Q I ⟨sd, ρ, S, h1, h2, h3⟩ => pk_nil.run pos pins s σ H Q I (h3 [] ρ H Le.refl h2 Reps.nil)⟩
theorem k_cons (ha : PE X e (LE (cx X T) W fa)) (hr : LK X T W kws aa) : LK X T W (⟨nm, e, kpos⟩ :: kws) (aCons fa aa) := ⟨fun pos pins s σ H Q I ⟨sd, ρ, S, h1, h2, h3⟩ => (pk_cons ha hr).run pos pins s σ H Q I (by
    refine LG.run h1 h2 h3 fun dx x ρ1 S1 H1 l1 s1 r1 k1 => ?_
    refine LG.run (h1.le l1) s1 k1 fun dy y ρ2 S2 H2 l2 s2 r2 k2 => ?_
    exact k2 _ ρ2 H2 Le.refl s2 (Reps.cons (Rep.le l2 r1) r2))⟩
def eCallKw (g : List D → M D) (perm : List Nat) (aa : EA) : EE := eBind aa fun xs => fun _ S => g (permA perm xs) S
theorem e_callKw {perm : List Nat} (F : DefOk X.prog X.w X.K X.mg X.base T k f fd ps g) (tk : Takes X W) (hr : Room k X.A) (hg : Gl X x) (hm : X.mg x = some (.ref f)) (hk : PySem.W.keepIn X.K (.ref f) = true)
    (hb : ∀ (s : Shared) (ws : List Value), X.K.In s.heap → (permA perm ws).length = ps.length → BindsTo s fd ⟨[], ks.zip ws⟩ (ps.zip (permA perm ws)))
    (hkw : LK X T W kws aa) (hall : (backToKw pos (keywordEach kws X.env)).all (·.1.isSome) = true := by rfl) (hks : (backToKw pos (keywordEach kws X.env)).filterMap (·.1) = ks := by rfl)
    (hdb : (x == ("__debug__" : Str)) = false := by decide)
    (hpl : ((backTo pos (starEach [] X.env)).any (·.1) || (backToKw pos (keywordEach kws X.env)).any (·.1.isNone)) = false := by rfl) :
    PE X (.Call (.Name x p) [] kws pos) (LE (cx X T) W (eCallKw g perm aa)) := by
  refine ⟨fun pins s σ H Q I ⟨sd, ρ, S, h1, h2, h3⟩ => ?_⟩
  have go : LA (cx X T) W aa σ H fun vs H1 => spD (cx X T) g (permA perm vs) H1 Q (WE W σ) := by
    refine LG.run h1 h2 h3 fun ds us ρ1 S1 H1 l1 s1 r1 k1 => ?_
    exact ⟨permA perm ds, ρ1, S1, Reps.perm r1 perm, s1, k1.fn⟩
  refine wpAny_Call_Name_kw (ld_glob I hg hm ?_ hdb)
  refine PySem.W.callWith_KW0 (h₀ := X.base) I.ok.mod.kin hk hall (thn (hkw.run pos pins s σ H _ I go) fun ws s1 ⟨zs, H1, I1, rz, q⟩ => ⟨I1.kIn, ?_⟩) hpl
  rw [hks]
  have r2 := vals_perm rz perm
  have hl : (permA perm ws).length = ps.length := by
    rw [← r2.length]
    exact F.len _ _ _ _ q
  refine wpAny_call (codeAny_mono (F.run X.A X.stack s1 H1 ⟨[], ks.zip ws⟩ (permA perm ws) (permA perm zs) Q (WE W σ) hr I1.env0 (hb s1 ws I1.kIn hl) r2 q) fun res s' hq => ?_)
  rcases res with er | fl
  · exact passAt tk σ pins H1 s1 er s' I1 hq
  · cases fl with
    | ret u => exact I1.after hq
    | _ => exact hq.elim
/-! ### kinds -/
inductive Kd where
  | ty (n : String)
  | own (c : Nat)
  deriving DecidableEq
def kd (x : D) (S : Store) : Option Kd := match x with
  | .non => some (.ty "NoneType")
  | .bl _ => some (.ty "bool")
  | .int _ => some (.ty "int")
  | .str _ => some (.ty "str")
  | .tup _ => some (.ty "tuple")
  | .exn c _ => some (.own c)
  | .ref n => match S[n]? with
    | some (.lst _) => some (.ty "list")
    | some (.ro _) => some (.ty "list")
    | some (.dct _) => some (.ty "dict")
    | some (.dlk _) => some (.ty "dict")
    | none => none
def kdV (C : Ctx) : Kd → Value
  | .ty n => .type n
  | .own c => .ref (C.addr c)
def kdR (C : Ctx) : Kd → V
  | .ty n => .ty n
  | .own c => .ref (C.addr c)
/-- what an exception class of ours must say -/
structure XcOk (K : PySem.W.Frag) (D : Addr) : Prop where
  cl : (PySem.W.clsIn K D).isSome = true
  ga : PySem.W.findIn K (.ref D) "__getattribute__" = some (some (.builtin "BaseException.__getattribute__"))
  gg : PySem.W.findIn K (.ref D) "__getattr__" = some none
  sb : PySem.W.subIn K (.ref D) (.type "BaseException") = some true
  ha : PySem.W.findIn K (.ref D) "__class__" = some (some (.builtin "object.__class__"))
  hn : PySem.W.specialIn K (.builtin "object.__class__") "__get__" = some (some (.builtin "getset_descriptor.__get__"))
  ht : PySem.W.takesIn K (.builtin "object.__class__") = some true
  hm : PySem.W.mroIn K D (.type "object") = some true
  hd : PySem.W.hasDictIn K D = true
  ty : PySem.W.typeIn K (.ref D) = some (.type "type")
  kp : PySem.W.keepIn K (.ref D) = true
def xcB (K : PySem.W.Frag) (D : Addr) : Bool := [(PySem.W.clsIn K D).isSome, decide (PySem.W.findIn K (.ref D) "__getattribute__" = some (some (.builtin "BaseException.__getattribute__"))), decide (PySem.W.findIn K (.ref D) "__getattr__" = some none),
  decide (PySem.W.subIn K (.ref D) (.type "BaseException") = some true), decide (PySem.W.findIn K (.ref D) "__class__" = some (some (.builtin "object.__class__"))), decide (PySem.W.specialIn K (.builtin "object.__class__") "__get__" = some (some (.builtin "getset_descriptor.__get__"))),
  decide (PySem.W.takesIn K (.builtin "object.__class__") = some true), decide (PySem.W.mroIn K D (.type "object") = some true), PySem.W.hasDictIn K D, decide (PySem.W.typeIn K (.ref D) = some (.type "type")), PySem.W.keepIn K (.ref D)].all id
theorem xcB_ok {K : PySem.W.Frag} {D : Addr} (h : xcB K D = true) : XcOk K D := by
  unfold xcB at h
  simp only [List.all_cons, List.all_nil, id, Bool.and_eq_true, decide_eq_true_eq, and_true] at h
  obtain ⟨h1, h2, h3, h4, h5, h6, h7, h8, h9, h10, h11⟩ := h
  exact ⟨h1, h2, h3, h4, h5, h6, h7, h8, h9, h10, h11⟩
/-- all classes of the table do -/
def XcAll (C : Ctx) : Prop := ∀ c, c < C.T.length → XcOk C.K (C.addr c)
/-- the object of an exception, with its dict -/
theorem exn_inst {σ : St} {H : Hp} {s : Shared} {pins : List (Addr × Obj)} {ρ : List Addr} {c : Nat} {ds : List D} {v : V} (I : Inv X pins σ H s) (r : Rep (cx X T) ρ H (.exn c ds) v) :
    c < T.length ∧ ∃ a oe od xs, v = .ref a ∧ PySem.W.InstAt s.heap a oe ((cx X T).addr c) od ∧ Reps (cx X T) ρ H ds xs ∧ xs.length = ((cx X T).flds c).length ∧
      (∀ (i : Nat) f, ((cx X T).flds c)[i]? = some f → ∃ o y u, od = some o ∧ xs[i]? = some y ∧ PySem.W.lookIn f o = some (some u) ∧ RelV y u) := by
  simp only [Rep] at r
  obtain ⟨a, d, xs, rfl, hc, ha, hd, hr⟩ := r
  obtain ⟨⟨oe, vs, h1, h2, h3⟩, _, _⟩ := I.hok a _ ha
  refine ⟨hc, ?_⟩
  obtain ⟨hl, hd⟩ := hd
  have hno : PySem.W.notCls oe = true := by unfold PySem.W.notCls; rw [h3] <;> rfl
  rcases hd with ⟨e0, rfl⟩ | ⟨dd, fs, rfl, hdd, lk⟩
  · have e2 : oe.dict = none := h2.2
    exact ⟨a, oe, none, xs, rfl, ⟨h1, h2.1, hno, by rw [e2]; trivial⟩, hr, hl, fun i f e => by rw [e0] at e; simp at e⟩
  · obtain ⟨mA, hns, hrel⟩ := (show ObjOk X.prog X.w H s.heap dd (.xd fs) from I.hok dd _ hdd)
    obtain ⟨od, ho, hlk⟩ := lookIn_ns hns
    have e2 : oe.dict = some dd := h2.2
    refine ⟨a, oe, some od, xs, rfl, ⟨h1, h2.1, hno, by rw [e2]; exact ho⟩, hr, hl, fun i f e => ?_⟩
    have hi : i < xs.length := by rw [hl]; exact (List.getElem?_eq_some_iff.mp e).1
    have e3 : xs[i]? = some xs[i] := by simp [hi]
    have e4 := lk i f e
    rw [e3] at e4
    obtain ⟨u, hu, ru⟩ := RelO.some_of (v := xs[i]) (o := mA f) (by rw [← e4]; exact hrel f)
    exact ⟨od, xs[i], u, rfl, e3, by rw [hlk f, hu], ru⟩
theorem kit_D {σ : St} {H : Hp} {s : Shared} {pins : List (Addr × Obj)} {ρ : List Addr} {S : Store} {d : D} {v : V} {u : Value} {k : Kd} (hX : XcAll (cx X T)) (I : Inv X pins σ H s) (sr : SRep (cx X T) ρ H S) (r : Rep (cx X T) ρ H d v) (rv : RelV v u) (e : kd d S = some k) :
    ∃ P : Heap → Prop, PySem.W.KitX X.K u (kdV (cx X T) k) P ∧ P s.heap ∧ u ≠ .builtin "__main__.__loader__#opaque" := by
  have tupK : ∀ {a : Addr} {xs : List V}, SqT X.K H a xs → TyX X.K H (.ref a) (.type "tuple") := fun {a xs} h => by
    rcases h with (h | ⟨o, h⟩) | ⟨o, its, n, h1, h2, _⟩
    · exact .base (.tup h)
    · exact .fTuple h
    · exact .kTuple h1 h2
  cases d with
  | non => cases e; rw [rep_non.mp r] at rv; exact kit_of I rv (.base .non)
  | bl b => cases e; rw [rep_bl.mp r] at rv; exact kit_of I rv (.base (.bl b))
  | int i => cases e; rw [rep_int.mp r] at rv; exact kit_of I rv (.base (.int i))
  | str x => cases e; rw [rep_str.mp r] at rv; exact kit_of I rv (.base (.str x))
  | tup ds =>
    cases e
    obtain ⟨a, xs, rfl, q1, _⟩ := rep_tup.mp r
    exact kit_of I rv (tupK q1)
  | ref n =>
    obtain ⟨a, q0, rfl⟩ := rep_ref.mp r
    simp only [kd] at e
    split at e
    · rename_i ds hs
      cases e
      obtain ⟨xs, q1, _⟩ := sr.at_ n a _ q0 hs
      exact kit_of I rv (.base (.lst q1))
    · rename_i ds hs
      cases e
      obtain ⟨xs, q1, _⟩ := sr.at_ n a _ q0 hs
      rcases q1 with ⟨o, q1⟩ | ⟨o, its, m, h1, h2, _⟩
      · exact kit_of I rv (.base (.frz q1))
      · exact kit_of I rv (.kList h1 h2)
    · rename_i ds hs
      cases e
      obtain ⟨xs, q1, _⟩ := sr.at_ n a _ q0 hs
      exact kit_of I rv (.base (.dK q1))
    · rename_i ds hs
      cases e
      obtain ⟨xs, o, q1, _⟩ := sr.at_ n a _ q0 hs
      exact kit_of I rv (.fDict q1)
    · cases e
  | exn c ds =>
    cases e
    obtain ⟨hc, a, oe, od, xs, rfl, J, _⟩ := exn_inst I r
    have x := hX c hc
    cases rv
    exact ⟨_, PySem.W.kitx_exc x.cl x.ga x.gg x.sb x.ha x.hn x.ht x.hm, J, fun z => nomatch z⟩
/-! ### isinstance -/
/-- is a value of the kind k one of the class t? -/
def subD (T : List Cls) : Kd → Kd → Bool
  | .ty a, .ty b => a == b || (a == "bool" && b == "int") || b == "object"
  | .own c, .own d => match T[c]? with
    | some q => q.sups.contains d
    | none => false
  | .own _, .ty b => b == "ValueError" || b == "Exception" || b == "BaseException" || b == "object"
  | .ty _, .own _ => false
def allKd (T : List Cls) : List Kd := [.ty "NoneType", .ty "bool", .ty "int", .ty "str", .ty "tuple", .ty "list", .ty "dict"] ++ (List.range T.length).map .own
theorem kd_all {C : Ctx} {ρ : List Addr} {H : Hp} {x : D} {v : V} {S : Store} {k : Kd} (r : Rep C ρ H x v) (e : kd x S = some k) : k ∈ allKd C.T := by
  cases x with
  | non => cases e; simp [allKd]
  | bl b => cases e; simp [allKd]
  | int i => cases e; simp [allKd]
  | str x => cases e; simp [allKd]
  | tup ds => cases e; simp [allKd]
  | ref n =>
    simp only [kd] at e
    split at e <;> first
      | (cases e; simp [allKd])
      | cases e
  | exn c ds =>
    cases e
    simp only [Rep] at r
    obtain ⟨a, d, xs, _, hc, _⟩ := r
    simp [allKd, hc]
/-- what the written part answers -/
def isiB (C : Ctx) (ts : List Kd) : Bool := (allKd C.T).all fun k => decide (PySem.W.kitAny C.K (kdV C k) (ts.map (kdV C)) = some (ts.any (subD C.T k)))
def isi1B (C : Ctx) (t : Kd) : Bool := (allKd C.T).all fun k => decide (PySem.W.kitOne C.K (kdV C k) (kdV C t) = some (subD C.T k t))
theorem isiB_ok {C : Ctx} {ts : List Kd} (h : isiB C ts = true) {k : Kd} (hk : k ∈ allKd C.T) : PySem.W.kitAny C.K (kdV C k) (ts.map (kdV C)) = some (ts.any (subD C.T k)) := of_decide_eq_true (List.all_eq_true.mp h k hk)
theorem isi1B_ok {C : Ctx} {t : Kd} (h : isi1B C t = true) {k : Kd} (hk : k ∈ allKd C.T) : PySem.W.kitOne C.K (kdV C k) (kdV C t) = some (subD C.T k t) := of_decide_eq_true (List.all_eq_true.mp h k hk)
theorem clsV_kd (C : Ctx) (k : Kd) : ClsV (kdR C k) (kdV C k) := by
  cases k with
  | ty n => exact .ty n
  | own c => exact .own _
def eIsi (T : List Cls) (ts : List Kd) (fa : EE) : EE := eBind fa fun x => fun _ S => match kd x S with
  | some k => .ok (.bl (ts.any (subD T k))) S
  | none => .bad
def rIs1 (C : Ctx) (t : Kd) : List V → Hp → VK → Prop := fun xs H Q => ∃ d x ρ S k, xs = [x, kdR C t] ∧ Rep C ρ H d x ∧ SRep C ρ H S ∧ kd d S = some k ∧ Q (.bl (subD C.T k t)) H
theorem call_is1 {t : Kd} (hX : XcAll (cx X T)) (h : isi1B (cx X T) t = true) : CallR X (.builtin "isinstance") (rIs1 (cx X T) t) := by
  intro pins s σ H xs us Q I r ⟨d, x, ρ, S, k, e1, r1, s1, e2, q⟩
  subst e1
  obtain ⟨u1, u2, rfl, p1, p2⟩ := vals2 r
  cases (clsV_kd (cx X T) t).eq p2
  obtain ⟨P, Z, pz, hx⟩ := kit_D hX I s1 r1 p1 e2
  exact PySem.W.kia_one Z I.kIn pz (isi1B_ok h (kd_all r1 e2)) hx fun tk => ⟨.bl _, H, I.tok tk, rfl, q⟩
variable {ec : Expr}
theorem e_isi1 {t : Kd} (hX : XcAll (cx X T)) (h : isi1B (cx X T) t = true) (hg : Gl X "isinstance") (hm : X.mg "isinstance" = none) (ha : PE X a (LE (cx X T) W fa)) (hc : PE X ec (tC (kdR (cx X T) t)))
    (he : starEach [a, ec] X.env = (false, eval a X.env) :: starEach [ec] X.env := by rfl) (he2 : starEach [ec] X.env = (false, eval ec X.env) :: starEach [] X.env := by rfl) (hpl : (backTo pos (starEach [ec] X.env)).any (·.1) = false := by rfl) :
    PE X (.Call (.Name "isinstance" p) [a, ec] [] pos) (LE (cx X T) W (eIsi T [t] fa)) :=
  (pe_callB (call_is1 hX h) hg hm (by decide +kernel) (pa_cons ha (pa_cons hc pa_nil he2) he) (by decide) (by decide) he hpl).imp fun σ H Q ⟨sd, ρ, S, h1, h2, h3⟩ => by
    refine LG.run h1 h2 h3 fun dx x ρ1 S1 H1 l1 s1 r1 k1 => ?_
    split at k1
    · rename_i k e
      refine ⟨dx, x, ρ1, S1, k, rfl, r1, s1, e, k1 _ ρ1 H1 Le.refl s1 (rep_bl.mpr ?_)⟩
      simp
    · exact k1.elim
def rIsN (C : Ctx) (ts : List Kd) : List V → Hp → VK → Prop := fun xs H Q => ∃ d x ρ S k tp, xs = [x, .ref tp] ∧ H tp = some (.tup (ts.map (kdR C))) ∧ Rep C ρ H d x ∧ SRep C ρ H S ∧ kd d S = some k ∧ Q (.bl (ts.any (subD C.T k))) H
theorem paired_kd (C : Ctx) : ∀ ts : List Kd, Paired ClsV (ts.map (kdR C)) (ts.map (kdV C))
  | [] => .nil
  | t :: ts => .cons (clsV_kd C t) (paired_kd C ts)
theorem call_isN {ts : List Kd} (hX : XcAll (cx X T)) (h : isiB (cx X T) ts = true) : CallR X (.builtin "isinstance") (rIsN (cx X T) ts) := by
  intro pins s σ H xs us Q I r ⟨d, x, ρ, S, k, tp, e1, hT, r1, s1, e2, q⟩
  subst e1
  obtain ⟨u1, u2, rfl, p1, p2⟩ := vals2 r
  cases (show u2 = Value.ref tp from p2)
  obtain ⟨P, Z, pz, hx⟩ := kit_D hX I s1 r1 p1 e2
  obtain ⟨_, its, rv, ⟨oc, od, dt, sl⟩, o1, o2, n, o3⟩ := (show ObjOk X.prog X.w H s.heap tp (.tup _) from I.hok tp _ hT)
  cases ClsV.all (paired_kd (cx X T) ts) rv
  simp only at o2 o3
  subst o2 o3
  exact PySem.W.kia_tup Z I.kIn pz o1 (isiB_ok h (kd_all r1 e2)) hx fun tk => ⟨.bl _, H, I.tok tk, rfl, q⟩
/-- the classes, written as a tuple of names -/
structure ClsNames (X : Cx) (C : Ctx) (es : List Expr) (ts : List Kd) : Prop where
  pa : PA X es (fun _ H Q => Q (ts.map (kdR C)) H)
theorem cn_nil {C : Ctx} : ClsNames X C [] [] := ⟨⟨fun pos pins s σ H Q I h => pa_nil.run pos pins s σ H Q I h⟩⟩
theorem cn_cons {C : Ctx} {es : List Expr} {t : Kd} {ts : List Kd} (hc : PE X ec (tC (kdR C t))) (hr : ClsNames X C es ts) (hs : starEach (ec :: es) X.env = (false, eval ec X.env) :: starEach es X.env := by rfl) : ClsNames X C (ec :: es) (t :: ts) :=
  ⟨⟨fun pos pins s σ H Q I h => (pa_cons hc hr.pa hs).run pos pins s σ H Q I h⟩⟩
theorem e_isiN {es : List Expr} {ts : List Kd} {tpos : Pos} {tk : Nat} (hX : XcAll (cx X T)) (h : isiB (cx X T) ts = true) (hn : ts.length ≤ 100) (hg : Gl X "isinstance") (hm : X.mg "isinstance" = none) (ha : PE X a (LE (cx X T) W fa)) (hc : ClsNames X (cx X T) es ts)
    (he : starEach [a, .Tuple es tk tpos] X.env = (false, eval a X.env) :: starEach [.Tuple es tk tpos] X.env := by rfl) (he2 : starEach [.Tuple es tk tpos] X.env = (false, eval (.Tuple es tk tpos) X.env) :: starEach [] X.env := by rfl) (hpl : (backTo pos (starEach [.Tuple es tk tpos] X.env)).any (·.1) = false := by rfl) :
    PE X (.Call (.Name "isinstance" p) [a, .Tuple es tk tpos] [] pos) (LE (cx X T) W (eIsi T ts fa)) :=
  (pe_callB (call_isN hX h) hg hm (by decide +kernel) (pa_cons ha (pa_cons (pe_tup hc.pa) pa_nil he2) he) (by decide) (by decide) he hpl).imp fun σ H Q ⟨sd, ρ, S, h1, h2, h3⟩ => by
    refine LG.run h1 h2 h3 fun dx x ρ1 S1 H1 l1 s1 r1 k1 => ?_
    split at k1
    · rename_i k e
      refine ⟨by rw [List.length_map, sizeLine_eq]; omega, fun q hq => ?_⟩
      have l2 : Le ρ1 H1 ρ1 (upd H1 q (.tup (ts.map (kdR (cx X T))))) := Le.new hq
      exact ⟨dx, x, ρ1, S1, k, q, rfl, upd_same, Rep.le l2 r1, s1.free hq, e, k1 _ ρ1 _ l2 (s1.free hq) (rep_bl.mpr rfl)⟩
    · exact k1.elim
/-- a built-in class's name, an own class's name -/
theorem n_ty {n : String} (hg : Gl X x) (hm : X.mg x = none) (hv : bootBuiltins x = some (.type n)) (hn : x ≠ "__name__" := by decide) (hd : (x == ("__debug__" : Str)) = false := by decide) : PE X (.Name x pos) (tC (kdR (cx X T) (.ty n))) := pe_bltn hg hm hv rfl hn hd
theorem n_own {c : Nat} (hg : Gl X x) (hm : X.mg x = some (.ref ((cx X T).addr c))) (hd : (x == ("__debug__" : Str)) = false := by decide) : PE X (.Name x pos) (tC (kdR (cx X T) (.own c))) := pe_glob hg hm rfl hd
/-! ### fields of exceptions -/
def fldIx (T : List Cls) (c : Nat) (f : Str) : Option Nat := match T[c]? with
  | some q => q.flds.findIdx? (· == f)
  | none => none
def eAtt (T : List Cls) (f : Str) (fa : EE) : EE := eBind fa fun x => fun _ S => match x with
  | .exn c ds => match fldIx T c f with
    | some i => match ds[i]? with
      | some d => .ok d S
      | none => .bad
    | none => .bad
  | _ => .bad
/-- the classes do not hide their instances' fields -/
def FldAll (C : Ctx) : Prop := ∀ c f, c < C.T.length → f ∈ C.flds c → PySem.W.findIn C.K (.ref (C.addr c)) f = some none
theorem e_att {f : Str} (hX : XcAll (cx X T)) (hF : FldAll (cx X T)) (ha : PE X a (LE (cx X T) W fa)) (hb : attributeBase a f X.env (eval a X.env) = eval a X.env := by rfl) : PE X (.Attribute a f pos) (LE (cx X T) W (eAtt T f fa)) := by
  refine ⟨fun pins s σ H Q I ⟨sd, ρ, S, h1, h2, h3⟩ => ?_⟩
  have go : LE (cx X T) W fa σ H fun x H1 => ∃ c ds ρ1 S1 i d, Rep (cx X T) ρ1 H1 (.exn c ds) x ∧ SRep (cx X T) ρ1 H1 S1 ∧ fldIx T c f = some i ∧ ds[i]? = some d ∧ ∀ v, Rep (cx X T) ρ1 H1 d v → Q v H1 := by
    refine LG.run h1 h2 h3 fun dx x ρ1 S1 H1 l1 s1 r1 k1 => ?_
    split at k1
    · rename_i c ds
      split at k1
      · rename_i i hi
        split at k1
        · rename_i d hd
          exact ⟨c, ds, ρ1, S1, i, d, r1, s1, hi, hd, fun v r => k1 v ρ1 H1 Le.refl s1 r⟩
        · exact k1.elim
      · exact k1.elim
    · exact k1.elim
  refine attr_of hb (thn (ha.run pins s σ H _ I go) fun u s1 ⟨x, H1, I1, rx, c, ds, ρ1, S1, i, d, r1, sr, hi, hd, k⟩ => ?_)
  obtain ⟨hc, a', oe, od, xs, rfl, J, rxs, hl, lk⟩ := exn_inst I1 r1
  have hfl : ((cx X T).flds c)[i]? = some f := by
    unfold fldIx at hi
    unfold Ctx.flds
    cases q : T[c]? with
    | none => rw [q] at hi; cases hi
    | some z =>
      rw [q] at hi
      obtain ⟨h4, h5, _⟩ := List.findIdx?_eq_some_iff_getElem.mp hi
      show z.flds[i]? = some f
      rw [List.getElem?_eq_getElem h4]
      congr 1
      exact eq_of_beq h5
  obtain ⟨o, y, w, eo, ey, ew, ry⟩ := lk i f hfl
  subst eo
  obtain ⟨y', e1, r2⟩ := rxs.get hd
  rw [ey] at e1
  cases e1
  cases rx
  have xo := hX c hc
  have no := hF c f hc (List.mem_of_getElem? hfl)
  exact HandSPX.exc_get I1.kIn J xo.ga xo.gg xo.sb (PySem.W.findObj_own xo.hd no rfl ew) (handed_of ry) ⟨y, H1, I1.tok _, ry, k y r2⟩
end
end Lay

set_option Elab.async false
set_option linter.all false
set_option maxRecDepth 100000
set_option maxHeartbeats 4000000
/-! L7: exceptions: their classes' __init__, raise, exceptions as values, try. -/
namespace Lay
open PySem PySem.Spec PyProof.Rows L2
/-! ### the base class's __init__, called by the class's name -/
structure IniOk (K : PySem.W.Frag) (B : Addr) : Prop where
  g : PySem.W.specialIn K (.ref B) "__getattribute__" = some (some (.builtin "type.__getattribute__"))
  r : PySem.W.readsIn K B (.type "type") = true
  v : PySem.W.findCls K (.ref B) (.type "type") "__init__" = some (.val (.builtin "ValueError.__init__"))
def iniB (K : PySem.W.Frag) (B : Addr) : Bool := decide (PySem.W.specialIn K (.ref B) "__getattribute__" = some (some (.builtin "type.__getattribute__"))) && (PySem.W.readsIn K B (.type "type") &&
  (match PySem.W.findCls K (.ref B) (.type "type") "__init__" with
  | some (.val v) => decide (v = .builtin "ValueError.__init__")
  | _ => false))
theorem iniB_ok {K : PySem.W.Frag} {B : Addr} (h : iniB K B = true) : IniOk K B := by
  obtain ⟨h1, h2⟩ := He.ba h
  obtain ⟨h2, h3⟩ := He.ba h2
  refine ⟨of_decide_eq_true h1, h2, ?_⟩
  split at h3
  · rename_i v e
    rw [e, of_decide_eq_true h3]
  · cases h3
def IniEq (env : Env) (x : Str) (p1 p2 : Pos) (es : List Expr) (pos : Pos) : Prop := ∃ pl : Sem Bool, eval (.Call (.Attribute (.Name x p1) "__init__" p2) es [] pos) env = (do
      let ov ← eval (.Name x p1) env
      standAt p2.atName
      let (f, first) ← holding [ov] (getMethod ov "__init__" pl)
      callWith pos f first (backTo pos (starEach es env)) (backToKw pos (keywordEach [] env)))
theorem iniEq_of {env : Env} {bn : Str} {p1 p2 p5 : Pos} {es : List Expr} (hfew : methodCallForm (es.length + 0) (backTo p5 (starEach es env)) [] = true) (hline : (p2.endLine == p5.line) = true) : IniEq env bn p1 p2 es p5 := by
  refine ⟨(do return (← importBound (.Name bn p1) env).getD true), ?_⟩
  rw [arm_eval_Call]
  have hbase : attributeBase (.Name bn p1) "__init__" env (eval (.Name bn p1) env) = eval (.Name bn p1) env := rfl
  rw [hbase]
  have hpos : methodCallPos true (.Name bn p1) env p2 p5 = pure p5 := by unfold methodCallPos; simp [hline]
  have hkw : backToKw p5 (keywordEach [] env) = [] := rfl
  unfold methodCall
  rw [hkw]
  have hf : methodCallForm (es.length + ([] : List Keyword).length) (backTo p5 (starEach es env)) [] = true := hfew
  rw [hf, hpos]
  unfold calleeOf
  simp only [if_true, pure_bind]
theorem few2 {qual : Str} {sc : Scope} {n : Addr} {f : Addr} {cdv : Value} {m : Str} {j : Nat} {p3 p4 p5 : Pos} : methodCallForm ([Expr.Name "self" p3, .Constant (.str m) j p4].length + 0) (backTo p5 (starEach [Expr.Name "self" p3, .Constant (.str m) j p4] (envOfC qual sc n f cdv))) [] = true := rfl
section
variable {X : Cx} {e : Expr} {es : List Expr} {ta : TA} {x : Str} {B : Addr} {p1 p2 pos : Pos}
theorem pe_ownInit (O : IniOk X.K B) (hg : Gl X x) (hm : X.mg x = some (.ref B)) (ha : PA X (e :: es) ta) (hc : IniEq X.env x p1 p2 (e :: es) pos) (hdb : (x == ("__debug__" : Str)) = false := by decide)
    (he : starEach (e :: es) X.env = (false, eval e X.env) :: starEach es X.env := by rfl) (hpl : (backTo pos (starEach es X.env)).any (·.1) = false := by rfl) :
    PE X (.Call (.Attribute (.Name x p1) "__init__" p2) (e :: es) [] pos) (tVeI X.K ta) := by
  refine ⟨fun pins s σ H Q I h => ?_⟩
  obtain ⟨pl, hc⟩ := hc
  refine PySem.W.methodCall_KW (ld_glob I hg hm ?_ hdb) hc
  refine PySem.W.method_cls I.kIn O.g (PySem.W.cls_value I.kIn O.r O.v (by decide +kernel) ?_)
  refine callWith_method1 (thn (ha.run pos pins _ σ H _ (I.tok _) h) fun us s1 ⟨vs, H1, I1, r1, a, C, ws, ev, hl, T, ea, q⟩ => ?_) he hpl
  subst ev
  cases r1 with
  | @cons _ u0 _ ur ra rw' =>
    have e0 : u0 = Value.ref a := ra
    subst e0
    exact oinit_ok T I1 ea (by rw [← Paired.length rw', sizeLine_eq]; omega) fun s' J => ⟨.non, H1, J, rfl, q⟩
end

/-! ### the __init__ of an exception class, as a def -/
/-- the heap behind it -/
def ExFin (a C : Addr) (H : Hp) (ps : List Str) (ys : List V) (H' : Hp) : Prop :=
  (ps = [] ∧ H' = H) ∨ ps ≠ [] ∧ ∃ (dx : Addr) (fs : List (Str × V)), H dx = none ∧ dx ≠ a ∧ H' a = some (exo a C (some dx)) ∧ H' dx = some (exd dx fs) ∧ (∀ b, b ≠ a → b ≠ dx → H' b = H b) ∧ ∀ (i : Nat) f, ps[i]? = some f → fs.lookup f = ys[i]?
def exi (K : PySem.W.Frag) (ps : List Str) : Sp := fun vs H Q _ => ∃ a C ys, vs = .ref a :: ys ∧ ys.length = ps.length ∧ OexC K C ∧ (∀ f ∈ ps, PySem.W.findIn K (.ref C) f = some none) ∧ H a = some (exo a C none) ∧ ∀ H', ExFin a C H ps ys H' → Q .non H'
section
variable {P : Program} {w : World} {K : PySem.W.Frag} {mg : Str → Option Value} {base : Heap} {x qual bn m : Str} {st : Stmt} {f B : Addr} {fd : FuncData} {k : Nat} {g g2 : Str} {p1 p2 p3 p4 p5 p6 p7 p8 p9 p10 q7 q8 q9 q10 : Pos} {j : Nat}
theorem exi_len {ps : List Str} : ∀ vs H Q E, exi K ps vs H Q E → vs.length = (("self" : Str) :: ps).length := fun vs H Q E ⟨a, C, ys, e, hl, _⟩ => by
  rw [e, List.length_cons, List.length_cons, hl]
theorem exi0_ok (O : IniOk K B) (hm : mg bn = some (.ref B)) (Fn : Fun K x qual st f fd) (S : FnScope ["self"] ["self"] (defScope st)) (hself : (defScope st).names.lookup ("self" : Str) = some .local)
    (hg : (defScope st).names.lookup bn = some .globalImplicit) (hdb : (bn == ("__debug__" : Str)) = false)
    (hc : ∀ (f : Addr) (cdv : Value) (s : Shared), IniEq (envOfC qual (defScope st) s.heap.objs.size f cdv) bn p1 p2 [.Name "self" p3, .Constant (.str m) j p4] p5)
    (hb : defBody st = [.Expr (.Call (.Attribute (.Name bn p1) "__init__" p2) [.Name "self" p3, .Constant (.str m) j p4] [] p5) p6]) : FnOk P w K mg base (L2.CX P w) (k + 1) f fd ["self"] (exi K []) := by
  refine Fn.okX S exi_len fun cdv A outer s H vs Q E hr h => ?_
  obtain ⟨a, C, ys, rfl, hl, T, hno, ea, q⟩ := h
  rw [hb]
  have e0 : ys = [] := List.length_eq_zero_iff.mp hl
  subst e0
  refine ⟨_, pss_one (ps_expr (pe_ownInit (X := bx P w K mg base ["self"] qual (defScope st) f cdv A outer s H E) O (hg) hm (pa_cons (pv 0 (by rfl) (.inl hself)) (pa_cons pe_str pa_nil)) (hc _ _ _) hdb)), ?_⟩
  exact ⟨_, rfl, a, C, [.str m], rfl, Nat.le_of_ble_eq_true rfl, T, ea, q H (.inl ⟨rfl, rfl⟩)⟩
theorem exi1_ok (O : IniOk K B) (hm : mg bn = some (.ref B)) (Fn : Fun K x qual st f fd) (S : FnScope ["self", g] ["self", g] (defScope st)) (hself : (defScope st).names.lookup ("self" : Str) = some .local) (hgl : (defScope st).names.lookup g = some .local)
    (hg : (defScope st).names.lookup bn = some .globalImplicit) (hdb : (bn == ("__debug__" : Str)) = false) (hd1 : (g == ("__debug__" : Str)) = false) (hd2 : (g == ("__classdict__" : Str)) = false)
    (hc : ∀ (f : Addr) (cdv : Value) (s : Shared), IniEq (envOfC qual (defScope st) s.heap.objs.size f cdv) bn p1 p2 [.Name "self" p3, .Constant (.str m) j p4] p5)
    (hb : defBody st = [.Expr (.Call (.Attribute (.Name bn p1) "__init__" p2) [.Name "self" p3, .Constant (.str m) j p4] [] p5) p6, .Assign [.Attribute (.Name "self" p7) g p8] (.Name g p9) p10]) : FnOk P w K mg base (L2.CX P w) (k + 1) f fd ["self", g] (exi K [g]) := by
  refine Fn.okX S exi_len fun cdv A outer s H vs Q E hr h => ?_
  obtain ⟨a, C, ys, rfl, hl, T, hno, ea, q⟩ := h
  rw [hb]
  obtain ⟨y, rfl⟩ := List.length_eq_one_iff.mp hl
  refine ⟨_, pss_cons (ps_expr (pe_ownInit (X := bx P w K mg base ["self", g] qual (defScope st) f cdv A outer s H E) O (hg) hm (pa_cons (pv 0 (by rfl) (.inl hself)) (pa_cons pe_str pa_nil)) (hc _ _ _) hdb)) (pss_one (ps_ost (pv 0 (by rfl) (.inl hself)) (pv 1 (by rfl) (.inl hgl) hd1 hd2))), ?_⟩
  refine ⟨_, rfl, a, C, [.str m], rfl, Nat.le_of_ble_eq_true rfl, T, ea, ?_⟩
  refine ⟨_, rfl, _, rfl, a, C, rfl, T, hno g (by simp), .inl ⟨ea, fun dx hn hne => q _ (.inr ⟨List.cons_ne_nil _ _, dx, [(g, y)], hn, hne, upd_same, ?_, fun b h1 h2 => ?_, fun i f e => ?_⟩)⟩⟩
  · rw [upd_ne hne, upd_same]
  · rw [upd_ne h1, upd_ne h2]
  · cases i with
    | zero => cases e; simp [List.lookup]
    | succ i => simp at e
theorem exi2_ok (O : IniOk K B) (hm : mg bn = some (.ref B)) (Fn : Fun K x qual st f fd) (S : FnScope ["self", g, g2] ["self", g, g2] (defScope st)) (hself : (defScope st).names.lookup ("self" : Str) = some .local) (hgl : (defScope st).names.lookup g = some .local)
    (hgl2 : (defScope st).names.lookup g2 = some .local) (hne2 : (g == g2) = false)
    (hg : (defScope st).names.lookup bn = some .globalImplicit) (hdb : (bn == ("__debug__" : Str)) = false) (hd1 : (g == ("__debug__" : Str)) = false) (hd2 : (g == ("__classdict__" : Str)) = false) (hd3 : (g2 == ("__debug__" : Str)) = false) (hd4 : (g2 == ("__classdict__" : Str)) = false)
    (hc : ∀ (f : Addr) (cdv : Value) (s : Shared), IniEq (envOfC qual (defScope st) s.heap.objs.size f cdv) bn p1 p2 [.Name "self" p3, .Constant (.str m) j p4] p5)
    (hb : defBody st = [.Expr (.Call (.Attribute (.Name bn p1) "__init__" p2) [.Name "self" p3, .Constant (.str m) j p4] [] p5) p6, .Assign [.Attribute (.Name "self" p7) g p8] (.Name g p9) p10, .Assign [.Attribute (.Name "self" q7) g2 q8] (.Name g2 q9) q10]) : FnOk P w K mg base (L2.CX P w) (k + 1) f fd ["self", g, g2] (exi K [g, g2]) := by
  refine Fn.okX S exi_len fun cdv A outer s H vs Q E hr h => ?_
  obtain ⟨a, C, ys, rfl, hl, T, hno, ea, q⟩ := h
  rw [hb]
  obtain ⟨y, z, rfl⟩ : ∃ y z, ys = [y, z] := by
    rcases ys with _ | ⟨y, _ | ⟨z, _ | ⟨u, r⟩⟩⟩ <;> first | exact ⟨_, _, rfl⟩ | simp at hl
  refine ⟨_, pss_cons (ps_expr (pe_ownInit (X := bx P w K mg base ["self", g, g2] qual (defScope st) f cdv A outer s H E) O (hg) hm (pa_cons (pv 0 (by rfl) (.inl hself)) (pa_cons pe_str pa_nil)) (hc _ _ _) hdb)) (pss_cons (ps_ost (pv 0 (by rfl) (.inl hself)) (pv 1 (by rfl) (.inl hgl) hd1 hd2)) (pss_one (ps_ost (pv 0 (by rfl) (.inl hself)) (pv 2 (by rfl) (.inl hgl2) hd3 hd4)))), ?_⟩
  refine ⟨_, rfl, a, C, [.str m], rfl, Nat.le_of_ble_eq_true rfl, T, ea, ?_⟩
  refine ⟨_, rfl, _, rfl, a, C, rfl, T, hno g (by simp), .inl ⟨ea, fun dx hn hne => ?_⟩⟩
  refine ⟨_, rfl, _, rfl, a, C, rfl, T, hno g2 (by simp), .inr ⟨dx, [(g, y)], upd_same, by rw [upd_ne hne, upd_same], Nat.le_of_ble_eq_true rfl, q _ (.inr ⟨List.cons_ne_nil _ _, dx, [(g2, z), (g, y)], hn, hne, ?_, upd_same, fun b h1 h2 => ?_, fun i f e => ?_⟩)⟩⟩
  · rw [upd_ne (Ne.symm hne), upd_same]
  · rw [upd_ne h2, upd_ne h1, upd_ne h2]
  · rcases i with _ | _ | i
    · cases e; simp [List.lookup, hne2]
    · cases e; simp [List.lookup]
    · simp at e
end
/-! ### an own exception is made -/
structure MkOk (P : Program) (w : World) (K : PySem.W.Frag) (mg : Str → Option Value) (base : Heap) (T : List Cls) (k : Nat) (c : Nat) : Prop where
  lt : c < T.length
  ox : OexC K ((⟨K, T⟩ : Ctx).addr c)
  no : ∀ f ∈ (⟨K, T⟩ : Ctx).flds c, PySem.W.findIn K (.ref ((⟨K, T⟩ : Ctx).addr c)) f = some none
  ini : ∃ fI fd, PySem.W.findIn K (.ref ((⟨K, T⟩ : Ctx).addr c)) "__init__" = some (some (.ref fI)) ∧ PySem.W.typeIn K (.ref fI) = some (.type "function") ∧
    FnOk P w K mg base (L2.CX P w) k fI fd ("self" :: (⟨K, T⟩ : Ctx).flds c) (exi K ((⟨K, T⟩ : Ctx).flds c)) ∧ Binds K fd ("self" :: (⟨K, T⟩ : Ctx).flds c) []
section
variable {X : Cx} {T : List Cls} {W : WX} {k c : Nat}
theorem oex_core {pins : List (Addr × Obj)} {σ : St} {H1 : Hp} {s1 : Shared} {us : List Value} {vs : List V} {Q : Value → Shared → Prop} (M : MkOk X.prog X.w X.K X.mg X.base T k c) (hr : Room (k + 1) X.A) (I1 : Inv X pins σ H1 s1) (r1 : Vals vs us)
    (hl : vs.length = ((cx X T).flds c).length) (hsm : vs.length ≤ 1000)
    (q : ∀ (a : Addr) (hp2 : Heap) (s' : Shared) (H2 : Hp), s1.heap.objs.size ≤ a → (∀ b o, s1.heap.get? b = some o → hp2.get? b = some o) → Inv X pins σ H2 s' → Un (frs X.stack) [] (upd H1 a (exo a ((cx X T).addr c) none)) H2 hp2 s'.heap →
      HOk X.prog X.w H2 s'.heap → s'.os = s1.os → AllBare s'.gens → ExFin a ((cx X T).addr c) (upd H1 a (exo a ((cx X T).addr c) none)) ((cx X T).flds c) vs H2 → Q (.ref a) s') :
    wpAny (model X.prog X.w) X.A (call (.ref ((cx X T).addr c)) us) Q X.xe s1 := by
  have O : OexC X.K ((cx X T).addr c) := M.ox
  obtain ⟨_, _, _, _, bm, _, _, _, _, _, _, _, _, _, _, hC, hbm⟩ := id O.cls
  obtain ⟨fI, fd, iC, tI, F1, hb⟩ := M.ini
  obtain ⟨hp, g, dr, tk, os⟩ := s1
  generalize hCe : (cx X T).addr c = C at *
  generalize hps : (cx X T).flds c = ps at *
  have hCe' : (⟨X.K, T⟩ : Ctx).addr c = C := hCe
  have hps' : (⟨X.K, T⟩ : Ctx).flds c = ps := hps
  have hsz : hp.objs.size ≤ hp.objs.size + 1 := Nat.le_succ _
  have up2 : ∀ b o, hp.get? b = some o → ((hp.push (PySem.W.kdv_tup us)).push (PySem.HandSPX.excO C hp.objs.size)).get? b = some o := fun b o e =>
    Heap.get?_push_of_some _ (Heap.get?_push_of_some _ e)
  have there : ((hp.push (PySem.W.kdv_tup us)).push (PySem.HandSPX.excO C hp.objs.size)).get? (hp.objs.size + 1) = some (PySem.HandSPX.excO C hp.objs.size) := by heap_get
  have I2 := I1.laid (t' := tk) up2 hsz (exo_ok (P := X.prog) (w := X.w) (H := upd H1 (hp.objs.size + 1) (exo (hp.objs.size + 1) C none)) there)
  have hq : exi X.K ps (.ref (hp.objs.size + 1) :: vs) (upd H1 (hp.objs.size + 1) (exo (hp.objs.size + 1) C none)) (fun v H2 => ExFin (hp.objs.size + 1) C (upd H1 (hp.objs.size + 1) (exo (hp.objs.size + 1) C none)) ps vs H2 ∧ v = .non) (fun _ _ _ => False) :=
    ⟨_, C, vs, rfl, hl, O, by have := M.no; rw [hCe', hps'] at this; exact this, upd_same, fun H' z => ⟨z, rfl⟩⟩
  have len2 : (Value.ref (hp.objs.size + 1) :: us).length = (("self" : Str) :: ps).length := by
    rw [List.length_cons, List.length_cons, ← r1.length, hl]
  have b2 := hb ⟨_, g, dr, tk, os⟩ (Value.ref (hp.objs.size + 1) :: us) I2.kIn (by rw [List.append_nil]; exact len2)
  rw [List.append_nil] at b2
  have r2 : Vals (V.ref (hp.objs.size + 1) :: vs) (Value.ref (hp.objs.size + 1) :: us) := .cons rfl r1
  have run := F1.run _ X.stack _ _ ⟨Value.ref (hp.objs.size + 1) :: us, []⟩ _ _ _ (fun _ _ _ => False) (hr.make C us []) (I2.env0.make C us []) b2 r2 hq
  refine wpAny_call (PySem.HandSPX.call_own F.excBase_ValueError (fun Y => PySem.HandSPX.refsVE_contains Y bm hbm) (I1.kIn _ _ hC) (PySem.W.looks_findIn I1.kIn iC)
    (fun self => PySem.W.bind_fn I1.kIn self tI) (by rw [← Paired.length r1, sizeLine_eq]; omega) (codeAny_mono run fun r s' z => ?_))
  rcases r with er | fl
  · obtain ⟨_, _, _, _, _, _, _, _, _, _, _, _, z⟩ := z
    exact z.elim
  · rcases fl with u | _ | _ | _
    case ret =>
      obtain ⟨v, H2, os2, bare2, un2, hok2, rv, fin, ev⟩ := z
      subst ev
      exact ⟨rv, q _ _ _ H2 hsz up2 (I2.call' os2 un2 hok2 bare2 fun b z => nomatch z) un2 hok2 os2 bare2 fin⟩
    all_goals exact False.elim z
def eMk (c n : Nat) (aa : EA) : EE := eBind aa fun xs => fun _ S => if xs.length = n then .ok (.exn c xs) S else .bad
/-- after the making: the exception tracked as a value of ours -/
theorem mk_value {pins : List (Addr × Obj)} {σ : St} {H1 H2 : Hp} {s' : Shared} {vs : List V} {a C : Addr} {ps : List Str} (I : Inv X pins σ H2 s') (na : H1 a = none) (fin : ExFin a C (upd H1 a (exo a C none)) ps vs H2) (hl : vs.length = ps.length) :
    ∃ (d : Option Addr) (H3 : Hp), Inv X pins σ H3 s' ∧ (∀ (ρ : List Addr), Le ρ H1 ρ H3) ∧ (∀ ρ S, SRep (cx X T) ρ H1 S → SRep (cx X T) ρ H3 S) ∧ H3 a = some (ExV (.ref C) d a) ∧ DictOk ps H3 d vs := by
  rcases fin with ⟨e0, rfl⟩ | ⟨_, dx, fs, h1, h2, h3, h4, h5, h6⟩
  · have ea : upd H1 a (exo a C none) a = some (exo a C none) := upd_same
    obtain ⟨t1, ho⟩ := exo_at I.hok ea
    have eu : upd (upd H1 a (exo a C none)) a (ExV (.ref C) none a) = upd H1 a (ExV (.ref C) none a) := by
      funext b
      by_cases hb : b = a
      · rw [hb, upd_same, upd_same]
      · rw [upd_ne hb, upd_ne hb, upd_ne hb]
    have J := I.write (x := a) (e := a) (o := ExV (.ref C) none a) (h' := s'.heap) (t' := s'.toks) (by rw [ea]; exact True.intro) (.inl rfl) (fun b o _ h => h) ⟨_, ho⟩
      (show ObjOk X.prog X.w _ s'.heap a (ExV (.ref C) none a) from ⟨⟨_, _, ho, ⟨rfl, rfl⟩, rfl⟩, ⟨_, ho⟩, fun h1 h2 ⟨oe, us, z1, z2⟩ k => ⟨oe, us, k _ z1, z2⟩⟩)
    rw [eu] at J
    exact ⟨none, _, J, fun ρ => Le.new na, fun ρ S s => s.free na, upd_same, hl, .inl ⟨e0, rfl⟩⟩
  · have n1 : H1 dx = none := by rw [upd_ne h2] at h1; exact h1
    obtain ⟨t1, ho⟩ := exo_at I.hok h3
    obtain ⟨mA, hns, rel⟩ := exd_at I.hok h4
    obtain ⟨od, _, _, hod, _⟩ := id hns
    have J1 := I.write (x := dx) (e := dx) (o := .xd fs) (h' := s'.heap) (t' := s'.toks) (by rw [h4]; exact True.intro) (.inl rfl) (fun b o _ h => h) ⟨od, hod⟩
      (show ObjOk X.prog X.w _ s'.heap dx (.xd fs) from ⟨mA, hns, rel⟩)
    have ea : upd H2 dx (.xd fs) a = some (exo a C (some dx)) := by rw [upd_ne (Ne.symm h2), h3]
    have J := J1.write (x := a) (e := a) (o := ExV (.ref C) (some dx) a) (h' := s'.heap) (t' := s'.toks) (by rw [ea]; exact True.intro) (.inl rfl) (fun b o _ h => h) ⟨_, ho⟩
      (show ObjOk X.prog X.w _ s'.heap a (ExV (.ref C) (some dx) a) from ⟨⟨_, _, ho, ⟨rfl, rfl⟩, rfl⟩, ⟨_, ho⟩, fun h1 h2 ⟨oe, us, z1, z2⟩ k => ⟨oe, us, k _ z1, z2⟩⟩)
    have eu : upd (upd H2 dx (.xd fs)) a (ExV (.ref C) (some dx) a) = upd (upd H1 dx (.xd fs)) a (ExV (.ref C) (some dx) a) := by
      funext b
      by_cases hb : b = a
      · rw [hb, upd_same, upd_same]
      · rw [upd_ne hb, upd_ne hb]
        by_cases hd : b = dx
        · rw [hd, upd_same, upd_same]
        · rw [upd_ne hd, upd_ne hd, h5 b hb hd, upd_ne hb]
    rw [eu] at J
    have na2 : upd H1 dx (.xd fs) a = none := by rw [upd_ne (Ne.symm h2)]; exact na
    exact ⟨some dx, _, J, fun ρ => (Le.new n1).trans (Le.new na2), fun ρ S s => (s.free n1).free na2, upd_same, hl, .inr ⟨dx, fs, rfl, by rw [upd_ne h2, upd_same], h6⟩⟩
variable {e : Expr} {es : List Expr} {aa : EA} {pos p : Pos} {x : Str}
/-- what the end of a class's call gives -/
theorem mk_end1 {pins : List (Addr × Obj)} {σ : St} {H1 : Hp} {s1 : Shared} {us : List Value} {vs : List V} {ds : List D} {ρ : List Addr} {S : Store} {Q : VK} (M : MkOk X.prog X.w X.K X.mg X.base T k c) (hr : Room (k + 1) X.A) (I1 : Inv X pins σ H1 s1) (r1 : Vals vs us)
    (sr : SRep (cx X T) ρ H1 S) (rs : Reps (cx X T) ρ H1 ds vs) (hn : ds.length = ((cx X T).flds c).length ∧ ds.length ≤ 1000) (q : ∀ v H2, Le ρ H1 ρ H2 → SRep (cx X T) ρ H2 S → Rep (cx X T) ρ H2 (.exn c ds) v → Q v H2) :
    wpAny (model X.prog X.w) X.A (call (.ref ((cx X T).addr c)) us) (EP X pins σ Q) X.xe s1 := by
  have hl : vs.length = ((cx X T).flds c).length := by rw [← rs.length]; exact hn.1
  refine oex_core M hr I1 r1 hl (by rw [← rs.length]; exact hn.2) fun a hp2 s' H2 hsz up2 I2 un2 hok2 os2 bare2 fin => ?_
  obtain ⟨d, H3, J, l, sf, ea, dk⟩ := mk_value (T := T) I2 (I1.hok.fresh hsz) fin hl
  refine ⟨.ref a, H3, J, rfl, q _ _ (l ρ) (sf ρ S sr) ?_⟩
  simp only [Rep]
  exact ⟨a, d, vs, rfl, M.lt, ea, dk, rs.le (l ρ)⟩
theorem e_mk (M : MkOk X.prog X.w X.K X.mg X.base T k c) (hr : Room (k + 1) X.A) (hg : Gl X x) (hm : X.mg x = some (.ref ((cx X T).addr c))) {n : Nat} (hn : ((cx X T).flds c).length = n) (hn2 : n ≤ 1000) (ha : PA X (e :: es) (LA (cx X T) W aa))
    (hdb : (x == ("__debug__" : Str)) = false := by decide) (he : starEach (e :: es) X.env = (false, eval e X.env) :: starEach es X.env := by rfl) (hpl : (backTo pos (starEach es X.env)).any (·.1) = false := by rfl) :
    PE X (.Call (.Name x p) (e :: es) [] pos) (LE (cx X T) W (eMk c n aa)) := by
  refine ⟨fun pins s σ H Q I ⟨sd, ρ, S, h1, h2, h3⟩ => ?_⟩
  have kp : PySem.W.keepIn X.K (.ref ((cx X T).addr c)) = true := M.ox.kC
  have go : LA (cx X T) W aa σ H fun vs H1 => ∃ ds ρ1 S1, SRep (cx X T) ρ1 H1 S1 ∧ Reps (cx X T) ρ1 H1 ds vs ∧ (ds.length = ((cx X T).flds c).length ∧ ds.length ≤ 1000) ∧ ∀ v H2, Le ρ1 H1 ρ1 H2 → SRep (cx X T) ρ1 H2 S1 → Rep (cx X T) ρ1 H2 (.exn c ds) v → Q v H2 := by
    refine LG.run h1 h2 h3 fun ds vs ρ1 S1 H1 l1 s1 r1 k1 => ?_
    split at k1
    · rename_i hz
      exact ⟨ds, ρ1, S1, s1, r1, ⟨by rw [hz, hn], by omega⟩, fun v H2 l s r => k1 v ρ1 H2 l s r⟩
    · exact k1.elim
  refine wpAny_Call_Name_kw (ld_glob I hg hm ?_ hdb)
  refine PySem.W.callWith_K (h₀ := X.base) I.ok.mod.kin kp (thn (ha.run pos pins s σ H _ I go) fun us s1 ⟨vs, H1, I1, r1, ds, ρ1, S1, sr, rs, hz, q⟩ => ⟨I1.kIn, ?_⟩) he hpl
  exact mk_end1 M hr I1 r1 sr rs hz q
/-- .. of no argument -/
theorem e_mk0 (M : MkOk X.prog X.w X.K X.mg X.base T k c) (hr : Room (k + 1) X.A) (hg : Gl X x) (hm : X.mg x = some (.ref ((cx X T).addr c))) (hn : (cx X T).flds c = []) (hdb : (x == ("__debug__" : Str)) = false := by decide) :
    PE X (.Call (.Name x p) [] [] pos) (LE (cx X T) W (eMk c 0 aNil)) := by
  refine ⟨fun pins s σ H Q I ⟨sd, ρ, S, h1, h2, h3⟩ => ?_⟩
  have kp : PySem.W.keepIn X.K (.ref ((cx X T).addr c)) = true := M.ox.kC
  refine wpAny_Call_Name_kw (ld_glob I hg hm ?_ hdb)
  refine PySem.W.callWith_KW0 (h₀ := X.base) I.ok.mod.kin kp (by rfl) (thn (pa_nil.run pos pins s σ H (fun vs H1 => vs = [] ∧ H1 = H) I ⟨rfl, rfl⟩) fun us s1 ⟨vs, H1, I1, r1, e1, e2⟩ => ?_) (by rfl)
  subst e1 e2
  cases r1
  refine ⟨I1.kIn, ?_⟩
  have k1 := h3
  unfold eMk at k1
  rw [eBind_of] at k1
  exact mk_end1 (vs := []) (ds := []) M hr I1 .nil h2 Reps.nil ⟨by rw [hn]; rfl, Nat.zero_le _⟩ fun v H2 l s r => k1 v ρ H2 l s r
/-! ### raise -/
def sRaise (c n : Nat) (aa : EA) : FF := sBind aa fun xs => fun sd S => if xs.length = n then .exc ⟨c, xs⟩ sd S else .bad
theorem s_raise {pos' : Pos} (hc : X.calm = true) (tk : Takes X W) (M : MkOk X.prog X.w X.K X.mg X.base T k c) (hr : Room (k + 1) X.A) (hg : Gl X x) (hm : X.mg x = some (.ref ((cx X T).addr c))) {n : Nat} (hn : ((cx X T).flds c).length = n + 1) (hn2 : n ≤ 100) (ha : PA X (e :: es) (LA (cx X T) W aa))
    (hdb : (x == ("__debug__" : Str)) = false := by decide) (he : starEach (e :: es) X.env = (false, eval e X.env) :: starEach es X.env := by rfl) (hpl : (backTo pos (starEach es X.env)).any (·.1) = false := by rfl) :
    PS X (.Raise (some (.Call (.Name x p) (e :: es) [] pos)) none pos') (LS (cx X T) W (sRaise c (n + 1) aa)) := by
  obtain ⟨fI, fd, iC, tI, F1, hb⟩ := M.ini
  refine (ps_raise hc tk (pmk_oex (CX := L2.CX X.prog X.w) (T := M.ox) iC tI F1 hr hb .nil (fun _ _ _ _ _ _ _ z => by
    obtain ⟨_, _, _, _, _, _, _, _, _, _, _, _, z⟩ := z
    exact z.elim) hg hm ha hdb he hpl)).imp fun Dn σ H ⟨sd, ρ, S, h1, h2, h3⟩ => ?_
  refine LS.run h1 h2 h3 fun ds vs ρ1 S1 H1 l1 s1 r1 k1 => ?_
  split at k1
  case isFalse => exact k1.elim
  rename_i hz
  have hlv : vs.length = n + 1 := by rw [← r1.length]; exact hz
  refine ⟨by omega, fun a na => ?_⟩
  rw [List.append_nil]
  refine ⟨a, _, vs, rfl, hlv.trans hn.symm, M.ox, M.no, upd_same, fun H' fin => ⟨rfl, ?_⟩⟩
  have hcf : (⟨X.K, T⟩ : Ctx).flds c = (cx X T).flds c := rfl
  rcases fin with ⟨e0, _⟩ | ⟨ne, dx, fs, g1, g2, g3, g4, g5, g6⟩
  · rw [hcf] at e0; rw [e0] at hn; cases hn
  have n1 : H1 dx = none := by rw [upd_ne g2] at g1; exact g1
  refine ⟨dx, fs, g3, g4, n1, ?_⟩
  have eu : upd (del H' a) dx (.xd fs) = upd H1 dx (.xd fs) := by
    funext b
    by_cases hd : b = dx
    · rw [hd, upd_same, upd_same]
    · rw [upd_ne hd, upd_ne hd]
      by_cases hb : b = a
      · rw [hb, del_same, na]
      · rw [del_ne hb, g5 b hb hd, upd_ne hb]
  rw [eu]
  have l2 : Le ρ1 H1 ρ1 (upd H1 dx (.xd fs)) := Le.new n1
  exact k1 _ _ σ ρ1 _ l2 ((h1.le l1).le l2) (s1.free n1) ⟨M.lt, rfl, vs, ⟨hlv.trans hn.symm, .inr ⟨dx, fs, rfl, upd_same, g6⟩⟩, r1.le l2⟩
theorem pmk0 (M : MkOk X.prog X.w X.K X.mg X.base T k c) (hr : Room (k + 1) X.A) (hg : Gl X x) (hm : X.mg x = some (.ref ((cx X T).addr c))) (hn : (cx X T).flds c = []) (hdb : (x == ("__debug__" : Str)) = false := by decide) :
    PMk X (.Call (.Name x p) [] [] pos) (fun σ H Q => Q (.ref ((cx X T).addr c)) none H) := by
  intro pins s σ H Q I q
  have kp : PySem.W.keepIn X.K (.ref ((cx X T).addr c)) = true := M.ox.kC
  refine wpAny_Call_Name_kw (ld_glob I hg hm ?_ hdb)
  refine PySem.W.callWith_KW0 (h₀ := X.base) I.ok.mod.kin kp (by rfl) (thn (pa_nil.run pos pins s σ H (fun vs H1 => vs = [] ∧ H1 = H) I ⟨rfl, rfl⟩) fun us s1 ⟨vs, H1, I1, r1, e1, e2⟩ => ?_) (by rfl)
  subst e1 e2
  cases r1
  refine ⟨I1.kIn, ?_⟩
  refine oex_core (vs := []) M hr I1 .nil (by rw [hn]; rfl) (Nat.zero_le _) fun a hp2 s' H2 hsz up2 I2 un2 hok2 os2 bare2 fin => ?_
  have na : H1 a = none := I1.hok.fresh hsz
  have e2 : H2 = upd H1 a (exo a ((cx X T).addr c) none) := by
    rcases fin with ⟨_, h⟩ | ⟨ne, dx, fs, g1, g2, g3, g4, g5, g6⟩
    · exact h
    · exact absurd hn ne
  subst e2
  obtain ⟨t0, hoe⟩ := exo_at I2.hok (upd_same)
  obtain ⟨G, g1, g2⟩ := restrict s'.heap fun b => decide (b ≠ a)
  have gk : ∀ b, b ≠ a → G.get? b = s'.heap.get? b := fun b hb => g1 b (decide_eq_true hb)
  have ge : G.get? a = none := g2 a (by simp)
  have nha : ∀ {b : Addr} {o : Obj}, s1.heap.get? b = some o → b ≠ a := fun {b o} z => Nat.ne_of_lt (Nat.lt_of_lt_of_le (Heap.lt_size z) hsz)
  have U : Un (frs X.stack) [] H1 H1 s1.heap G := {
    keep := fun b o z n f y => (gk b (nha z)).trans (un2.keep b o (up2 b o z) (by rw [upd_ne (nha z)]; exact n) f y)
    slot := fun b o z n f y => by
      obtain ⟨sl, w⟩ := un2.slot b o (up2 b o z) (by rw [upd_ne (nha z)]; exact n) f y
      exact ⟨sl, (gk b (nha z)).trans w⟩
    free := fun b o z n y => n
    there := fun b o z y => by
      obtain ⟨o', w⟩ := un2.there b o (up2 b o z) y
      exact ⟨o', (gk b (nha z)).trans w⟩
    tups := fun b xs z => z
    frzs := fun b o v z => z
    tbls := fun b ps z => ⟨#[], by rw [z]; simp⟩ }
  have neN : ∀ {b : Addr} {o : HO}, H1 b = some o → b ≠ a := fun {b o} z y => by rw [y, na] at z; cases z
  have hok3 : HOk X.prog X.w H1 G := fun b o z => by
    have w := hok2 b o (by rw [upd_ne (neN z)]; exact z)
    refine w.stay (fun c' v hc y => ?_) (fun c' hc => ?_) fun c' xs hc => ?_
    · rw [gk c' ?_]
      · exact y
      · rcases hc with hc | hc
        · rw [hc]; exact neN z
        · intro q2
          rw [q2, upd_same] at hc
          exact exo_own (Option.some.inj hc)
    · have : c' ≠ a := fun q2 => by rw [q2, upd_same] at hc; exact exo_own (Option.some.inj hc)
      rw [upd_ne this] at hc; exact hc
    · have : c' ≠ a := fun q2 => by rw [q2, upd_same] at hc; exact exo_tup (Option.some.inj hc)
      rw [upd_ne this] at hc; exact hc
  have J : Inv X pins σ H1 { s' with heap := G } := I1.call' (ch := []) os2 U hok3 bare2 fun b z => nomatch z
  exact ⟨a, _, _, _, H1, _, none, rfl, J, fun b o z => by
    by_cases hb : b = a
    · rw [hb] at z; exact absurd z (by rw [show G.get? a = none from ge]; simp)
    · rw [← gk b hb]; exact z, ge, hoe, ⟨rfl, rfl⟩, rfl, rfl, na, rfl, bare2, raises_own M.ox.exC M.ox.tyC, q⟩
theorem s_raise0 {pos' : Pos} (hc : X.calm = true) (tk : Takes X W) (M : MkOk X.prog X.w X.K X.mg X.base T k c) (hr : Room (k + 1) X.A) (hg : Gl X x) (hm : X.mg x = some (.ref ((cx X T).addr c))) (hn : (cx X T).flds c = []) (hdb : (x == ("__debug__" : Str)) = false := by decide) :
    PS X (.Raise (some (.Call (.Name x p) [] [] pos)) none pos') (LS (cx X T) W (sRaise c 0 aNil)) := (ps_raise hc tk (pmk0 M hr hg hm hn hdb)).imp fun Dn σ H ⟨sd, ρ, S, h1, h2, h3⟩ =>
  h3 _ _ σ ρ H Le.refl h1 h2 ⟨M.lt, rfl, [], ⟨by rw [hn]; rfl, .inl ⟨hn, rfl⟩⟩, Reps.nil⟩
end
end Lay

set_option Elab.async false
set_option linter.all false
set_option maxRecDepth 100000
set_option maxHeartbeats 4000000
/-! L8: try .. except .. as ... -/
namespace Lay
open PySem PySem.Spec PyProof.Rows L2
section
variable {X : Cx} {pins : List (Addr × Obj)} {σ : St} {H : Hp} {s : Shared}
/-- an object that nothing of ours leans on is tracked from now on -/
theorem inv_track {a : Addr} {o : HO} (I : Inv X pins σ H s) (na : H a = none) (n0 : X.s_0.heap.get? a = none) (nL : a ≠ X.env.locals) (nC : ∀ x c, X.env.cells.lookup x = some c → c ≠ a) (nP : ∀ p ∈ X.pn ++ pins, p.1 ≠ a)
    (new : ObjOk X.prog X.w (upd H a o) s.heap a o) : Inv X pins σ (upd H a o) s where
  ok := I.ok
  os := I.os
  bare := I.bare
  base := {
    keep := I.base.keep
    slot := I.base.slot
    free := fun b u z n y => by
      rw [upd_ne (fun q => by rw [q, n0] at z; cases z)]
      exact I.base.free b u z n y
    there := I.base.there
    tups := fun b xs z => by
      have w := I.base.tups b xs z
      rw [upd_ne (ne_of_none w na)]; exact w
    frzs := fun b u v z => by
      have w := I.base.frzs b u v z
      rw [upd_ne (ne_of_none w na)]; exact w
    tbls := fun b ps z => by
      obtain ⟨m, w⟩ := I.base.tbls b ps z
      exact ⟨m, by rw [upd_ne (ne_of_none w na)]; exact w⟩ }
  loc := I.loc
  cell := I.cell
  free := by rw [upd_ne (Ne.symm nL)]; exact I.free
  freeC := fun x c e => by rw [upd_ne (nC x c e)]; exact I.freeC x c e
  pin := fun p hp => by
    obtain ⟨e1, e2, e3⟩ := I.pin p hp
    exact ⟨e1, by rw [upd_ne (nP p hp)]; exact e2, e3⟩
  hok := fun b u z => by
    by_cases hb : b = a
    · subst hb
      rw [upd_same] at z
      cases z
      exact new
    · rw [upd_ne hb] at z
      exact (I.hok b u z).stay (fun c v _ y => y) (fun c y => by rw [upd_ne (ne_of_none y na)]; exact y) fun c xs y => by rw [upd_ne (ne_of_none y na)]; exact y
  len := I.len
theorem toSuite (I : Inv X pins σ H s) (a : Addr) : Inv (X.suite a X.pn) pins σ H s := ⟨I.ok.suite _ _, I.os, I.bare, I.base, I.loc, I.cell, I.free, I.freeC, I.pin, I.hok, I.len⟩
theorem fromSuite {a : Addr} (I : Inv (X.suite a X.pn) pins σ H s) (ok : X.Ok) : Inv X pins σ H s := ⟨ok, I.os, I.bare, I.base, I.loc, I.cell, I.free, I.freeC, I.pin, I.hok, I.len⟩
end
/-- a clause: its class's value, its name's slot, its suite's reading -/
structure Hdl where
  c : Value
  i : Nat
  ts : TS
def cutE (Dn : Ends) (i : Nat) : Ends := { nx := fun σ H => Dn.nx (σ.set i none) H, rt := Dn.rt, bk := fun σ H => Dn.bk (σ.set i none) H, ct := fun σ H => Dn.ct (σ.set i none) H }
/-- what the clauses wish of an exception of the body -/
def wHs (K : PySem.W.Frag) (Wout : WX) (Dn : Ends) : List Hdl → WX
  | [] => Wout
  | h :: r => fun cls d σ H => ∃ b, PySem.W.exmOne K cls h.c = some b ∧ (b = false → wHs K Wout Dn r cls d σ H) ∧
      (b = true → ∀ a, H a = none → h.ts (cutE Dn h.i) (σ.set h.i (some (.ref a))) (upd H a (ExV cls d a)))
inductive HdlsOk (X : Cx) : List ExceptHandler → List Hdl → Prop
  | nil : HdlsOk X [] []
  | cons {x n : Str} {c : Value} {i : Nat} {ts : TS} {b₀ : Stmt} {suite : List Stmt} {np pos' : Pos} {hds : List ExceptHandler} {l : List Hdl} (hc : Names X x c) (hi : X.N[i]? = some n) (hln : X.env.kindOf n = some .local)
      (hsu : ∀ a, PSs (X.suite a X.pn) (b₀ :: suite) ts) (r : HdlsOk X hds l) : HdlsOk X (.ExceptHandler (some (.Name x np)) (some n) (b₀ :: suite) pos' :: hds) (⟨c, i, ts⟩ :: l)
section
variable {X : Cx} {body : List Stmt} {h₀ : ExceptHandler} {hds : List ExceptHandler} {l : List Hdl} {pos : Pos} {tb : WX → TS} {Wout : WX}
theorem ps_try (hs : X.stack = X.env :: X.outer) (hf : X.env.frame = some X.env.locals) (hN : X.N.Nodup) (hex : X.ex = []) (tk : Takes X Wout)
    (hb : ∀ (W : WX) (pn : List (Addr × Obj)) (xe : Value → Shared → Prop), Takes (X.tr pn xe) W → PSs (X.tr pn xe) body (tb W))
    (hh : HdlsOk X (h₀ :: hds) l) : PS X (.Try body (h₀ :: hds) [] [] pos) (fun Dn σ H => tb (wHs X.K Wout Dn l) Dn σ H) := by
  refine ⟨fun pins s σ H Dn I h => ?_⟩
  have ok := I.ok
  have hfr : X.A.frames = some (X.env :: X.outer) := by rw [ok.frames, hs]
  refine wpAny_Try_except (wpAny_mono ((hb (wHs X.K Wout Dn l) (X.pn ++ pins) (fun e s₁ => wpAny (model X.prog X.w) X.A (noteFrame e X.env) (fun _ s₂ => wpAny (model X.prog X.w) X.A (setFlight e none)
    (fun _ s₃ => wpAny (model X.prog X.w) X.A (handleBy e X.env (h₀ :: hds)) (SP X pins Dn) X.xe s₃) X.xe s₂) X.xe s₁) fun u s' xx => ?_).run [] s σ H Dn (I.toTry _) h) (fun f s1 hsp => ?_) fun e s1 he => he)
  case refine_2 =>
    rcases f with u | _ | _ | _
    case ret =>
      obtain ⟨v, σ', H', J', r, q⟩ := hsp
      exact ⟨v, σ', H', J'.ofTry ok, r, q⟩
    all_goals
      obtain ⟨σ', H', J', q⟩ := hsp
      first
        | exact wpAny_execs_nil ⟨σ', H', J'.ofTry ok, q⟩
        | exact ⟨σ', H', J'.ofTry ok, q⟩
  obtain ⟨a, B, sI, pins', σ', H', cls, d, rfl, J', nb, up, sky, na, os, ag, w⟩ := xx
  have J : Inv X pins σ' H' sI := J'.ofTry ok
  have sky' : Sky B (X.env :: X.outer) a (Zc cls d) X.env.locals s'.heap := by rw [← hs]; exact sky
  refine Sky.land Zc.steady hfr hf sky' fun h3 fl3 up3 => ?_
  have J3 : Inv X pins σ' H' { s' with heap := h3 } := J.landed nb fl3.1 (up.trans up3) os ag
  have nB : B.get? a = none := fl3.2.1
  -- the exception is nobody's
  have nfr : a ∉ frs (X.env :: X.outer) := fun hm => by
    obtain ⟨oe, vs, he, _, hd⟩ := fl3.there
    obtain ⟨_, o', e', hnf⟩ := fl3.2.2.1.mem hm
    rw [he] at e'
    cases e'
    exact hnf _ hd
  have nL : a ≠ X.env.locals := fun z => nfr (List.mem_filterMap.mpr ⟨X.env, List.mem_cons_self, by rw [hf, z]⟩)
  have nI : ∀ b o, sI.heap.get? b = some o → b ∉ frs X.stack → b ≠ a := fun b o e hm z => by
    have w := nb b o e hm
    rw [z, nB] at w
    cases w
  have nI2 : ∀ b o, sI.heap.get? b = some o → b ≠ a := fun b o e z => by
    by_cases hm : b ∈ frs X.stack
    · rw [hs] at hm
      exact nfr (z ▸ hm)
    · exact nI b o e hm z
  have n0 : X.s_0.heap.get? a = none := by
    cases e : X.s_0.heap.get? a with
    | none => rfl
    | some o =>
      obtain ⟨o', e'⟩ := J.base.there a o e (by rw [hex]; simp)
      exact absurd rfl (nI2 a o' e')
  have nC : ∀ x c, X.env.cells.lookup x = some c → c ≠ a := fun x c e => by
    obtain ⟨v, o, ho, _⟩ := J.cell x c e
    exact nI2 c o ho
  have nP : ∀ p ∈ X.pn ++ pins, p.1 ≠ a := fun p hp => nI2 _ _ (J.pin p hp).1
  have trk : ∀ h4, HandSPX.FlyingZ B (X.env :: X.outer) a (Zc cls d) h4 → Inv X pins σ' H' { s' with heap := h4 } → Inv X pins σ' (upd H' a (ExV cls d a)) { s' with heap := h4 } := fun h4 fl J4 => by
    obtain ⟨oe, vs, he, hz, hd⟩ := fl.there
    exact inv_track J4 na n0 nL nC nP (show ObjOk X.prog X.w _ h4 a (ExV cls d a) from ⟨⟨oe, vs, he, hz, hd⟩, ⟨oe, he⟩, fun _ _ ⟨o1, v1, z1, z2⟩ k => ⟨o1, v1, k _ z1, z2⟩⟩)
  have go : ∀ {hds' : List ExceptHandler} {l' : List Hdl}, HdlsOk X hds' l' → wHs X.K Wout Dn l' cls d σ' H' → wpAny (model X.prog X.w) X.A (handleBy (.ref a) X.env hds') (SP X pins Dn) X.xe { s' with heap := h3 } := by
    intro hds' l' hk
    induction hk with
    | nil =>
      intro w
      refine wpAny_handleBy_nil ?_
      obtain ⟨_, _, _, oe, vs, Tb, _, _, he, _, hd, h1, _⟩ := id fl3
      have fin : wpAny (model X.prog X.w) X.A (setFlight (.ref a) X.env.frame) (fun _ s4 => wpAny (model X.prog X.w) X.A (throw (.ref a) : Sem Flow) (SP X pins Dn) X.xe s4) X.xe { s' with heap := h3 } := by
        rw [hf]
        exact HandSPX.setFlight_upZ fl3 fun h4 hh4 up4 => wpAny_throw (tk _ _ ⟨a, B, sI, pins, σ', H', cls, d, rfl, J, nb, (up.trans up3).trans up4, .inr (.inr (by rw [hs]; exact hh4)), na, os, ag, w⟩)
      unfold PySem.passOn
      refine wpAny_bind (wpAny_field he hd h1 ?_)
      rw [if_neg (by simp : ¬ ((Value.ref Tb == Value.none) = true))]
      first
        | exact wpAny_bind (wpAny_pure (wpAny_bind fin))
        | exact wpAny_bind fin
    | @cons x n c i ts b₀ suite np pos' hds2 l2 hc hi hln hsu r ih =>
      intro w
      obtain ⟨b, hb1, hno, hyes⟩ := w
      refine wpAny_handleBy_cons (codeAny_handlers_test ?_) (by intro q; cases q)
      obtain ⟨oe3, vs3, he3, hz3, hd3⟩ := fl3.there
      have LM := PySem.W.exm_one (M := model X.prog X.w) (J3.kIn) (show PySem.W.Looks (model X.prog X.w) h3 (typeOf (.ref a)) cls from fun A Q E s k q => wpAny_typeOf_ref (k _ _ he3) (by rw [hz3.1]; exact q)) hb1
      have test : ∀ {Q : Value → Shared → Prop} {E : Value → Shared → Prop}, Q c { s' with heap := h3 } → wpAny (model X.prog X.w) (X.A.mark (some (.ref a))) (eval (.Name x np) X.env) Q E { s' with heap := h3 } := fun {Q E} q => by
        obtain ⟨hg, hdbg, hm | ⟨hm, hv, hnn⟩⟩ := hc
        · exact ld_glob (X := X.suite a X.pn) (toSuite J3 a) hg hm q hdbg
        · exact ld_blt (X := X.suite a X.pn) (toSuite J3 a) hg hm hv q hnn hdbg
      refine test (LM.here ?_)
      cases b with
      | false => exact ih (hno rfl)
      | true =>
        refine codeAny_handlers_suite_as (HandSPX.lands_againZ fl3 fun h4 fl4 up4 => ?_)
        have S4 := toSuite (trk h4 fl4 (J.landed nb fl4.1 ((up.trans up3).trans up4) os ag)) a
        refine store_ok (X := X.suite a X.pn) (v := .ref a) S4 hN hi (.inl hln) rfl (fun s5 S5 => ?_) (.inr hln)
        refine wpAny_mono ((hsu a).run pins s5 _ _ _ S5 (hyes rfl a na)) (fun f s6 hsp => ?_) (fun _ _ z => False.elim z)
        have end_ : ∀ {σ6 : St} {H6 : Hp} {Q : Shared → Prop}, Inv (X.suite a X.pn) pins σ6 H6 s6 → (∀ s7, Inv X pins (σ6.set i none) H6 s7 → Q s7) →
            wpAny (model X.prog X.w) X.A (do bindName X.env n .none; unbindBehindTheSuite X.env n pos') (fun _ s7 => Q s7) X.xe s6 := fun {σ6 H6 Q} S6 hq => gone_ok (fromSuite S6 ok) hN hi hln hq
        rcases f with u | _ | _ | _
        case ret =>
          obtain ⟨v6, σ6, H6, S6, r6, q6⟩ := hsp
          exact end_ S6 fun s7 J7 => ⟨_, _, _, J7, r6, q6⟩
        all_goals
          obtain ⟨σ6, H6, S6, q6⟩ := hsp
          exact end_ S6 fun s7 J7 => ⟨_, _, J7, q6⟩
  exact go hh w
end
/-! ### the reading of a try by a function of ours -/
structure HdD where
  c : Nat
  i : Nat
  F : FF
def cutR (i : Nat) : SRes → SRes
  | .nx sd S => .nx (sd.set i none) S
  | .bk sd S => .bk (sd.set i none) S
  | .ct sd S => .ct (sd.set i none) S
  | .rt d S => .rt d S
  | .exc _ _ _ => .bad
  | .bad => .bad
def tryH (T : List Cls) : List HdD → Ex → FF
  | [], e => fun sd S => .exc e sd S
  | h :: r, e => if subD T (.own e.c) (.own h.c) then fun sd S => cutR h.i (h.F (sd.set h.i (some (.exn e.c e.ds))) S) else tryH T r e
def sTry (T : List Cls) (F : FF) (hs : List HdD) : FF := fun sd S => match F sd S with
  | .exc e sd' S' => tryH T hs e sd' S'
  | r => r
theorem Slots.cut {C : Ctx} {ρ : List Addr} {H : Hp} {sd : SD} {σ : St} (i : Nat) (h : Slots C ρ H sd σ) : Slots C ρ H (sd.set i none) (σ.set i none) := by
  refine ⟨by simp [h.len], fun j e q => ?_⟩
  by_cases hj : j = i
  · subst hj
    rw [List.getElem?_set] at q
    simp at q
  · rw [List.getElem?_set_ne (Ne.symm hj)] at q
    rw [List.getElem?_set_ne (Ne.symm hj)]
    exact h.at_ j e q
/-- which class an except clause takes: the written part's answers -/
def exmB (C : Ctx) (c : Nat) : Bool := (List.range C.T.length).all fun k => decide (PySem.W.exmOne C.K (.ref (C.addr k)) (.ref (C.addr c)) = some (subD C.T (.own k) (.own c)))
theorem exmB_ok {C : Ctx} {c k : Nat} (h : exmB C c = true) (hk : k < C.T.length) : PySem.W.exmOne C.K (.ref (C.addr k)) (.ref (C.addr c)) = some (subD C.T (.own k) (.own c)) :=
  of_decide_eq_true (List.all_eq_true.mp h k (List.mem_range.mpr hk))
def hdlOf (C : Ctx) (h : HdD) : Hdl := ⟨.ref (C.addr h.c), h.i, LS C WN h.F⟩
theorem cut_ends {C : Ctx} {W : WX} {Dn : Ends} {ρ : List Addr} {H : Hp} {i : Nat} {r : SRes} (h : EndS C W Dn ρ H (cutR i r)) : EndS C WN (cutE Dn i) ρ H r := by
  cases r with
  | nx sd S => exact fun σ ρ' H' l s1 s2 => h _ ρ' H' l (s1.cut i) s2
  | bk sd S => exact fun σ ρ' H' l s1 s2 => h _ ρ' H' l (s1.cut i) s2
  | ct sd S => exact fun σ ρ' H' l s1 s2 => h _ ρ' H' l (s1.cut i) s2
  | rt d S => exact h
  | exc e sd S => exact h.elim
  | bad => exact h.elim
theorem try_wish {C : Ctx} {W : WX} {Dn : Ends} {hs : List HdD} (hx : ∀ h ∈ hs, exmB C h.c = true) {ρ : List Addr} {H : Hp} {e : Ex} {sd : SD} {S : Store} (h : EndS C W Dn ρ H (tryH C.T hs e sd S)) {cls : Value} {d : Option Addr} {σ : St} {ρ' : List Addr} {H' : Hp}
    (l : Le ρ H ρ' H') (s1 : Slots C ρ' H' sd σ) (s2 : SRep C ρ' H' S) (r : ExRep C ρ' H' e cls d) : wHs C.K W Dn (hs.map (hdlOf C)) cls d σ H' := by
  induction hs with
  | nil => exact h cls d σ ρ' H' l s1 s2 r
  | cons hd tl ih =>
    obtain ⟨hc, ecl, xs, dk, rx⟩ := id r
    refine ⟨_, by rw [ecl]; exact exmB_ok (hx hd List.mem_cons_self) hc, fun eb => ?_, fun eb a na => ?_⟩
    · unfold tryH at h
      rw [if_neg (by rw [eb]; simp)] at h
      exact ih (fun q hq => hx q (List.mem_cons_of_mem _ hq)) h
    · unfold tryH at h
      rw [if_pos eb] at h
      have l2 : Le ρ' H' ρ' (upd H' a (ExV cls d a)) := Le.new na
      refine ⟨_, ρ', S, ?_, s2.free na, EndS.base (l.trans l2) (cut_ends h)⟩
      refine (s1.le l2).set ?_
      simp only [Rep]
      exact ⟨a, d, xs, rfl, hc, by rw [upd_same, ecl], dk.le l2, rx.le l2⟩
inductive HdDOk (X : Cx) (T : List Cls) : List ExceptHandler → List HdD → Prop
  | nil : HdDOk X T [] []
  | cons {x n : Str} {c i : Nat} {F : FF} {b₀ : Stmt} {suite : List Stmt} {np pos' : Pos} {hds : List ExceptHandler} {l : List HdD} (hg : Gl X x) (hm : X.mg x = some (.ref ((cx X T).addr c))) (hdb : (x == ("__debug__" : Str)) = false) (hi : X.N[i]? = some n) (hln : X.env.kindOf n = some .local)
      (hsu : ∀ a, PSs (X.suite a X.pn) (b₀ :: suite) (LS (cx X T) WN F)) (r : HdDOk X T hds l) : HdDOk X T (.ExceptHandler (some (.Name x np)) (some n) (b₀ :: suite) pos' :: hds) (⟨c, i, F⟩ :: l)
theorem HdDOk.hdls {X : Cx} {T : List Cls} {hds : List ExceptHandler} {l : List HdD} (h : HdDOk X T hds l) : HdlsOk X hds (l.map (hdlOf (cx X T))) := by
  induction h with
  | nil => exact .nil
  | cons hg hm hdb hi hln hsu r ih => exact .cons ⟨hg, hdb, .inl hm⟩ hi hln hsu ih
section
variable {X : Cx} {T : List Cls} {W : WX} {body : List Stmt} {h₀ : ExceptHandler} {hds : List ExceptHandler} {l : List HdD} {pos : Pos} {F : FF}
theorem s_try (hs : X.stack = X.env :: X.outer) (hf : X.env.frame = some X.env.locals) (hN : X.N.Nodup) (hex : X.ex = []) (tk : Takes X W) (hx : ∀ h ∈ l, exmB (cx X T) h.c = true)
    (hb : ∀ (W : WX) (pn : List (Addr × Obj)) (xe : Value → Shared → Prop), Takes (X.tr pn xe) W → PSs (X.tr pn xe) body (LS (cx X T) W F)) (hh : HdDOk X T (h₀ :: hds) l) :
    PS X (.Try body (h₀ :: hds) [] [] pos) (LS (cx X T) W (sTry T F l)) := (ps_try hs hf hN hex tk hb hh.hdls).imp fun Dn σ H ⟨sd, ρ, S, h1, h2, h3⟩ => by
  refine ⟨sd, ρ, S, h1, h2, ?_⟩
  unfold sTry at h3
  cases q : F sd S with
  | exc e sd' S' =>
    rw [q] at h3
    exact fun cls d σ' ρ' H' l' s1 s2 r => try_wish (C := cx X T) hx h3 l' s1 s2 r
  | nx sd' S' => rw [q] at h3; exact h3
  | rt d S' => rw [q] at h3; exact h3
  | bk sd' S' => rw [q] at h3; exact h3
  | ct sd' S' => rw [q] at h3; exact h3
  | bad => rw [q] at h3; exact h3
end
end Lay

set_option Elab.async false
set_option linter.all false
set_option maxRecDepth 100000
set_option maxHeartbeats 4000000
/-! L9: in, dicts, -, list(range), three names. -/
namespace Lay
open PySem PySem.Spec PyProof.Rows L2
/-! ### dicts, read -/
def rdK (S : Store) (n : Nat) : Option (List (Key × D)) := match S[n]? with
  | some (.dct kvs) => some kvs
  | some (.dlk kvs) => some kvs
  | _ => none
def keyD : D → Option Key
  | .int i => some (.inl i)
  | .str x => some (.inr x)
  | _ => none
def valD (kvs : List (Key × D)) (k : Key) : Option D := (kvs.find? fun kv => decide (kv.1 = k)).map (·.2)
section
variable {C : Ctx} {ρ : List Addr} {H : Hp} {S : Store}
theorem SRep.rdK {n : Nat} {x : V} {kvs : List (Key × D)} (s : SRep C ρ H S) (r : Rep C ρ H (.ref n) x) (e : rdK S n = some kvs) : ∃ a ws, x = .ref a ∧ ρ[n]? = some a ∧ Rd H a (.dK ws) ∧ KReps C ρ H kvs ws := by
  obtain ⟨a, h1, h2⟩ := rep_ref.mp r
  unfold Lay.rdK at e
  split at e
  · rename_i kvs' h
    cases e
    obtain ⟨ws, h3, h4⟩ := s.at_ n a _ h1 h
    exact ⟨a, ws, h2, h1, .inl h3, h4⟩
  · rename_i kvs' h
    cases e
    obtain ⟨ws, o, h3, h4⟩ := s.at_ n a _ h1 h
    exact ⟨a, ws, h2, h1, .inr ⟨o, h3⟩, h4⟩
  · cases e
theorem keyD_rep {d : D} {k : Key} {v : V} (e : keyD d = some k) (r : Rep C ρ H d v) : v = kV k := by
  cases d with
  | int i => cases e; exact rep_int.mp r
  | str x => cases e; exact rep_str.mp r
  | _ => cases e
theorem KReps.val {kvs : List (Key × D)} {ws : List (Key × V)} (r : KReps C ρ H kvs ws) (k : Key) : (valD kvs k = none ∧ valV ws k = none) ∨ ∃ d v, valD kvs k = some d ∧ valV ws k = some v ∧ Rep C ρ H d v := by
  unfold KReps at r
  induction r with
  | nil => exact .inl ⟨rfl, rfl⟩
  | @cons p q ps qs h t ih =>
    by_cases e : q.1 = k
    · refine .inr ⟨p.2, q.2, ?_, valV_pos e, h.2⟩
      simp [valD, List.find?_cons, h.1, e]
    · rw [valV_neg e]
      have e2 : valD (p :: ps) k = valD ps k := by simp [valD, List.find?_cons, h.1, e]
      rw [e2]
      exact ih
end
def flatD : D → Option V
  | .non => some .non
  | .bl b => some (.bl b)
  | .int i => some (.int i)
  | .str x => some (.str x)
  | _ => none
def flatDs : List D → Option (List V)
  | [] => some []
  | d :: ds => match flatD d, flatDs ds with
    | some v, some vs => some (v :: vs)
    | _, _ => none
theorem flatD_rep {C : Ctx} {ρ : List Addr} {H : Hp} {d : D} {u v : V} (e : flatD d = some u) (r : Rep C ρ H d v) : v = u ∧ flatV u = true := by
  cases d with
  | non => cases e; exact ⟨rep_non.mp r, rfl⟩
  | bl b => cases e; exact ⟨rep_bl.mp r, rfl⟩
  | int i => cases e; exact ⟨rep_int.mp r, rfl⟩
  | str x => cases e; exact ⟨rep_str.mp r, rfl⟩
  | _ => cases e
theorem flatDs_rep {C : Ctx} {ρ : List Addr} {H : Hp} : ∀ {ds : List D} {us vs : List V}, flatDs ds = some us → Reps C ρ H ds vs → vs = us ∧ us.all flatV = true
  | [], us, vs, e, r => by cases e; exact ⟨r.nil_inv, rfl⟩
  | d :: ds, us, vs, e, r => by
    obtain ⟨v, ws, rfl, q, t⟩ := r.inv
    unfold flatDs at e
    split at e
    · rename_i u us' e1 e2
      cases e
      obtain ⟨rfl, f1⟩ := flatD_rep e1 q
      obtain ⟨rfl, f2⟩ := flatDs_rep e2 t
      exact ⟨rfl, by simp [f1, f2]⟩
    · cases e
def inL (neg : Bool) (x : D) (ds : List D) (S : Store) : Pr D := match flatD x, flatDs ds with
  | some v, some vs => some (.bl (if neg then !inV v vs else inV v vs), S)
  | _, _ => none
/-- x in y, x not in y -/
def pIn (neg : Bool) : P2 := fun x y S => match y with
  | .tup ds => inL neg x ds S
  | .ref n => match rdL S n with
    | some ds => inL neg x ds S
    | none => match rdK S n, keyD x with
      | some kvs, some k => some (.bl (if neg then !(valD kvs k).isSome else (valD kvs k).isSome), S)
      | _, _ => none
  | .str z => match x with
    | .str t => some (.bl (if neg then !(!(Builtin.Str.occurrences z t 0 z.length 1).isEmpty) else !(Builtin.Str.occurrences z t 0 z.length 1).isEmpty), S)
    | _ => none
  | _ => none
section
variable {X : Cx} {T : List Cls} {W : WX}
theorem op_din {neg : Bool} {op : CmpOp} (hop : op = if neg then .NotIn else .In) (hu : X.A.units + 1 < cLine) : OpR X (compareOp op) (fun x y H Q => ∃ a o, y = .ref a ∧ DGet H a x o ∧ Q (.bl (if neg then !o.isSome else o.isSome)) H) := by
  intro pins s σ H x y v u Q I rx ry ⟨a, o, e, g, q⟩
  subst e hop
  cases ry
  cases neg with
  | true => exact d_notIn hu I g rx fun s' I' => ⟨.bl _, H, I', rfl, q⟩
  | false => exact d_in hu I g rx fun s' I' => ⟨.bl _, H, I', rfl, q⟩
theorem inL_case {neg : Bool} {op : CmpOp} (hop : op = if neg then .NotIn else .In) {ρ : List Addr} {H : Hp} {S : Store} {dx : D} {x : V} {ds : List D} {p : Addr} {xs : List V} {Q : VK} (h1 : Rep (cx X T) ρ H dx x) (hq : SqL X.K H p xs ∨ SqT X.K H p xs) (r : Reps (cx X T) ρ H ds xs)
    (h3 : SRep (cx X T) ρ H S) (h4 : EndP (cx X T) ρ H (RD (cx X T)) (inL neg dx ds S) Q) : ∃ r : R2, OpR X (compareOp op) r ∧ r x (.ref p) H Q := by
  obtain ⟨z, hz, k⟩ := h4
  unfold inL at hz
  split at hz
  · rename_i v vs e1 e2
    cases hz
    obtain ⟨rfl, f1⟩ := flatD_rep e1 h1
    obtain ⟨rfl, f2⟩ := flatDs_rep e2 r
    subst hop
    cases neg with
    | true => exact ⟨_, op_notIn_seq, p, xs, rfl, hq, f1, f2, k _ _ _ Le.refl h3 (rep_bl.mpr rfl)⟩
    | false => exact ⟨_, op_in_seq, p, xs, rfl, hq, f1, f2, k _ _ _ Le.refl h3 (rep_bl.mpr rfl)⟩
  · cases hz
theorem op_pIn {neg : Bool} {op : CmpOp} (hop : op = if neg then .NotIn else .In) (hu : X.A.units + 1 < cLine) : OpP X T (compareOp op) (pIn neg) := OpP.of fun dx dy ρ S x y H Q h1 h2 h3 h4 => by
  unfold pIn at h4
  split at h4
  · rename_i ds
    obtain ⟨a, xs, rfl, q1, q2⟩ := rep_tup.mp h2
    exact inL_case hop h1 (.inr q1) q2 h3 h4
  · rename_i n
    split at h4
    · rename_i ds hd
      obtain ⟨a, xs, rfl, q1, q2⟩ := h3.rd h2 hd
      exact inL_case hop h1 (.inl q1) q2 h3 h4
    · obtain ⟨z, hz, k⟩ := h4
      split at hz
      · rename_i kvs ky e1 e2
        cases hz
        obtain ⟨a, ws, rfl, q0, q1, q2⟩ := h3.rdK h2 e1
        obtain rfl := keyD_rep e2 h1
        have g : DGet H a (kV ky) (valV ws ky) := .inl ⟨ws, ky, q1, rfl, rfl⟩
        have e3 : (valD kvs ky).isSome = (valV ws ky).isSome := by
          rcases q2.val ky with ⟨z1, z2⟩ | ⟨d, v, z1, z2, _⟩
          · rw [z1, z2]; rfl
          · rw [z1, z2]; rfl
        exact ⟨_, op_din hop hu, a, _, rfl, g, k _ _ _ Le.refl h3 (rep_bl.mpr (by rw [e3]))⟩
      · cases hz
  · rename_i zz
    obtain ⟨z, hz, k⟩ := h4
    split at hz
    · rename_i t
      cases hz
      obtain rfl := rep_str.mp h1
      obtain rfl := rep_str.mp h2
      subst hop
      cases neg with
      | true => exact ⟨_, op_notin_str, t, zz, rfl, rfl, k _ _ _ Le.refl h3 (rep_bl.mpr rfl)⟩
      | false => exact ⟨_, op_in_str, t, zz, rfl, rfl, k _ _ _ Le.refl h3 (rep_bl.mpr rfl)⟩
    · cases hz
  · obtain ⟨z, hz, k⟩ := h4
    cases hz
/-! ### items of sequences and dicts -/
def pIxA : P2 := fun x y S => match x with
  | .ref n => match rdK S n, keyD y with
    | some kvs, some k => (valD kvs k).map fun d => (d, S)
    | _, _ => pIx x y S
  | _ => pIx x y S
theorem ixA_ok (hu : X.A.units + 1 < cLine) : IxR X (rP (cx X T) pIxA) := by
  intro value slice pins s σ H x y v u Q I rx ry ⟨dx, dy, ρ, S, h1, h2, h3, h4⟩ hsub
  have old : ∀ {dx' : D}, Rep (cx X T) ρ H dx' x → EndP (cx X T) ρ H (RD (cx X T)) (pIx dx' dy S) Q → wpAny (model X.prog X.w) X.A (subscriptTail value slice v u) (EP X pins σ Q) X.xe s := fun {dx'} h1 h4 =>
    ix_ok value slice pins s σ H x y v u Q I rx ry ⟨dx', dy, ρ, S, h1, h2, h3, h4⟩ hsub
  unfold pIxA at h4
  split at h4
  · rename_i n
    split at h4
    · rename_i kvs ky e1 e2
      obtain ⟨z, hz, k⟩ := h4
      obtain ⟨d, e3, rfl⟩ := Option.map_eq_some_iff.mp hz
      obtain ⟨a, ws, rfl, q0, q1, q2⟩ := h3.rdK h1 e1
      obtain rfl := keyD_rep e2 h2
      rcases q2.val ky with ⟨z1, z2⟩ | ⟨d', w, z1, z2, r⟩
      · rw [z1] at e3; cases e3
      · rw [z1] at e3
        cases e3
        have g : DGet H a (kV ky) (some w) := .inl ⟨ws, ky, q1, rfl, z2.symm⟩
        cases rx
        exact tail_any (dict_typeIs I g) PySem.F.slot_dict_getitem.lookup (d_getItem hu I g ry fun w' s3 I3 rw' => ⟨w, H, I3, rw', k w ρ H Le.refl h3 r⟩) hsub
    · exact old h1 h4
  · exact old h1 h4
variable {a b c e : Expr} {es : List Expr} {fa fb m : EE} {aa : EA} {pos p pp : Pos}
theorem e_ixA (hu : X.A.units + 1 < cLine) (ha : PE X a (LE (cx X T) W fa)) (hb : PE X b (LE (cx X T) W fb)) (hs : PlainIx b) : PE X (.Subscript a b pos) (LE (cx X T) W (eBin pIxA fa fb)) := (pe_ix (ixA_ok hu) ha hb hs).imp fun _ _ _ h => eBin_run h
/-! ### - -/
def eNeg (fa : EE) : EE := eBind fa fun x => fun _ S => match x with
  | .int i => .ok (.int (-i)) S
  | _ => .bad
theorem e_neg (ha : PE X a (LE (cx X T) W fa)) : PE X (.UnaryOp .USub a pos) (LE (cx X T) W (eNeg fa)) := (pe_un un_neg ha).imp fun σ H Q ⟨sd, ρ, S, h1, h2, h3⟩ => by
  refine LG.run h1 h2 h3 fun dx x ρ1 S1 H1 l1 s1 r1 k1 => ?_
  split at k1
  · rename_i i
    exact ⟨i, rep_int.mp r1, k1 _ ρ1 H1 Le.refl s1 (rep_int.mpr rfl)⟩
  · exact k1.elim
/-! ### list(range(e)) -/
def eListRg (fa : EE) : EE := eBind fa fun x => fun _ S => match x with
  | .int i => if decide (-(2 ^ 62) ≤ i ∧ i ≤ 16777216) then .ok (.ref S.length) (S ++ [.lst (rngD 0 i.toNat)]) else .bad
  | _ => .bad
theorem reps_rg {C : Ctx} {ρ : List Addr} {H : Hp} (lo : Int) : ∀ l : List Nat, Reps C ρ H (l.map fun (i : Nat) => D.int (lo + (i : Int))) (l.map fun (i : Nat) => V.int (lo + (i : Int)))
  | [] => Reps.nil
  | i :: l => Reps.cons (rep_int.mpr rfl) (reps_rg lo l)
theorem e_listRg (hc : X.calm = true) (hg : Gl X "list") (hm : X.mg "list" = none) (hg2 : Gl X "range") (hm2 : X.mg "range" = none) (ha : PE X a (LE (cx X T) W fa)) (na : starEach [a] X.env = (false, eval a X.env) :: starEach [] X.env := by rfl)
    (na2 : starEach [.Call (.Name "range" p) [a] [] pp] X.env = (false, eval (.Call (.Name "range" p) [a] [] pp) X.env) :: starEach [] X.env := by rfl) {p3 : Pos} : PE X (.Call (.Name "list" p3) [.Call (.Name "range" p) [a] [] pp] [] pos) (LE (cx X T) W (eListRg fa)) :=
  (pe_listRg hc hg hm (prg_1 hg2 hm2 ha na) na2).imp fun σ H Q ⟨sd, ρ, S, h1, h2, h3⟩ => by
    refine LG.run h1 h2 h3 fun dx x ρ1 S1 H1 l1 s1 r1 k1 => ?_
    split at k1
    · rename_i i
      split at k1
      · rename_i hf
        obtain ⟨f1, f2⟩ := of_decide_eq_true hf
        refine ⟨i, rep_int.mp r1, ⟨by omega, by omega, f1, by omega, by omega⟩, fun q hq => ?_⟩
        refine kPush (fun b ρ' H' l s r => k1 b ρ' H' l s r) s1 hq ⟨rgV 0 i, upd_same, ?_⟩
        unfold rgV rngD
        have e0 : (i - 0).toNat = i.toNat := by simp
        rw [e0]
        exact reps_rg 0 _
      · exact k1.elim
    · exact k1.elim
/-! ### a, b, c = x, y, z -/
theorem Reps.three {C : Ctx} {ρ : List Addr} {H : Hp} {d e f : D} {xs : List V} (r : Reps C ρ H [d, e, f] xs) : ∃ v w u, xs = [v, w, u] ∧ Rep C ρ H d v ∧ Rep C ρ H e w ∧ Rep C ρ H f u := by
  obtain ⟨v, vs, rfl, h1, h2⟩ := r.inv
  obtain ⟨w, u, rfl, h3, h4⟩ := Reps.two h2
  exact ⟨v, w, u, rfl, h1, h3, h4⟩
theorem s_par3 {i j l : Nat} {x y z : Str} {px py pz pt : Pos} {kt k2 pt2} (hc : X.calm = true) (hN : X.N.Nodup) (hi : X.N[i]? = some x) (hj : X.N[j]? = some y) (hl : X.N[l]? = some z) (hij : i ≠ j) (hil : i ≠ l) (hjl : j ≠ l)
    (hx : X.env.scope.names.lookup x = some .local) (hy : X.env.scope.names.lookup y = some .local) (hz : X.env.scope.names.lookup z = some .local) (ha : PA X [a, b, c] (LA (cx X T) W aa))
    (hw : swappedStores [.Tuple [.Name x px, .Name y py, .Name z pz] kt pt] (.Tuple [a, b, c] k2 pt2) X.env = pure (some [x, y, z]))
    (hs : swapsWithSole [.Tuple [.Name x px, .Name y py, .Name z pz] kt pt] (.Tuple [a, b, c] k2 pt2) pos.line X.env = pure false := by rfl) :
    PS X (.Assign [.Tuple [.Name x px, .Name y py, .Name z pz] kt pt] (.Tuple [a, b, c] k2 pt2) pos) (LS (cx X T) W (sPar3 i j l aa)) := (ps_par3 hc hN hi hj hl hij hil hjl hx hy hz ha hw hs).imp fun Dn σ H ⟨sd, ρ, S, h1, h2, h3⟩ => by
  refine LS.run h1 h2 h3 fun dx x ρ1 S1 H1 l1 s1 r1 k1 => ?_
  split at k1
  · obtain ⟨v, w, u, rfl, r, r', r''⟩ := Reps.three r1
    exact ⟨v, w, u, rfl, k1 _ ρ1 H1 Le.refl ((((h1.le l1).set r).set r').set r'') s1⟩
  · exact k1.elim
end
/-! ### displays of dicts -/
def zipKV (ks : List Key) (vs : List V) : List (V × V) := (ks.zip vs).map fun kv => (kV kv.1, kv.2)
structure DP (X : Cx) (T : List Cls) (W : WX) (pos : Pos) (keys : List (Option Expr)) (values : List Expr) (ks : List Key) (aa : EA) : Prop where
  ex : ∃ trs, PPs X pos keys values trs ∧ ∀ σ H Q, LA (cx X T) W aa σ H (fun vs H' => vs.length = ks.length ∧ Q (zipKV ks vs) H') → tPairs trs σ H Q
section
variable {X : Cx} {T : List Cls} {W : WX} {pos p : Pos} {e : Expr} {fa : EE} {aa : EA} {keys : List (Option Expr)} {values : List Expr} {ks : List Key}
theorem dp_nil : DP X T W pos [] [] [] aNil := ⟨[], pps_nil, fun σ H Q ⟨sd, ρ, S, h1, h2, h3⟩ => (h3 [] ρ H Le.refl h2 Reps.nil).2⟩
theorem dp_cons {x : Str} {j : Nat} (he : PE X e (LE (cx X T) W fa)) (hr : DP X T W pos keys values ks aa) : DP X T W pos (some (.Constant (.str x) j p) :: keys) (e :: values) (.inr x :: ks) (aCons fa aa) := by
  obtain ⟨trs, h, k⟩ := hr.ex
  refine ⟨_, pps_cons pe_str he h, fun σ H Q ⟨sd, ρ, S, h1, h2, h3⟩ => ?_⟩
  show LE (cx X T) W fa σ H _
  refine LG.run h1 h2 h3 fun dx x ρ1 S1 H1 l1 s1 r1 k1 => ?_
  refine k σ H1 _ ?_
  refine LG.run (h1.le l1) s1 k1 fun dy y ρ2 S2 H2 l2 s2 r2 k2 => ?_
  obtain ⟨z1, z2⟩ := k2 _ ρ2 H2 Le.refl s2 (Reps.cons (Rep.le l2 r1) r2)
  exact ⟨by simpa using z1, z2⟩
def eDct0 : EE := fun _ S => .ok (.ref S.length) (S ++ [.dct []])
theorem e_dct0 : PE X (.Dict [] [] pos) (LE (cx X T) W eDct0) := pe_dnewK.imp fun σ H Q ⟨sd, ρ, S, h1, h2, h3⟩ p hp => kPush (fun b ρ' H' l s r => h3 b ρ' H' l s r) h2 hp ⟨[], upd_same, .nil⟩
def eDct (ks : List Key) (aa : EA) : EE := fun sd S => match aa sd (S ++ [.dct []]) with
  | .ok ds S' => match S'[S.length]? with
    | some (.dct []) => if ds.length = ks.length then .ok (.ref S.length) (S'.set S.length (.dct (ks.zip ds))) else .bad
    | _ => .bad
  | .exc e S' => .exc e S'
  | .bad => .bad
theorem mergeK_new : ∀ (more acc : List (Key × V)), (more.map (·.1)).Nodup → (∀ p ∈ more, ∀ q ∈ acc, q.1 ≠ p.1) → mergeK acc more = acc ++ more
  | [], acc, _, _ => by simp [mergeK]
  | p :: more, acc, nd, dj => by
    have e : putK acc p.1 p.2 = acc ++ [p] := by
      unfold putK
      rw [if_neg]
      simp only [List.any_eq_true, decide_eq_true_eq, not_exists, not_and]
      exact fun q hq z => dj p List.mem_cons_self q hq z
    show mergeK (putK acc p.1 p.2) more = _
    rw [e, mergeK_new more (acc ++ [p])]
    · simp
    · exact (List.nodup_cons.mp nd).2
    · intro q hq r hr z
      rcases List.mem_append.mp hr with h | h
      · exact dj q (List.mem_cons_of_mem _ hq) r h z
      · have : r = p := by simpa using h
        subst this
        exact (List.nodup_cons.mp nd).1 (List.mem_map.mpr ⟨q, hq, z.symm⟩)
theorem kreps_zip {C : Ctx} {ρ : List Addr} {H : Hp} : ∀ {ks : List Key} {ds : List D} {vs : List V}, Reps C ρ H ds vs → KReps C ρ H (ks.zip ds) (ks.zip vs)
  | [], _, _, _ => by simp only [List.zip_nil_left]; exact .nil
  | _ :: _, [], vs, r => by rw [r.nil_inv]; exact .nil
  | k :: ks, d :: ds, vs, r => by
    obtain ⟨v, ws, rfl, q, t⟩ := r.inv
    exact .cons ⟨rfl, q⟩ (kreps_zip t)
theorem e_dct (h : DP X T W pos keys values ks aa) (hall : keys.all (·.isSome) = true) (hl : keys.length = values.length) (h0 : keys ≠ []) (h15 : keys.length ≤ 15) (hk : ks.length ≤ 15) (hn : ks.Nodup) : PE X (.Dict keys values pos) (LE (cx X T) W (eDct ks aa)) := by
  obtain ⟨trs, hp, k⟩ := h.ex
  refine (pe_disp hp hall hl h0 h15).imp fun σ H Q ⟨sd, ρ, S, h1, h2, h3⟩ p hp => ?_
  have s1 : SRep (cx X T) (ρ ++ [p]) (upd H p (.dK [])) (S ++ [.dct []]) := h2.push hp ⟨[], upd_same, .nil⟩
  have l1 : Le ρ H (ρ ++ [p]) (upd H p (.dK [])) := Le.newR hp
  have hat : (ρ ++ [p])[S.length]? = some p := by rw [← h2.len, List.getElem?_append_right (Nat.le_refl _)]; simp
  refine k σ _ _ ⟨sd, _, _, h1.le l1, s1, ?_⟩
  unfold eDct at h3
  cases e : aa sd (S ++ [.dct []]) with
  | bad => rw [e] at h3; exact h3.elim
  | exc x S' => rw [e] at h3; exact fun cls d ρ' H' l s r => h3 cls d ρ' H' (l1.trans l) s r
  | ok ds S' =>
    rw [e] at h3
    dsimp only at h3
    intro vs ρ' H' l s r
    split at h3
    · rename_i e2
      have hp' := l.at hat
      obtain ⟨ws, q1, q2⟩ := s.at_ S.length p _ hp' e2
      cases q2
      split at h3
      case isFalse => exact h3.elim
      rename_i hz
      have z : vs.length = ks.length := by rw [← r.length]; exact hz
      refine ⟨z, q1, ks.zip vs, rfl, by rw [List.length_zip]; omega, ?_⟩
      have e3 : mergeK [] (ks.zip vs) = ks.zip vs := by
        rw [mergeK_new _ [] ?_ (by simp)]
        · simp
        · rw [List.map_fst_zip (by omega)]; exact hn
      rw [e3]
      have l2 : Le ρ' H' ρ' (upd H' p (.dK (ks.zip vs))) := Le.lock fun o' h => by rw [q1] at h; cases h; exact fun z => z
      exact h3 _ ρ' _ (l1.trans (l.trans l2)) (s.write hp' e2 rfl l2 ⟨_, upd_same, (kreps_zip r).le l2⟩) (rep_ref.mpr ⟨p, hp', rfl⟩)
    · exact h3.elim
end
end Lay
set_option Elab.async false
set_option linter.all false
set_option maxRecDepth 100000
set_option maxHeartbeats 4000000
/-! L10: a dict walked by its keys, locked for the while. -/
namespace Lay
open PySem PySem.Spec PyProof.Rows L2
open Classical
/-! ### unlocking -/
section
variable {C : Ctx} {ρ : List Addr} {H : Hp} {d : Addr} {od : Obj} {ws : List (Key × V)} {u : HO}
theorem SqT.unl {a : Addr} {xs : List V} (hd : H d = some (.frz od (.dK ws))) (h : SqT C.K H a xs) : SqT C.K (upd H d u) a xs := by
  rcases h with (h | ⟨o, h⟩) | h
  · exact .inl (.inl (by rw [upd_ne (fun e => by rw [e, hd] at h; cases h)]; exact h))
  · exact .inl (.inr ⟨o, by rw [upd_ne (fun e => by rw [e, hd] at h; cases h)]; exact h⟩)
  · exact .inr h
theorem ext_ne {φ : Heap → Prop} {a : Addr} (hd : H d = some (.frz od (.dK ws))) (h : H a = some (.ext φ)) : a ≠ d := fun e => by rw [e, hd] at h; cases h
theorem DictOk.unl {flds : List Str} {e : Option Addr} {xs : List V} (hd : H d = some (.frz od (.dK ws))) (h : DictOk flds H e xs) : DictOk flds (upd H d u) e xs := by
  obtain ⟨hl, h⟩ := h
  refine ⟨hl, ?_⟩
  rcases h with h | ⟨dd, fs, e1, e2, e3⟩
  · exact .inl h
  · exact .inr ⟨dd, fs, e1, by rw [upd_ne (fun z => by rw [z, hd] at e2; cases e2)]; exact e2, e3⟩
mutual
theorem Rep.unl (hd : H d = some (.frz od (.dK ws))) : ∀ {x : D} {v : V}, Rep C ρ H x v → Rep C ρ (upd H d u) x v
  | .non, v, h => by simpa only [Rep] using h
  | .bl b, v, h => by simpa only [Rep] using h
  | .int i, v, h => by simpa only [Rep] using h
  | .str x, v, h => by simpa only [Rep] using h
  | .ref n, v, h => by simpa only [Rep] using h
  | .tup ds, v, h => by
    simp only [Rep] at h ⊢
    obtain ⟨a, xs, e, s, r⟩ := h
    exact ⟨a, xs, e, SqT.unl hd s, Reps.unl hd r⟩
  | .exn c ds, v, h => by
    simp only [Rep] at h ⊢
    obtain ⟨a, dd, xs, e, hc, ha, hk, r⟩ := h
    exact ⟨a, dd, xs, e, hc, by rw [upd_ne (ext_ne hd ha)]; exact ha, hk.unl hd, Reps.unl hd r⟩
theorem Reps.unl (hd : H d = some (.frz od (.dK ws))) : ∀ {ds : List D} {vs : List V}, Reps C ρ H ds vs → Reps C ρ (upd H d u) ds vs
  | [], vs, h => by simpa only [Reps] using h
  | x :: ds, vs, h => by
    simp only [Reps] at h ⊢
    obtain ⟨v, us, e, r, t⟩ := h
    exact ⟨v, us, e, Rep.unl hd r, Reps.unl hd t⟩
end
theorem KReps.unl (hd : H d = some (.frz od (.dK ws))) {kvs : List (Key × D)} {us : List (Key × V)} (h : KReps C ρ H kvs us) : KReps C ρ (upd H d u) kvs us := Paired.mapP h fun _ _ z => ⟨z.1, z.2.unl hd⟩
theorem SRep.unlock {S : Store} {n : Nat} {kvs : List (Key × D)} (hd : H d = some (.frz od (.dK ws))) (s : SRep C ρ H S) (hρ : ρ[n]? = some d) (hS : S[n]? = some (.dlk kvs)) : SRep C ρ (upd H d (.dK ws)) (S.set n (.dct kvs)) := by
  have hn : n < S.length := (List.getElem?_eq_some_iff.mp hS).1
  have key : ∀ (i : Nat) v, (S.set n (.dct kvs))[i]? = some v → (i ≠ n ∧ S[i]? = some v) ∨ (i = n ∧ v = .dct kvs) := by
    intro i v h
    by_cases e : i = n
    · subst e
      rw [List.getElem?_set_self hn] at h
      exact .inr ⟨rfl, (Option.some.inj h).symm⟩
    · rw [List.getElem?_set_ne (Ne.symm e)] at h
      exact .inl ⟨e, h⟩
  refine ⟨by simp [s.len], fun i j b x y e1 e2 e3 e4 e5 e6 => ?_, fun i b v e1 e2 => ?_⟩
  · rcases key i x e3 with ⟨q1, q2⟩ | ⟨q1, q2⟩ <;> rcases key j y e4 with ⟨p1, p2⟩ | ⟨p1, p2⟩
    · exact s.inj i j b x y e1 e2 q2 p2 e5 e6
    · subst p1; exact s.inj i j b x _ e1 e2 q2 hS e5 rfl
    · subst q1; exact s.inj i j b _ y e1 e2 hS p2 rfl e6
    · omega
  · rcases key i v e2 with ⟨q1, q2⟩ | ⟨q1, q2⟩
    · have z := s.at_ i b v e1 q2
      have nb : v.isRo = false → b ≠ d := fun w e => by
        subst e
        exact q1 (s.inj i n b v _ e1 hρ q2 hS w rfl)
      cases v with
      | lst ds =>
        obtain ⟨xs, h1, h2⟩ := z
        exact ⟨xs, by rw [upd_ne (nb rfl)]; exact h1, h2.unl hd⟩
      | ro ds =>
        obtain ⟨xs, h1, h2⟩ := z
        refine ⟨xs, ?_, h2.unl hd⟩
        rcases h1 with ⟨o, h1⟩ | h1
        · exact .inl ⟨o, by rw [upd_ne (fun e => by rw [e, hd] at h1; cases h1)]; exact h1⟩
        · exact .inr h1
      | dct ks =>
        obtain ⟨us, h1, h2⟩ := z
        exact ⟨us, by rw [upd_ne (nb rfl)]; exact h1, h2.unl hd⟩
      | dlk ks =>
        obtain ⟨us, o, h1, h2⟩ := z
        exact ⟨us, o, by rw [upd_ne (nb rfl)]; exact h1, h2.unl hd⟩
    · subst q1 q2
      rw [hρ] at e1
      cases e1
      obtain ⟨us, o, h1, h2⟩ := s.at_ i d _ hρ hS
      rw [hd] at h1
      cases h1
      exact ⟨_, upd_same, h2.unl hd⟩
end
/-! ### an expression under a lock -/
def lockE (i : Nat) (m : EE) : EE := fun sd S => match sd[i]? with
  | some (some (.ref n)) => match S[n]? with
    | some (.dct kvs) => match m sd (S.set n (.dlk kvs)) with
      | .ok d S' => match S'[n]? with
        | some (.dlk kvs') => .ok d (S'.set n (.dct kvs'))
        | _ => .bad
      | _ => .bad
    | _ => m sd S
  | _ => m sd S
section
variable {X : Cx} {T : List Cls} {W : WX} {e tg l : Expr} {m fa : EE}
theorem e_lock {i : Nat} (h : PE X e (LE (cx X T) W m)) : PE X e (LE (cx X T) W (lockE i m)) := by
  refine ⟨fun pins s σ H Q I ⟨sd, ρ, S, h1, h2, h3⟩ => ?_⟩
  have plain : EndR (cx X T) W σ ρ H (RD (cx X T)) (m sd S) Q → wpAny (model X.prog X.w) X.A (eval e X.env) (EP X pins σ Q) X.xe s := fun h3 => h.run pins s σ H Q I ⟨sd, ρ, S, h1, h2, h3⟩
  unfold lockE at h3
  split at h3
  · rename_i n hn
    split at h3
    · rename_i kvs hs
      obtain ⟨v, e1, r⟩ := h1.at_ _ _ hn
      obtain ⟨a, hρ, rfl⟩ := rep_ref.mp r
      obtain ⟨ws, q1, q2⟩ := h2.at_ n a _ hρ hs
      refine (pe_lock h).run pins s σ H Q I ⟨a, .dK ws, q1, trivial, fun od => ?_⟩
      have l : Le ρ H ρ (upd H a (.frz od (.dK ws))) := Le.lock fun o' h => by rw [q1] at h; cases h; exact fun z => z
      have s1 : SRep (cx X T) ρ (upd H a (.frz od (.dK ws))) (S.set n (.dlk kvs)) := h2.write hρ hs rfl l ⟨ws, od, upd_same, q2.le l⟩
      refine ⟨sd, ρ, _, h1.le l, s1, ?_⟩
      cases em : m sd (S.set n (.dlk kvs)) with
      | bad => rw [em] at h3; exact h3.elim
      | exc x S' => rw [em] at h3; exact h3.elim
      | ok d S' =>
        rw [em] at h3
        dsimp only at h3
        intro b ρ' H' l' s' r'
        have hd : H' a = some (.frz od (.dK ws)) := l'.fix a _ upd_same trivial
        refine ⟨hd, ?_⟩
        split at h3
        · rename_i kvs' hs'
          refine h3 b ρ' _ ⟨l'.ext, fun c o hc fo => ?_⟩ (s'.unlock hd (l'.at hρ) hs') (Rep.unl hd r')
          have hca : c ≠ a := fun z => by rw [z, q1] at hc; cases hc; exact fo
          rw [upd_ne hca]
          exact l'.fix c o (by rw [upd_ne hca]; exact hc) fo
        · exact h3.elim
    · exact plain h3
  · exact plain h3
/-! ### what is walked: a list, a tuple, a text, a locked dict's keys -/
def kD : Key → D
  | .inl i => .int i
  | .inr x => .str x
def itSeqK (m : EE) : EI := eBind m fun d => fun _ S => match d with
  | .tup ds => .ok ⟨ds, fun _ => True⟩ S
  | .ref n => match rdL S n with
    | some ds => .ok ⟨ds, fun S' => rdL S' n = some ds⟩ S
    | none => match S[n]? with
      | some (.dlk kvs) => .ok ⟨kvs.map fun kv => kD kv.1, fun _ => True⟩ S
      | _ => .bad
  | .str z => .ok ⟨signs z, fun _ => True⟩ S
  | _ => .bad
theorem rep_kD {C : Ctx} {ρ : List Addr} {H : Hp} (k : Key) : Rep C ρ H (kD k) (kV k) := by
  cases k with
  | inl i => exact rep_int.mpr rfl
  | inr x => exact rep_str.mpr rfl
theorem kreps_keys {C : Ctx} {ρ : List Addr} {H : Hp} {kvs : List (Key × D)} {ws : List (Key × V)} (r : KReps C ρ H kvs ws) : kvs.map (·.1) = ws.map (·.1) := by
  unfold KReps at r
  induction r with
  | nil => rfl
  | cons h t ih => rw [List.map_cons, List.map_cons, h.1, ih]
theorem itOk_keys {C : Ctx} {ρ0 : List Addr} {H0 : Hp} {kvs : List (Key × D)} {ws : List (Key × V)} {d : Addr} {o : Obj} (hd : H0 d = some (.frz o (.dK ws))) (r : KReps C ρ0 H0 kvs ws) : ItOk C ⟨kvs.map fun kv => kD kv.1, fun _ => True⟩ (Itk d o ws) ρ0 H0 := by
  intro ρ H S l s _
  have hd' : H d = some (.frz o (.dK ws)) := l.fix d _ hd trivial
  have hl : kvs.length = ws.length := Paired.length r
  refine ⟨fun i hi => ⟨hd', by rw [List.length_map] at hi; omega⟩, ⟨hd', by rw [List.length_map]; omega⟩, fun i x H' ⟨e2, k, v, e3, e4⟩ dd hdd => ?_⟩
  subst e2 e4
  refine ⟨Le.refl, s, ?_⟩
  have hk := kreps_keys r
  have e5 : (kvs.map (·.1))[i]? = some k := by rw [hk, List.getElem?_map, e3]; rfl
  rw [List.getElem?_map] at hdd e5
  cases q : kvs[i]? with
  | none => rw [q] at hdd; cases hdd
  | some p =>
    rw [q] at hdd e5
    cases hdd
    cases e5
    exact rep_kD _
theorem i_seqK (ha : PE X l (LE (cx X T) W fa)) : PI X tg l (LI (cx X T) W (itSeqK fa)) := ((pi_any ha).or (pi_keys ha)).imp fun σ H R ⟨sd, ρ, S, h1, h2, h3⟩ => by
  unfold itSeqK at h3
  rw [eBind_of] at h3
  cases em : fa sd S with
  | bad => rw [em] at h3; exact h3.elim
  | exc x S' =>
    refine .inl ?_
    refine ⟨sd, ρ, S, h1, h2, ?_⟩
    rw [em] at h3 ⊢
    exact h3
  | ok d S' =>
    rw [em] at h3
    rw [bind_ok] at h3
    have mk : ∀ {Q' : V → Hp → Prop}, (∀ b ρ' H', Le ρ H ρ' H' → SRep (cx X T) ρ' H' S' → Rep (cx X T) ρ' H' d b → Q' b H') → LE (cx X T) W fa σ H Q' := fun {Q'} k => ⟨sd, ρ, S, h1, h2, by rw [em]; exact k⟩
    split at h3
    · exact .inl (mk fun b ρ' H' l s r => by
        obtain ⟨a, xs, rfl, q1, q2⟩ := rep_tup.mp r
        exact .inr (.inl ⟨a, xs, rfl, q1, h3 _ ρ' H' l s (itOk_tup q1 q2)⟩))
    · split at h3
      · rename_i ds hd
        exact .inl (mk fun b ρ' H' l s r => by
          obtain ⟨a, e1, rfl⟩ := rep_ref.mp r
          obtain ⟨b, xs, e2, q1, q2⟩ := s.rd r hd
          cases e2
          exact .inl ⟨a, xs, rfl, q1, h3 _ ρ' H' l s (itOk_list e1)⟩)
      · split at h3
        · rename_i kvs hs
          exact .inr (mk fun b ρ' H' l s r => by
            obtain ⟨a, e1, rfl⟩ := rep_ref.mp r
            obtain ⟨ws, o, q1, q2⟩ := s.at_ _ a _ e1 hs
            exact ⟨a, o, rfl, .inl ⟨ws, q1, h3 _ ρ' H' l s (itOk_keys q1 q2)⟩⟩)
        · exact h3.elim
    · exact .inl (mk fun b ρ' H' l s r => by
        obtain rfl := rep_str.mp r
        exact .inr (.inr ⟨_, rfl, h3 _ ρ' H' l s itOk_str⟩))
    · exact h3.elim
end
end Lay

set_option Elab.async false
set_option linter.all false
set_option maxRecDepth 100000
set_option maxHeartbeats 4000000
/-! L11: facts of the module behind its top; rules with checked side conditions. -/
namespace Lay
open PySem PySem.Spec PyProof.Rows L2
/-! ### names -/
def varB (N : List Str) (sc : Scope) (i : Nat) (x : Str) : Bool := decide (N[i]? = some x) && ((sc.names.lookup x == some .local || (sc.names.lookup x == some .cell || sc.names.lookup x == some .free)) && (!(x == ("__debug__" : Str)) && !(x == ("__classdict__" : Str))))
def locB (N : List Str) (sc : Scope) (i : Nat) (x : Str) : Bool := decide (N[i]? = some x) && (sc.names.lookup x == some .local || sc.names.lookup x == some .cell)
structure VarOk (N : List Str) (sc : Scope) (i : Nat) (x : Str) : Prop where
  ix : N[i]? = some x
  vis : Vis sc x
  d1 : (x == ("__debug__" : Str)) = false
  d2 : (x == ("__classdict__" : Str)) = false
theorem kind_of {a b : Option NameKind} (h : (a == b) = true) : a = b := eq_of_beq h
theorem varB_ok {N : List Str} {sc : Scope} {i : Nat} {x : Str} (h : varB N sc i x = true) : VarOk N sc i x := by
  unfold varB at h
  simp only [Bool.and_eq_true, Bool.or_eq_true, decide_eq_true_eq, Bool.not_eq_true'] at h
  obtain ⟨h1, h2, h3, h4⟩ := h
  exact ⟨h1, h2.imp kind_of fun z => z.imp kind_of kind_of, h3, h4⟩
theorem locB_ok {N : List Str} {sc : Scope} {i : Nat} {x : Str} (h : locB N sc i x = true) : N[i]? = some x ∧ Loc sc x := by
  unfold locB at h
  simp only [Bool.and_eq_true, Bool.or_eq_true, decide_eq_true_eq] at h
  exact ⟨h.1, h.2.imp kind_of kind_of⟩
section
variable {X : Cx} {T : List Cls} {W : WX} {e a b : Expr} {es : List Expr} {fa : EE} {aa : EA} {pos p : Pos} {x : Str} {i : Nat}
theorem e_v (i : Nat) (h : varB X.N X.env.scope i x = true) : PE X (.Name x pos) (LE (cx X T) W (eVar i)) := have v := varB_ok h; e_var (pe_var v.ix v.vis v.d1 v.d2)
theorem s_setV {pos' : Pos} (i : Nat) (hN : X.N.Nodup) (h : locB X.N X.env.scope i x = true) (he : PE X e (LE (cx X T) W fa)) (hf : X.fn x = true) (hs : swapsWith e (some (.Name x pos')) pos.line X.env = pure false := by rfl) :
    PS X (.Assign [.Name x pos'] e pos) (LS (cx X T) W (sSet i fa)) := s_set hN (locB_ok h).1 (locB_ok h).2 he hs (.inl hf)
theorem g_nameV (i : Nat) (hN : X.N.Nodup) (h : locB X.N X.env.scope i x = true) (hf : X.fn x = true ∨ X.env.scope.names.lookup x = some .local) : PG X (.Name x pos) (LT (cx X T) [i] (gNm i)) := g_name hN (locB_ok h).1 (locB_ok h).2 hf
end
/-! ### a def by its address -/
def fdOf (K : PySem.W.Frag) (p : Str × Option Str) : FuncData := match K.lookup (He.fAd K p) with
  | some ⟨_, _, .func fd, _⟩ => fd
  | _ => ⟨"", "", ⟨[], [], none, [], [], none, []⟩, .stmts [], ⟨.function, [], false, false, []⟩, 0, [], .none, .none, .none, .none, none, .none, .none, 0⟩
def dOf (p : Str × Option Str) (qual : Str) (st : Stmt) : He.DefD := ⟨p, p.2.getD p.1, qual, defArgs st, defBody st, defScope st, [], []⟩
theorem fun_of {K : PySem.W.Frag} {x qual : Str} {st : Stmt} {f : Addr} {fd : FuncData} (F : FunD K x qual (defArgs st) (defBody st) (defScope st) [] [] f fd) : Fun K x qual st f fd := by
  obtain ⟨oc, od, dV, kV, doc, pm, an, cdv, ct, osl, e, lk, hcd, hD, hK⟩ := F.ex
  rcases hD with ⟨_, rfl⟩ | ⟨z, _⟩
  · exact ⟨⟨oc, od, kV, doc, pm, an, cdv, ct, osl, e, lk, hcd⟩, F.kp⟩
  · exact absurd rfl z
theorem fd_of {K : PySem.W.Frag} {x qual : Str} {a : Arguments} {b : List Stmt} {sc : Scope} {p : Str × Option Str} {fd : FuncData} (F : FunD K x qual a b sc [] [] (He.fAd K p) fd) : fd = fdOf K p := by
  obtain ⟨oc, od, dV, kV, doc, pm, an, cdv, ct, osl, e, lk, _⟩ := F.ex
  unfold fdOf
  rw [lk]
/-- calls by keywords -/
theorem kwBinds {K : PySem.W.Frag} {x qual : Str} {a : Arguments} {b : List Stmt} {sc : Scope} {f : Addr} {fd : FuncData} {ps ks : List Str} {perm : List Nat} (F : FunD K x qual a b sc [] [] f fd)
    (h : ∀ (kV doc pm : Value) (an : Option Addr) (cdv ct : Value) (ws : List Value), (permA perm ws).length = ps.length → bindArgs (PySem.W.fnOf x qual a b sc .none kV doc pm an cdv ct) ⟨[], ks.zip ws⟩ = pure (ps.zip (permA perm ws))) :
    ∀ (s : Shared) (ws : List Value), K.In s.heap → (permA perm ws).length = ps.length → BindsTo s fd ⟨[], ks.zip ws⟩ (ps.zip (permA perm ws)) := by
  obtain ⟨oc, od, dV, kV, doc, pm, an, cdv, ct, osl, rfl, lk, hcd, hD, hK⟩ := F.ex
  rcases hD with ⟨_, rfl⟩ | ⟨z, _⟩
  · exact fun s ws _ hl => .of_eq (h kV doc pm an cdv ct ws hl)
  · exact absurd rfl z
/-- a def that may be called by its name -/
structure CO (P : Program) (w : World) (K : PySem.W.Frag) (mg : Str → Option Value) (base : Heap) (T : List Cls) (x : Str) (k : Nat) (ps : List Str) (g : List D → M D) : Prop where
  F : DefOk P w K mg base T k (He.ga K x) (fdOf K (x, none)) ps g
  m : mg x = some (.ref (He.ga K x))
  kp : PySem.W.keepIn K (.ref (He.ga K x)) = true
  b : Binds K (fdOf K (x, none)) ps []
section
variable {X : Cx} {T : List Cls} {W : WX} {e : Expr} {es : List Expr} {aa : EA} {pos p : Pos} {x : Str} {k : Nat} {ps ks : List Str} {g : List D → M D} {kws : List Keyword}
theorem e_callZ (q : CO X.prog X.w X.K X.mg X.base T x k ps g) (tk : Takes X W) (hr : Room k X.A) (hg : Gl X x) (ha : PA X (e :: es) (LA (cx X T) W aa)) (hdb : (x == ("__debug__" : Str)) = false)
    (he : starEach (e :: es) X.env = (false, eval e X.env) :: starEach es X.env := by rfl) (hpl : (backTo pos (starEach es X.env)).any (·.1) = false := by rfl) :
    PE X (.Call (.Name x p) (e :: es) [] pos) (LE (cx X T) W (eCall g aa)) := e_call q.F tk hr hg q.m q.kp q.b ha hdb he hpl
theorem e_callKwZ {perm : List Nat} (q : CO X.prog X.w X.K X.mg X.base T x k ps g) (tk : Takes X W) (hr : Room k X.A) (hg : Gl X x)
    (hb : ∀ (s : Shared) (ws : List Value), X.K.In s.heap → (permA perm ws).length = ps.length → BindsTo s (fdOf X.K (x, none)) ⟨[], ks.zip ws⟩ (ps.zip (permA perm ws)))
    (hkw : LK X T W kws aa) (hdb : (x == ("__debug__" : Str)) = false) (hall : (backToKw pos (keywordEach kws X.env)).all (·.1.isSome) = true := by rfl) (hks : (backToKw pos (keywordEach kws X.env)).filterMap (·.1) = ks := by rfl)
    (hpl : ((backTo pos (starEach [] X.env)).any (·.1) || (backToKw pos (keywordEach kws X.env)).any (·.1.isNone)) = false := by rfl) :
    PE X (.Call (.Name x p) [] kws pos) (LE (cx X T) W (eCallKw g perm aa)) := e_callKw q.F tk hr hg q.m q.kp hb hkw hall hks hdb hpl
/-- f() -/
theorem e_call0Z (q : CO X.prog X.w X.K X.mg X.base T x k ps g) (tk : Takes X W) (hr : Room k X.A) (hg : Gl X x) (hdb : (x == ("__debug__" : Str)) = false) (hps : ps = []) : PE X (.Call (.Name x p) [] [] pos) (LE (cx X T) W (eCall g aNil)) := by
  subst hps
  refine e_callKw (perm := []) (ks := []) q.F tk hr hg q.m q.kp (fun s ws hK hl => ?_) k_nil rfl rfl hdb rfl
  have b := q.b s [] hK rfl
  exact b
end
/-! ### what the written part says of exception classes -/
def oexB (K : PySem.W.Frag) (C : Addr) : Bool := (match K.lookup C with
  | some ⟨.type "type", _, .cls cd, sl⟩ => (match cd.mro, sl.toList with
    | .ref C' :: bm, [_, _, _, _, some (.builtin n), _] => decide (C' = C) && (decide (n = "ValueError.__new__") && (!cd.hasDel && (cd.hasDict && PySem.HandSPX.refsVE bm)))
    | _, _ => false)
  | _ => false) && (decide (PySem.W.findIn K (.ref C) "__setattr__" = some (some (.builtin "object.__setattr__"))) && (decide (PySem.W.subIn K (.ref C) (.type "BaseException") = some true) && (decide (PySem.W.typeIn K (.ref C) = some (.type "type")) && PySem.W.keepIn K (.ref C))))
theorem oexB_ok {K : PySem.W.Frag} {C : Addr} (h : oexB K C = true) : OexC K C := by
  obtain ⟨h1, h⟩ := He.ba h
  obtain ⟨h2, h⟩ := He.ba h
  obtain ⟨h3, h⟩ := He.ba h
  obtain ⟨h4, h5⟩ := He.ba h
  refine ⟨?_, of_decide_eq_true h2, of_decide_eq_true h3, of_decide_eq_true h4, h5⟩
  split at h1
  · rename_i dd cd sl lk
    split at h1
    · rename_i C' bm k0 k1 k2 k3 n k5 hm hs
      obtain ⟨z1, h1⟩ := He.ba h1
      obtain ⟨z2, h1⟩ := He.ba h1
      obtain ⟨z3, h1⟩ := He.ba h1
      obtain ⟨z4, z5⟩ := He.ba h1
      have y1 := of_decide_eq_true z1
      have y2 := of_decide_eq_true z2
      obtain ⟨nm, bs, mro, ns, qn, hd, sn, sub, ab, col, dl⟩ := cd
      obtain ⟨l⟩ := sl
      dsimp only at hm hs z3 z4
      subst hm y1 y2 z4 hs
      have y3 : dl = false := by simpa using z3
      subst y3
      exact ⟨nm, qn, ns, bs, bm, sn, sub, ab, col, dd, k0, k1, k2, k3, k5, lk, z5⟩
    · cases h1
  · cases h1
/-- a class of ours: its __init__ is a def, what its instances bear -/
def mkB (C : Ctx) (c : Nat) : Bool := oexB C.K (C.addr c) && ((C.flds c).all (fun f => decide (PySem.W.findIn C.K (.ref (C.addr c)) f = some none)) &&
  (match C.T[c]? with
  | some q => decide (PySem.W.findIn C.K (.ref (C.addr c)) "__init__" = some (some (.ref (He.fAd C.K (q.name, some "__init__"))))) && decide (PySem.W.typeIn C.K (.ref (He.fAd C.K (q.name, some "__init__"))) = some (.type "function"))
  | none => false))
theorem mkB_ok {P : Program} {w : World} {K : PySem.W.Frag} {mg : Str → Option Value} {base : Heap} {T : List Cls} {k c : Nat} {q : Cls} (h : mkB ⟨K, T⟩ c = true) (hq : T[c]? = some q) {fd : FuncData} (F : FnOk P w K mg base (L2.CX P w) k (He.fAd K (q.name, some "__init__")) fd ("self" :: q.flds) (exi K q.flds))
    (b : Binds K fd ("self" :: q.flds) []) : MkOk P w K mg base T k c := by
  have ef : (⟨K, T⟩ : Ctx).flds c = q.flds := by unfold Ctx.flds; rw [hq]
  obtain ⟨h1, h⟩ := He.ba h
  obtain ⟨h2, h3⟩ := He.ba h
  rw [hq] at h3
  obtain ⟨h4, h5⟩ := He.ba h3
  refine ⟨(List.getElem?_eq_some_iff.mp hq).1, oexB_ok h1, fun f hf => of_decide_eq_true (List.all_eq_true.mp h2 f hf), _, fd, of_decide_eq_true h4, of_decide_eq_true h5, ?_, ?_⟩
  · rw [ef]; exact F
  · rw [ef]; exact b
def fldB (C : Ctx) : Bool := (List.range C.T.length).all fun c => (C.flds c).all fun f => decide (PySem.W.findIn C.K (.ref (C.addr c)) f = some none)
theorem fldB_ok {C : Ctx} (h : fldB C = true) : FldAll C := fun c f hc hf => of_decide_eq_true (List.all_eq_true.mp (List.all_eq_true.mp h c (List.mem_range.mpr hc)) f hf)
def xcAllB (C : Ctx) : Bool := (List.range C.T.length).all fun c => xcB C.K (C.addr c)
theorem xcAllB_ok {C : Ctx} (h : xcAllB C = true) : XcAll C := fun c hc => xcB_ok (List.all_eq_true.mp h c (List.mem_range.mpr hc))
/-! ### the Hook -/
abbrev AlL : Type := He.AlD × Bool
/-- what the names reach, and the statics -/
def addF (seen : Nat) (acc : List Addr) : List Addr → (Nat → List Addr → List Addr) → List Addr
  | [], k => k seen acc
  | a :: r, k => HandSHeadRun.frNat a fun b => bif Nat.beq (Nat.mod (Nat.shiftRight seen b) 2) 1 then addF seen acc r k else HandSHeadRun.frNat (Nat.lor seen (Nat.shiftLeft 1 b)) fun s => addF s (b :: acc) r k
def growF (g : Addr → Option Obj) : Nat → Nat → List Addr → List Addr
  | 0, _, _ => []
  | n + 1, seen, fr => addF seen [] (fr.flatMap fun a => match g a with
    | some o => He.refsD o
    | none => []) fun s new => new.reverse ++ growF g n s new
def asL (g : Addr → Option Obj) (n : Nat) : List Addr := PySem.cStatics :: mainGlobals :: growF g n (Nat.lor (Nat.shiftLeft 1 PySem.cStatics) (Nat.shiftLeft 1 mainGlobals)) [mainGlobals]
def obsL (n : Nat) (fa : List He.Fa) (fn : List He.DefD) (ex : PySem.W.Frag → Bool) (g : Addr → Option Obj) : AlL := (He.obsD fa fn (He.frG g (asL g n)), ex (He.frG g (asL g n)))
def hookL (n : Nat) (fa : List He.Fa) (fn : List He.DefD) (ex : PySem.W.Frag → Bool) : PySem.W.Hook where
  α := AlL
  obs := fun s => obsL n fa fn ex s.heap.get?
  val := fun _ => (He.valD fn, true)
  says := fun _ h => ∃ K : PySem.W.Frag, K.In h ∧ He.SaysD fa fn K ∧ ex K = true
  of := fun _ _ e => ⟨_, He.frG_in, congrArg (fun z : AlL => z.1) e, congrArg (fun z : AlL => z.2) e⟩
  keeps := fun _ _ _ ⟨K, hK, c⟩ k => ⟨K, PySem.W.Frag.In.keeps hK k, c⟩
theorem obsL_eq {n : Nat} {fa : List He.Fa} {fn : List He.DefD} {ex : PySem.W.Frag → Bool} {g : Addr → Option Obj} {s : Shared} (h : ∀ a, g a = s.heap.get? a) : obsL n fa fn ex g = (hookL n fa fn ex).obs s := by
  have e : g = s.heap.get? := funext h
  rw [e]
  rfl
/-- the facts in hand -/
structure PF (fa : List He.Fa) (fn : List He.DefD) (ex : PySem.W.Frag → Bool) (K : PySem.W.Frag) (mg : Str → Option Value) (base : Heap) : Prop where
  X : K.In base
  G : base.Ns mainGlobals mg
  c : He.SaysD fa fn K
  x : ex K = true
section
variable {fa : List He.Fa} {fn : List He.DefD} {ex : PySem.W.Frag → Bool} {K : PySem.W.Frag} {mg : Str → Option Value} {base : Heap}
theorem PF.glo (Z : PF fa fn ex K mg base) (i : Nat) {x : Str} (h : fa[i]? = some (.glo x) := by rfl) : mg x = some (.ref (He.ga K x)) := He.glo_ok Z.X Z.G (Z.c.fact i h)
theorem PF.free (Z : PF fa fn ex K mg base) (i : Nat) {x : Str} (h : fa[i]? = some (.free x) := by rfl) : mg x = none := He.free_ok Z.X Z.G (Z.c.fact i h)
theorem PF.fun_ (Z : PF fa fn ex K mg base) (i : Nat) {p : Str × Option Str} {qual : Str} {st : Stmt} (h : fn[i]? = some (dOf p qual st)) : FunD K (p.2.getD p.1) qual (defArgs st) (defBody st) (defScope st) [] [] (He.fAd K p) (fdOf K p) := by
  obtain ⟨fd, F⟩ := Z.c.def_ i h
  have F' : FunD K (p.2.getD p.1) qual (defArgs st) (defBody st) (defScope st) [] [] (He.fAd K p) fd := F
  have e := fd_of F'
  subst e
  exact F'
/-- a def of the module keeps what its body's derivation says -/
theorem PF.co {P : Program} {w : World} {T : List Cls} {x : Str} {k : Nat} {N ps : List Str} {st : Stmt} {F : FF} (Z : PF fa fn ex K mg base) (i j : Nat) (h : fn[i]? = some (dOf (x, none) x st)) (hg : fa[j]? = some (.glo x)) (S : FnScope N ps (defScope st))
    (hb : ∀ (kV doc pm : Value) (an : Option Addr) (cdv ct : Value) (us : List Value), us.length = ps.length → bindArgs (PySem.W.fnOf x x (defArgs st) (defBody st) (defScope st) .none kV doc pm an cdv ct) ⟨us, []⟩ = pure (ps.zip us))
    (body : ∀ (cdv : Value) (A : Around) (outer : List Env) (s : Shared) (H : Hp) (E : XK), Room k (bx P w K mg base N x (defScope st) (He.ga K x) cdv A outer s H E).A →
      PSs (bx P w K mg base N x (defScope st) (He.ga K x) cdv A outer s H E) (defBody st) (LS ⟨K, T⟩ (WF E) F)) : CO P w K mg base T x (k + 1) ps (fnD N.length ps.length F) :=
  have D := Z.fun_ i h
  ⟨defOk (fun_of D) S body, Z.glo j hg, D.kp, D.bindsN hb⟩
end
theorem takesN {X : Cx} : Takes X WN := fun _ _ ⟨_, _, _, _, _, _, _, _, _, _, _, _, _, _, _, _, w⟩ => w.elim
theorem g_tupZ {X : Cx} {T : List Cls} {es : List Expr} {vs : List Nat} {gs : GDs} {k : Nat} {pos : Pos} {n : Nat} (hc : X.calm = true) (h : PGs X es (LTs (cx X T) vs gs)) (hn : (assignEach es X.env).length = n := by rfl) (hst : (assignEach es X.env).findIdx? (·.1) = none := by rfl) :
    PG X (.Tuple es k pos) (LT (cx X T) vs (gTupD n gs)) := g_tup hc h hn hst (pg_unl hc h hn hst)
theorem gl_ {X : Cx} {x : Str} (h : X.env.kindOf x = some .globalImplicit) : Gl X x := h
def kindB (sc : Scope) (x : Str) (k : NameKind) : Bool := sc.names.lookup x == some k
def blkB (N : List Str) (sc scope : Scope) (own : List (Str × Nat)) : Bool := scope.kind == .function && (scope.names.all (fun y => scope.names.lookup y.1 == some y.2) && (own.all (fun p => decide (N[p.2]? = some p.1)) &&
  (scope.names.all (fun y => !(y.2 == .free) || (kindB sc y.1 .cell || kindB sc y.1 .free)) && scope.names.all (fun y => !(y.2 == .local || y.2 == .cell) || (decide (y.1 ∈ own.map (·.1)) || decide (y.1 ∉ N))))))
theorem blk_of {N : List Str} {sc scope : Scope} {own : List (Str × Nat)} (h : blkB N sc scope own = true) : BlkOk N sc scope own := by
  obtain ⟨h1, h⟩ := He.ba h
  obtain ⟨h2, h⟩ := He.ba h
  obtain ⟨h3, h⟩ := He.ba h
  obtain ⟨h4, h5⟩ := He.ba h
  refine ⟨eq_of_beq h1, fun y hy => kind_of (List.all_eq_true.mp h2 y hy), fun p hp => of_decide_eq_true (List.all_eq_true.mp h3 p hp), fun y hy e => ?_, fun y hy e => ?_⟩
  · have z := List.all_eq_true.mp h4 y hy
    rw [e] at z
    simp only [kindB, beq_self_eq_true, Bool.not_true, Bool.false_or, Bool.or_eq_true] at z
    exact z.imp kind_of kind_of
  · have z := List.all_eq_true.mp h5 y hy
    have e2 : (y.2 == .local || y.2 == .cell) = true := by
      rcases e with e | e <;> rw [e] <;> rfl
    rw [e2] at z
    simp only [Bool.not_true, Bool.false_or, Bool.or_eq_true, decide_eq_true_eq] at z
    exact z
/-! ### the law -/
theorem law_sp {C : Ctx} {g : List D → M D} {H : Hp} {a : Addr} {ns : List Int} (hO : Only H) (hS : SqL C.K H a (ns.map V.int)) (h2 : ∃ S', g [.ref 0] [.ro (ns.map D.int)] = .ok (.bl true) S') :
    spD C g [.ref a] H (fun v _ => v = .bl true) (fun _ _ _ => False) := by
  have rs : ∀ ρ (l : List Int), Reps C ρ H (l.map D.int) (l.map V.int) := fun ρ l => by
    induction l with
    | nil => exact Reps.nil
    | cons i l ih => exact Reps.cons (rep_int.mpr rfl) ih
  have one : ∀ so, RepO C [a] H a so → SRep C [a] H [so] := fun so h => by
    refine ⟨rfl, fun i j b o u e1 e2 _ _ _ _ => ?_, fun n b o e1 e2 => ?_⟩
    · rcases i with _ | i
      · rcases j with _ | j
        · rfl
        · simp at e2
      · simp at e1
    · rcases n with _ | n
      · cases e1; cases e2; exact h
      · simp at e1
  have r0 : Reps C [a] H [.ref 0] [.ref a] := Reps.cons (rep_ref.mpr ⟨a, rfl, rfl⟩) Reps.nil
  have fin : ∀ so, RepO C [a] H a so → (∃ S', g [.ref 0] [so] = .ok (.bl true) S') → spD C g [.ref a] H (fun v _ => v = .bl true) (fun _ _ _ => False) := fun so h ⟨S', e⟩ =>
    ⟨[.ref 0], [a], [so], r0, one so h, by rw [e]; exact fun v ρ' H' _ _ r => rep_bl.mp r⟩
  rcases hS with (h | ⟨o, h⟩) | h
  · rcases hO a with z | ⟨o, xs, z⟩
    · rw [h] at z; cases z
    · rw [h] at z; cases z
  · exact fin (.ro (ns.map D.int)) ⟨_, .inl ⟨o, h⟩, rs _ _⟩ h2
  · exact fin (.ro (ns.map D.int)) ⟨_, .inr h, rs _ _⟩ h2
theorem cx_end (P : Program) (w : World) (H : Hp) (s : Shared) (e : Value) (s' : Shared) (h : L2.CX P w [] H s (fun _ _ _ => False) e s') : False := by
  obtain ⟨_, _, _, _, _, _, _, _, _, _, _, _, z⟩ := h
  exact z
/-- the law's call, from the facts -/
theorem walkL {l : PySem.W.OpenLaw} {n k N : Nat} {q : Program} {loose : List Str} {XP : (Str → Option Value) → Heap → Prop} {d : DefRec} {fa : List He.Fa} {fn : List He.DefD} {ex : PySem.W.Frag → Bool} {T : List Cls} {g : List D → M D}
    (hn : l.most = some n) (hn2 : n ≤ sizeLine) (hdf : d.params.defaults = []) (hr : Room k callerA) (hname : d.name = ("law" : Str))
    (F : ∀ (w : World) (K : PySem.W.Frag) (mg : Str → Option Value) (base : Heap), PF fa fn ex K mg base → CO l.prog w K mg base T "law" k ["script"] g ∧ ∀ (s : Shared) (us : List Value), us.length = 1 → BindsTo s (fdOf K ("law", none)) ⟨us, []⟩ ((["script"] : List Str).zip us))
    (hD : ∀ ns : List Int, ns.length ≤ n → ∃ S', g [.ref 0] [.ro (ns.map D.int)] = .ok (.bl true) S') :
    PySem.W.WalkO q loose XP (hookL N fa fn ex).says l.row.toRowW d [] (fun f vs => PySem.call f vs) := by
  refine Att.attach_call hn hdf fun w s₀ s₁ mg mb fA o pm cd doc a vs ns G Y ho hd hcd hmg hobj hints hlen hg => ?_
  obtain ⟨K, KX, c, cx⟩ := Y
  have Z0 : PF fa fn ex K mg s₁.heap := ⟨KX, G.T.g, c, cx⟩
  obtain ⟨Q, hb⟩ := F w K mg s₁.heap Z0
  rw [hname] at hmg
  have e := hmg.symm.trans Q.m
  cases e
  exact law_call (CX := L2.CX l.prog w) (sp := spD ⟨K, T⟩ g) KX G.T.g G.T.b G.T.builtins G.T.nolimit hg hobj hints (Nat.le_trans hlen hn2) hr (fun base h1 h2 => (F w K mg base ⟨h1, h2, c, cx⟩).1.F) (fun s u => hb s [u] rfl)
    (fun H hO hS => law_sp hO hS (hD ns hlen)) fun H e s' => cx_end _ _ H s₁ e s'
end Lay

set_option Elab.async false
set_option linter.all false
set_option maxRecDepth 100000
set_option maxHeartbeats 4000000
/-! L21: isinstance of own classes, from one look at each class. -/
namespace Lay
open PySem PySem.Spec PyProof.Rows L2
def veAll : List Value := [.type "ValueError", .type "Exception", .type "BaseException", .type "object"]
/-- the class's line: itself, the ones above it, then ValueError's -/
def clB (C : Ctx) (c : Nat) : Bool := match C.T[c]? with
  | some q => match PySem.W.clsIn C.K (C.addr c) with
    | some cd => decide (cd.mro = q.sups.map (fun d => Value.ref (C.addr d)) ++ veAll) && (decide (PySem.W.typeIn C.K (.ref (C.addr c)) = some (.type "type")) && (q.sups.contains c && q.sups.all fun d => decide (d < C.T.length)))
    | none => false
  | none => false
def clsB (C : Ctx) : Bool := (List.range C.T.length).all (clB C) && decide ((List.range C.T.length).map C.addr).Nodup
theorem addr_inj {C : Ctx} (h : clsB C = true) {c d : Nat} (hc : c < C.T.length) (hd : d < C.T.length) (e : C.addr c = C.addr d) : c = d := by
  have nd := of_decide_eq_true (Bool.and_eq_true_iff.mp h).2
  have p := (List.pairwise_iff_getElem.mp nd)
  rcases Nat.lt_trichotomy c d with z | z | z
  · have q := p c d (by simpa using hc) (by simpa using hd) z
    simp only [List.getElem_map, List.getElem_range] at q
    exact absurd e q
  · exact z
  · have q := p d c (by simpa using hd) (by simpa using hc) z
    simp only [List.getElem_map, List.getElem_range] at q
    exact absurd e.symm q
theorem cl_ok {C : Ctx} (h : clsB C = true) {c : Nat} {q : Cls} (hq : C.T[c]? = some q) : ∃ cd, PySem.W.clsIn C.K (C.addr c) = some cd ∧ cd.mro = q.sups.map (fun d => Value.ref (C.addr d)) ++ veAll ∧ PySem.W.typeIn C.K (.ref (C.addr c)) = some (.type "type") ∧ c ∈ q.sups ∧ ∀ d ∈ q.sups, d < C.T.length := by
  have hc := (List.getElem?_eq_some_iff.mp hq).1
  have z := List.all_eq_true.mp (Bool.and_eq_true_iff.mp h).1 c (List.mem_range.mpr hc)
  unfold clB at z
  rw [hq] at z
  dsimp only at z
  split at z
  · rename_i cd e
    simp only [Bool.and_eq_true, decide_eq_true_eq, List.all_eq_true] at z
    exact ⟨cd, e, z.1, z.2.1, by simpa using z.2.2.1, z.2.2.2⟩
  · cases z
theorem isi_own_ok {C : Ctx} (h : clsB C = true) {d : Nat} (hd : d < C.T.length) : isi1B C (.own d) = true := by
  obtain ⟨q, hq⟩ : ∃ q, C.T[d]? = some q := ⟨_, List.getElem?_eq_getElem hd⟩
  obtain ⟨cd, e1, e2, e3, e4, e5⟩ := cl_ok h hq
  have gate : ((PySem.W.clsIn C.K (C.addr d)).isSome && PySem.W.typeIn C.K (.ref (C.addr d)) == some (.type "type")) = true := by rw [e1, e3]; rfl
  refine List.all_eq_true.mpr fun k hk => decide_eq_true ?_
  unfold allKd at hk
  rcases List.mem_append.mp hk with hk | hk
  · have ty : ∀ n : String, (∃ l, PySem.fastBuiltinMro n = some l ∧ l.contains (.ref (C.addr d)) = false) → PySem.W.kitOne C.K (kdV C (.ty n)) (kdV C (.own d)) = some (subD C.T (.ty n) (.own d)) := fun n ⟨l, h1, h2⟩ => by
      show (if (Value.type n == Value.ref (C.addr d)) = true then some true else PySem.W.kitCls C.K (.type n) (.ref (C.addr d))) = some false
      rw [if_neg (by simp)]
      unfold PySem.W.kitCls
      dsimp only
      rw [if_pos gate]
      unfold PySem.W.subIn
      dsimp only
      rw [h1, Option.map_some, h2]
    simp only [List.mem_cons, List.not_mem_nil, or_false] at hk
    rcases hk with rfl | rfl | rfl | rfl | rfl | rfl | rfl
    all_goals exact ty _ ⟨_, by rfl, by rfl⟩
  · obtain ⟨c, hc, rfl⟩ := List.mem_map.mp hk
    have hc' := List.mem_range.mp hc
    obtain ⟨r, hr⟩ : ∃ r, C.T[c]? = some r := ⟨_, List.getElem?_eq_getElem hc'⟩
    obtain ⟨cd2, g1, g2, g3, g4, g5⟩ := cl_ok h hr
    have sub : subD C.T (.own c) (.own d) = r.sups.contains d := by unfold subD; simp only [hr]
    rw [sub]
    show (if (Value.ref (C.addr c) == Value.ref (C.addr d)) = true then some true else PySem.W.kitCls C.K (.ref (C.addr c)) (.ref (C.addr d))) = _
    have inj : ∀ {x : Nat}, x < C.T.length → ((Value.ref (C.addr x) == Value.ref (C.addr d)) = true ↔ x = d) := fun {x} hx => by
      rw [beq_iff_eq]
      refine ⟨fun e => addr_inj h hx hd (by injection e), fun e => by rw [e]⟩
    by_cases hcd : c = d
    · rw [if_pos ((inj hc').mpr hcd)]
      subst hcd
      congr 1
      exact (by simpa using g4 : r.sups.contains c = true).symm
    · rw [if_neg (fun e => hcd ((inj hc').mp e))]
      unfold PySem.W.kitCls
      dsimp only
      rw [if_pos gate]
      unfold PySem.W.subIn
      dsimp only
      unfold PySem.W.mroIn
      rw [g1, Option.bind_some, if_neg (by rw [g2]; cases r.sups <;> simp [veAll]), g2]
      congr 1
      have key : ∀ l : List Nat, (∀ x ∈ l, x < C.T.length) → (l.map (fun d => Value.ref (C.addr d)) ++ veAll).contains (.ref (C.addr d)) = l.contains d := fun l hl => by
        induction l with
        | nil => rfl
        | cons x l ih =>
          rw [List.map_cons, List.cons_append, List.contains_cons, List.contains_cons, ih fun y hy => hl y (by simp [hy])]
          congr 1
          have hx := inj (hl x (by simp))
          by_cases e : x = d
          · rw [e]; simp
          · have n1 : (Value.ref (C.addr d) == Value.ref (C.addr x)) = false := by
              rw [Bool.eq_false_iff]
              intro z
              have z' : (Value.ref (C.addr x) == Value.ref (C.addr d)) = true := by rw [beq_iff_eq] at z ⊢; exact z.symm
              exact e (hx.mp z')
            rw [n1]
            simp [Ne.symm e]
      exact key r.sups g5
end Lay

set_option Elab.async false
set_option linter.all false
set_option maxRecDepth 100000
set_option maxHeartbeats 4000000
/-! L22: one look at the module after the other. -/
namespace Lay
open PySem PySem.Spec PyProof.Rows L2
abbrev obT (n : Nat) (fa : List He.Fa) (fn : List He.DefD) (ex : PySem.W.Frag → Bool) (s : PySem.W.SharedT) : AlL := obsL n fa fn ex (HandSHeadRun.getT s)
theorem says_and {K : PySem.W.Frag} {fa fa' : List He.Fa} {fn fn' : List He.DefD} (h : He.obsD fa fn K = He.valD fn) (h' : He.obsD fa' fn' K = He.valD fn') : He.obsD (fa ++ fa') (fn ++ fn') K = He.valD (fn ++ fn') := by
  unfold He.obsD He.valD at *
  obtain ⟨h1, h2⟩ := Prod.mk.inj h
  obtain ⟨h3, h4⟩ := Prod.mk.inj h'
  rw [Bool.and_eq_true] at h1 h3
  refine Prod.ext ?_ ?_
  · show ((fa ++ fa').all _ && (fn ++ fn').all _) = true
    rw [List.all_append, List.all_append, h1.1, h1.2, h3.1, h3.2]
    rfl
  · show (fn ++ fn').map _ = (fn ++ fn').map _
    rw [List.map_append, List.map_append, h2, h4]
theorem run_and {r : PySem.W.OpenRow} {q : Program} {n M : Nat} {loose : List PySem.Str} {w : World} {fa fa' : List He.Fa} {fn fn' : List He.DefD} {ex ex' : PySem.W.Frag → Bool}
    (h : HandSHeadRun.RunEq r q (hookL n fa fn ex) (obT n fa fn ex) M loose w) (h' : HandSHeadRun.RunEq r q (hookL n fa' fn' ex') (obT n fa' fn' ex') M loose w) :
    HandSHeadRun.RunEq r q (hookL n (fa ++ fa') (fn ++ fn') (fun K => ex K && ex' K)) (obT n (fa ++ fa') (fn ++ fn') (fun K => ex K && ex' K)) M loose w := by
  intro os
  have z := h os
  have z' := h' os
  obtain ⟨s, e, e1⟩ := Option.map_eq_some_iff.mp z
  obtain ⟨s', e', e1'⟩ := Option.map_eq_some_iff.mp z'
  rw [e] at e'
  cases e'
  rw [e, Option.map_some]
  obtain ⟨a1, a2⟩ := Prod.mk.inj e1
  obtain ⟨a2, a3⟩ := Prod.mk.inj a2
  obtain ⟨b1, b2⟩ := Prod.mk.inj e1'
  obtain ⟨b2, b3⟩ := Prod.mk.inj b2
  obtain ⟨c1, c2⟩ := Prod.mk.inj (show ((_, _) : AlL) = (_, _) from a3)
  obtain ⟨d1, d2⟩ := Prod.mk.inj (show ((_, _) : AlL) = (_, _) from b3)
  congr 1
  refine Prod.ext a1 (Prod.ext a2 (Prod.ext (says_and c1 d1) ?_))
  show (ex _ && ex' _) = true
  rw [c2, d2]
  rfl
end Lay

set_option Elab.async false
set_option linter.all false
set_option maxRecDepth 100000
set_option maxHeartbeats 4000000
/-! the table of classes, constants -/
namespace Lay
namespace Kk99
open PySem PySem.Spec PyProof.Rows L2
def Tb : List Cls := [⟨"SayError", [], [0]⟩, ⟨"InvalidBase", ["given"], [1, 0]⟩, ⟨"InvalidBound", ["given"], [2, 0]⟩, ⟨"InvalidContext", ["given"], [3, 0]⟩, ⟨"InvalidCount", ["given"], [4, 0]⟩, ⟨"InvalidEnd", ["given"], [5, 0]⟩, ⟨"InvalidFees", ["given"], [6, 0]⟩, ⟨"InvalidFilling", ["given"], [7, 0]⟩, ⟨"InvalidForm", ["given"], [8, 0]⟩, ⟨"InvalidIndex", ["given"], [9, 0]⟩, ⟨"InvalidLines", ["given"], [10, 0]⟩, ⟨"InvalidLot", ["given"], [11, 0]⟩, ⟨"InvalidMachine", ["given"], [12, 0]⟩, ⟨"InvalidMost", ["given"], [13, 0]⟩, ⟨"InvalidName", ["given"], [14, 0]⟩, ⟨"InvalidNumber", ["given"], [15, 0]⟩, ⟨"InvalidNumbers", ["given"], [16, 0]⟩, ⟨"InvalidOther", ["given"], [17, 0]⟩, ⟨"InvalidPaper", ["given"], [18, 0]⟩, ⟨"InvalidPart", ["given"], [19, 0]⟩, ⟨"InvalidPath", ["given"], [20, 0]⟩, ⟨"InvalidPiece", ["given"], [21, 0]⟩, ⟨"InvalidPlace", ["given"], [22, 0]⟩, ⟨"InvalidPlaces", ["given"], [23, 0]⟩, ⟨"InvalidRow", ["given"], [24, 0]⟩, ⟨"InvalidRows", ["given"], [25, 0]⟩, ⟨"InvalidSheet", ["given"], [26, 0]⟩, ⟨"InvalidShelf", ["given"], [27, 0]⟩, ⟨"InvalidStep", ["given"], [28, 0]⟩, ⟨"InvalidSteps", ["given"], [29, 0]⟩, ⟨"InvalidSystem", ["given"], [30, 0]⟩, ⟨"InvalidText", ["given"], [31, 0]⟩, ⟨"InvalidTexts", ["given"], [32, 0]⟩, ⟨"InvalidTold", ["given"], [33, 0]⟩, ⟨"InvalidTop", ["given"], [34, 0]⟩, ⟨"InvalidWiring", ["given"], [35, 0]⟩, ⟨"CanStand", ["row"], [36, 0]⟩, ⟨"Gone", [], [37, 0]⟩, ⟨"HasLine", ["line"], [38, 0]⟩, ⟨"HasOne", ["index"], [39, 0]⟩, ⟨"InUse", ["name"], [40, 0]⟩, ⟨"NoExchange", ["going", "coming"], [41, 0]⟩, ⟨"NoStep", ["index"], [42, 0]⟩, ⟨"NotHolding", ["bound"], [43, 0]⟩, ⟨"NotLinear", ["index"], [44, 0]⟩, ⟨"NotThere", ["path"], [45, 0]⟩, ⟨"NothingStands", [], [46, 0]⟩, ⟨"NothingToRedo", [], [47, 0]⟩, ⟨"NothingToUndo", [], [48, 0]⟩, ⟨"TooMany", ["count"], [49, 0]⟩, ⟨"Unfit", ["name"], [50, 0]⟩, ⟨"ZeroNumber", [], [51, 0]⟩]
end Kk99
end Lay

set_option Elab.async false
set_option linter.all false
set_option maxRecDepth 100000
set_option maxHeartbeats 4000000
/-! the look at the module behind its top -/
namespace Lay
namespace Kk99
open PySem PySem.Spec PyProof.Rows L2
def top (i : Nat) : Stmt := PySem.Challenge.pw_wiresay_k99_errors.main.body.getD i (.Pass ⟨0, 0, 0, 0⟩)
def inn (i j : Nat) : Stmt := match top i with
  | .ClassDef (body := b) .. => b.getD j (.Pass ⟨0, 0, 0, 0⟩)
  | s => s
abbrev st__law_cell : Stmt := top 55
abbrev st__law_box : Stmt := top 56
abbrev st__law_take : Stmt := top 57
abbrev st__law_same : Stmt := top 58
abbrev st__law_blamed : Stmt := top 59
abbrev st__law_value : Stmt := top 60
abbrev st__law_made_3 : Stmt := top 64
abbrev st__law_made_2 : Stmt := top 63
abbrev st__law_made_1 : Stmt := top 62
abbrev st__law_made_0 : Stmt := top 61
abbrev st__law_is_2 : Stmt := top 67
abbrev st__law_is_1 : Stmt := top 66
abbrev st__law_is_0 : Stmt := top 65
abbrev st__law_fields : Stmt := top 68
abbrev st__law_raised : Stmt := top 69
abbrev st__law_caught_right : Stmt := top 70
abbrev st__law_deep : Stmt := top 71
abbrev st__law_class_right : Stmt := top 72
abbrev st_law : Stmt := top 73
abbrev si_1 : Stmt := inn 2 0
abbrev si_2 : Stmt := inn 3 0
abbrev si_3 : Stmt := inn 4 0
abbrev si_4 : Stmt := inn 5 0
abbrev si_5 : Stmt := inn 6 0
abbrev si_6 : Stmt := inn 7 0
abbrev si_7 : Stmt := inn 8 0
abbrev si_8 : Stmt := inn 9 0
abbrev si_9 : Stmt := inn 10 0
abbrev si_10 : Stmt := inn 11 0
abbrev si_11 : Stmt := inn 12 0
abbrev si_12 : Stmt := inn 13 0
abbrev si_13 : Stmt := inn 14 0
abbrev si_14 : Stmt := inn 15 0
abbrev si_15 : Stmt := inn 16 0
abbrev si_16 : Stmt := inn 17 0
abbrev si_17 : Stmt := inn 18 0
abbrev si_18 : Stmt := inn 19 0
abbrev si_19 : Stmt := inn 20 0
abbrev si_20 : Stmt := inn 21 0
abbrev si_21 : Stmt := inn 22 0
abbrev si_22 : Stmt := inn 23 0
abbrev si_23 : Stmt := inn 24 0
abbrev si_24 : Stmt := inn 25 0
abbrev si_25 : Stmt := inn 26 0
abbrev si_26 : Stmt := inn 27 0
abbrev si_27 : Stmt := inn 28 0
abbrev si_28 : Stmt := inn 29 0
abbrev si_29 : Stmt := inn 30 0
abbrev si_30 : Stmt := inn 31 0
abbrev si_31 : Stmt := inn 32 0
abbrev si_32 : Stmt := inn 33 0
abbrev si_33 : Stmt := inn 34 0
abbrev si_34 : Stmt := inn 35 0
abbrev si_35 : Stmt := inn 36 0
abbrev si_36 : Stmt := inn 38 0
abbrev si_37 : Stmt := inn 39 0
abbrev si_38 : Stmt := inn 40 0
abbrev si_39 : Stmt := inn 41 0
abbrev si_40 : Stmt := inn 42 0
abbrev si_41 : Stmt := inn 43 0
abbrev si_42 : Stmt := inn 44 0
abbrev si_43 : Stmt := inn 45 0
abbrev si_44 : Stmt := inn 46 0
abbrev si_45 : Stmt := inn 47 0
abbrev si_46 : Stmt := inn 48 0
abbrev si_47 : Stmt := inn 49 0
abbrev si_48 : Stmt := inn 50 0
abbrev si_49 : Stmt := inn 51 0
abbrev si_50 : Stmt := inn 52 0
abbrev si_51 : Stmt := inn 53 0
def fa_0 : List He.Fa := [.free "len", .free "sum", .free "int", .free "abs", .free "isinstance", .free "bool", .free "str", .free "tuple", .free "list", .free "range", .glo "NotHolding"]
def fa_1 : List He.Fa := [.glo "NotLinear", .glo "NotThere", .glo "NothingStands", .glo "NothingToRedo", .glo "NothingToUndo", .glo "TooMany", .glo "Unfit", .glo "ZeroNumber", .glo "InvalidSteps", .glo "InvalidSystem", .glo "InvalidText"]
def fa_2 : List He.Fa := [.glo "InvalidTexts", .glo "InvalidTold", .glo "InvalidTop", .glo "InvalidWiring", .glo "CanStand", .glo "Gone", .glo "HasLine", .glo "HasOne", .glo "InUse", .glo "NoExchange", .glo "NoStep"]
def fa_3 : List He.Fa := [.glo "InvalidNumber", .glo "InvalidNumbers", .glo "InvalidOther", .glo "InvalidPaper", .glo "InvalidPart", .glo "InvalidPath", .glo "InvalidPiece", .glo "InvalidPlace", .glo "InvalidPlaces", .glo "InvalidRow", .glo "InvalidRows"]
def fa_4 : List He.Fa := [.glo "InvalidSheet", .glo "InvalidShelf", .glo "InvalidStep", .glo "InvalidBase", .glo "InvalidBound", .glo "InvalidContext", .glo "InvalidCount", .glo "InvalidEnd", .glo "InvalidFees", .glo "InvalidFilling", .glo "InvalidForm"]
def fa_5 : List He.Fa := [.glo "InvalidIndex", .glo "InvalidLines", .glo "InvalidLot", .glo "InvalidMachine", .glo "InvalidMost", .glo "InvalidName", .glo "SayError", .free "ValueError", .free "zip", .free "min", .free "max"]
def fa_6 : List He.Fa := [.glo "_law_cell", .glo "_law_box", .glo "_law_take", .glo "_law_same", .glo "_law_blamed", .glo "_law_value", .glo "_law_made_3", .glo "_law_made_2", .glo "_law_made_1", .glo "_law_made_0", .glo "_law_is_2"]
def fa_7 : List He.Fa := [.glo "_law_is_1", .glo "_law_is_0", .glo "_law_fields", .glo "_law_raised", .glo "_law_caught_right", .glo "_law_deep", .glo "_law_class_right", .glo "law"]
def fa : List He.Fa := fa_0 ++ fa_1 ++ fa_2 ++ fa_3 ++ fa_4 ++ fa_5 ++ fa_6 ++ fa_7
def fn_0 : List He.DefD := [dOf ("_law_cell", none) "_law_cell" st__law_cell, dOf ("_law_box", none) "_law_box" st__law_box, dOf ("_law_take", none) "_law_take" st__law_take, dOf ("_law_same", none) "_law_same" st__law_same, dOf ("_law_blamed", none) "_law_blamed" st__law_blamed, dOf ("_law_value", none) "_law_value" st__law_value, dOf ("_law_made_3", none) "_law_made_3" st__law_made_3, dOf ("_law_made_2", none) "_law_made_2" st__law_made_2, dOf ("_law_made_1", none) "_law_made_1" st__law_made_1]
def fn_1 : List He.DefD := [dOf ("_law_made_0", none) "_law_made_0" st__law_made_0, dOf ("_law_is_2", none) "_law_is_2" st__law_is_2, dOf ("_law_is_1", none) "_law_is_1" st__law_is_1, dOf ("_law_is_0", none) "_law_is_0" st__law_is_0, dOf ("_law_fields", none) "_law_fields" st__law_fields, dOf ("_law_raised", none) "_law_raised" st__law_raised, dOf ("_law_caught_right", none) "_law_caught_right" st__law_caught_right, dOf ("_law_deep", none) "_law_deep" st__law_deep, dOf ("_law_class_right", none) "_law_class_right" st__law_class_right]
def fn_2 : List He.DefD := [dOf ("law", none) "law" st_law, dOf ("InvalidBase", some "__init__") "InvalidBase.__init__" si_1, dOf ("InvalidBound", some "__init__") "InvalidBound.__init__" si_2, dOf ("InvalidContext", some "__init__") "InvalidContext.__init__" si_3, dOf ("InvalidCount", some "__init__") "InvalidCount.__init__" si_4, dOf ("InvalidEnd", some "__init__") "InvalidEnd.__init__" si_5, dOf ("InvalidFees", some "__init__") "InvalidFees.__init__" si_6, dOf ("InvalidFilling", some "__init__") "InvalidFilling.__init__" si_7, dOf ("InvalidForm", some "__init__") "InvalidForm.__init__" si_8]
def fn_3 : List He.DefD := [dOf ("InvalidIndex", some "__init__") "InvalidIndex.__init__" si_9, dOf ("InvalidLines", some "__init__") "InvalidLines.__init__" si_10, dOf ("InvalidLot", some "__init__") "InvalidLot.__init__" si_11, dOf ("InvalidMachine", some "__init__") "InvalidMachine.__init__" si_12, dOf ("InvalidMost", some "__init__") "InvalidMost.__init__" si_13, dOf ("InvalidName", some "__init__") "InvalidName.__init__" si_14, dOf ("InvalidNumber", some "__init__") "InvalidNumber.__init__" si_15, dOf ("InvalidNumbers", some "__init__") "InvalidNumbers.__init__" si_16, dOf ("InvalidOther", some "__init__") "InvalidOther.__init__" si_17]
def fn_4 : List He.DefD := [dOf ("InvalidPaper", some "__init__") "InvalidPaper.__init__" si_18, dOf ("InvalidPart", some "__init__") "InvalidPart.__init__" si_19, dOf ("InvalidPath", some "__init__") "InvalidPath.__init__" si_20, dOf ("InvalidPiece", some "__init__") "InvalidPiece.__init__" si_21, dOf ("InvalidPlace", some "__init__") "InvalidPlace.__init__" si_22, dOf ("InvalidPlaces", some "__init__") "InvalidPlaces.__init__" si_23, dOf ("InvalidRow", some "__init__") "InvalidRow.__init__" si_24, dOf ("InvalidRows", some "__init__") "InvalidRows.__init__" si_25, dOf ("InvalidSheet", some "__init__") "InvalidSheet.__init__" si_26]
def fn_5 : List He.DefD := [dOf ("InvalidShelf", some "__init__") "InvalidShelf.__init__" si_27, dOf ("InvalidStep", some "__init__") "InvalidStep.__init__" si_28, dOf ("InvalidSteps", some "__init__") "InvalidSteps.__init__" si_29, dOf ("InvalidSystem", some "__init__") "InvalidSystem.__init__" si_30, dOf ("InvalidText", some "__init__") "InvalidText.__init__" si_31, dOf ("InvalidTexts", some "__init__") "InvalidTexts.__init__" si_32, dOf ("InvalidTold", some "__init__") "InvalidTold.__init__" si_33, dOf ("InvalidTop", some "__init__") "InvalidTop.__init__" si_34, dOf ("InvalidWiring", some "__init__") "InvalidWiring.__init__" si_35]
def fn_6 : List He.DefD := [dOf ("CanStand", some "__init__") "CanStand.__init__" si_36, dOf ("Gone", some "__init__") "Gone.__init__" si_37, dOf ("HasLine", some "__init__") "HasLine.__init__" si_38, dOf ("HasOne", some "__init__") "HasOne.__init__" si_39, dOf ("InUse", some "__init__") "InUse.__init__" si_40, dOf ("NoExchange", some "__init__") "NoExchange.__init__" si_41, dOf ("NoStep", some "__init__") "NoStep.__init__" si_42, dOf ("NotHolding", some "__init__") "NotHolding.__init__" si_43, dOf ("NotLinear", some "__init__") "NotLinear.__init__" si_44]
def fn_7 : List He.DefD := [dOf ("NotThere", some "__init__") "NotThere.__init__" si_45, dOf ("NothingStands", some "__init__") "NothingStands.__init__" si_46, dOf ("NothingToRedo", some "__init__") "NothingToRedo.__init__" si_47, dOf ("NothingToUndo", some "__init__") "NothingToUndo.__init__" si_48, dOf ("TooMany", some "__init__") "TooMany.__init__" si_49, dOf ("Unfit", some "__init__") "Unfit.__init__" si_50, dOf ("ZeroNumber", some "__init__") "ZeroNumber.__init__" si_51]
def fn : List He.DefD := fn_0 ++ fn_1 ++ fn_2 ++ fn_3 ++ fn_4 ++ fn_5 ++ fn_6 ++ fn_7
def exs_0 (K : PySem.W.Frag) : List Bool := [xcAllB ⟨K, Tb⟩]
def ex_0 (K : PySem.W.Frag) : Bool := (exs_0 K).all id
def exs_1 (K : PySem.W.Frag) : List Bool := []
def ex_1 (K : PySem.W.Frag) : Bool := (exs_1 K).all id
def exs_2 (K : PySem.W.Frag) : List Bool := [fldB ⟨K, Tb⟩, iniB K (He.ga K "SayError")]
def ex_2 (K : PySem.W.Frag) : Bool := (exs_2 K).all id
def exs_3 (K : PySem.W.Frag) : List Bool := [[1, 2, 3, 4, 5, 6, 7, 8, 9, 10, 11, 12, 13, 14, 15, 16, 17, 18, 19, 20, 21, 22, 23, 24, 25, 26, 27, 28, 29, 30, 31, 32, 33, 34, 35, 36, 37, 38, 39, 40, 41, 42, 43, 44, 45, 46, 47, 48, 49, 50, 51].all (fun c => mkB ⟨K, Tb⟩ c)]
def ex_3 (K : PySem.W.Frag) : Bool := (exs_3 K).all id
def exs_4 (K : PySem.W.Frag) : List Bool := [[0].all (fun c => exmB ⟨K, Tb⟩ c), clsB ⟨K, Tb⟩]
def ex_4 (K : PySem.W.Frag) : Bool := (exs_4 K).all id
def exs_5 (K : PySem.W.Frag) : List Bool := [isi1B ⟨K, Tb⟩ (.ty "bool"), isi1B ⟨K, Tb⟩ (.ty "int")]
def ex_5 (K : PySem.W.Frag) : Bool := (exs_5 K).all id
def exs_6 (K : PySem.W.Frag) : List Bool := [isi1B ⟨K, Tb⟩ (.ty "str"), isiB ⟨K, Tb⟩ [.ty "list", .ty "tuple"]]
def ex_6 (K : PySem.W.Frag) : Bool := (exs_6 K).all id
def exs_7 (K : PySem.W.Frag) : List Bool := [isi1B ⟨K, Tb⟩ (.ty "list"), isi1B ⟨K, Tb⟩ (.ty "ValueError")]
def ex_7 (K : PySem.W.Frag) : Bool := (exs_7 K).all id
def exs (K : PySem.W.Frag) : List Bool := exs_0 K ++ exs_1 K ++ exs_2 K ++ exs_3 K ++ exs_4 K ++ exs_5 K ++ exs_6 K ++ exs_7 K
def ex (K : PySem.W.Frag) : Bool := (((((((ex_0 K && ex_1 K) && ex_2 K) && ex_3 K) && ex_4 K) && ex_5 K) && ex_6 K) && ex_7 K)
def loose_0 : List PySem.Str := ["SayError", "InvalidBase", "InvalidBound", "InvalidContext", "InvalidCount", "InvalidEnd", "InvalidFees", "InvalidFilling", "InvalidForm", "InvalidIndex", "InvalidLines", "InvalidLot", "InvalidMachine", "InvalidMost", "InvalidName", "InvalidNumber", "InvalidNumbers", "InvalidOther", "InvalidPaper", "InvalidPart"]
def loose_1 : List PySem.Str := ["InvalidPath", "InvalidPiece", "InvalidPlace", "InvalidPlaces", "InvalidRow", "InvalidRows", "InvalidSheet", "InvalidShelf", "InvalidStep", "InvalidSteps", "InvalidSystem", "InvalidText", "InvalidTexts", "InvalidTold", "InvalidTop", "InvalidWiring", "CanStand", "Gone", "HasLine", "HasOne"]
def loose_2 : List PySem.Str := ["InUse", "NoExchange", "NoStep", "NotHolding", "NotLinear", "NotThere", "NothingStands", "NothingToRedo", "NothingToUndo", "TooMany", "Unfit", "ZeroNumber", "_law_cell", "_law_box", "_law_take", "_law_same", "_law_blamed", "_law_value", "_law_made_0", "_law_made_1"]
def loose_3 : List PySem.Str := ["_law_made_2", "_law_made_3", "_law_is_0", "_law_is_1", "_law_is_2", "_law_fields", "_law_raised", "_law_caught_right", "_law_deep", "_law_class_right"]
def loose : List PySem.Str := loose_0 ++ loose_1 ++ loose_2 ++ loose_3
abbrev R : PySem.W.OpenRow := PySem.W.OpenLaw.row PySem.Challenge.rw_wiresay_k99_errors
abbrev hk : PySem.W.Hook := hookL 4 fa fn ex
abbrev ob (s : PySem.W.SharedT) : AlL := obT 4 fa fn ex s
theorem ob_eq (s : PySem.W.SharedT) : ob s = hk.obs s.abs := obsL_eq (HandSHeadRun.getT_eq s)
theorem run_0 (w : World) : HandSHeadRun.RunEq R (PySem.W.view R.prog [73]) (hookL 4 fa_0 fn_0 ex_0) (obT 4 fa_0 fn_0 ex_0) 40000 loose w := by
  intro os
  kernel_rfl
theorem run_1 (w : World) : HandSHeadRun.RunEq R (PySem.W.view R.prog [73]) (hookL 4 fa_1 fn_1 ex_1) (obT 4 fa_1 fn_1 ex_1) 40000 loose w := by
  intro os
  kernel_rfl
theorem run_2 (w : World) : HandSHeadRun.RunEq R (PySem.W.view R.prog [73]) (hookL 4 fa_2 fn_2 ex_2) (obT 4 fa_2 fn_2 ex_2) 40000 loose w := by
  intro os
  kernel_rfl
theorem run_3 (w : World) : HandSHeadRun.RunEq R (PySem.W.view R.prog [73]) (hookL 4 fa_3 fn_3 ex_3) (obT 4 fa_3 fn_3 ex_3) 40000 loose w := by
  intro os
  kernel_rfl
theorem run_4 (w : World) : HandSHeadRun.RunEq R (PySem.W.view R.prog [73]) (hookL 4 fa_4 fn_4 ex_4) (obT 4 fa_4 fn_4 ex_4) 40000 loose w := by
  intro os
  kernel_rfl
theorem run_5 (w : World) : HandSHeadRun.RunEq R (PySem.W.view R.prog [73]) (hookL 4 fa_5 fn_5 ex_5) (obT 4 fa_5 fn_5 ex_5) 40000 loose w := by
  intro os
  kernel_rfl
theorem run_6 (w : World) : HandSHeadRun.RunEq R (PySem.W.view R.prog [73]) (hookL 4 fa_6 fn_6 ex_6) (obT 4 fa_6 fn_6 ex_6) 40000 loose w := by
  intro os
  kernel_rfl
theorem run_7 (w : World) : HandSHeadRun.RunEq R (PySem.W.view R.prog [73]) (hookL 4 fa_7 fn_7 ex_7) (obT 4 fa_7 fn_7 ex_7) 40000 loose w := by
  intro os
  kernel_rfl
theorem run (w : World) : HandSHeadRun.RunEq R (PySem.W.view R.prog [73]) hk ob 40000 loose w := (run_and (run_and (run_and (run_and (run_and (run_and (run_and (run_0 w) (run_1 w)) (run_2 w)) (run_3 w)) (run_4 w)) (run_5 w)) (run_6 w)) (run_7 w))
end Kk99
end Lay

set_option Elab.async false
set_option linter.all false
set_option maxRecDepth 100000
set_option maxHeartbeats 2000000
namespace PySem
namespace HandSPX
open Builtin Builtin.ObjectAttr
section
variable {M : Model} {A : Around} {E : Value → Shared → Prop} {h : Heap} {g : Array GenState} {d : Drawn} {t : Nat} {os : OsState}
variable {nm q : Str} {C N : Addr} {bs bm bmB : List Value} {hdct : Bool} {sn : List Str} {sub : List Value} {ab : Bool} {col : Option Bool} {dd : Option Addr} {k0 k1 k2 k3 k5 : Option Value} {B newId initId : String}
theorem check_new_ownK (F : ExcBaseFacts B newId initId bmB) (hT : ∀ X : String, bm.contains (.type X) = bmB.contains (.type X)) {rest : List Value} {kw : List (Str × Value)} {Q : Unit → Shared → Prop}
    (hC : h.get? C = some (excClassObj nm q C N bs bm hdct sn sub ab col dd k0 k1 k2 k3 k5 newId)) (hq : Q () ⟨h, g, d, t, os⟩) : wpAny M A (checkBuiltinCall newId ⟨.ref C :: rest, kw⟩) Q E ⟨h, g, d, t, os⟩ := by
  have hcont : (Value.ref C :: bm).contains (.type B) = true := by rw [List.contains_cons, hT, F.hasB, Bool.or_true]
  have hstar := F.noStar
  simp only [checkBuiltinCall, F.newKind, F.newSplit, F.newRow]
  repeat (first | refine wpAny_loadPart_at hC ?_ | (refine wpAny_isSubtype_exc hC ?_; rw [hcont]) | refine wpAny_staticBase_exc hC ?_ | refine wpAny_madeBy_exc hC ?_ | simp only [bne_self_eq_false, Bool.false_eq_true, if_false] | wp_step)
  exact hq
end
section
variable {prog : Program} {w : World} {A : Around} {E : Value → Shared → Prop} {R : Result → Shared → Prop} {h : Heap} {g : Array GenState} {d : Drawn} {t : Nat} {os : OsState}
variable {nm q : Str} {C N : Addr} {bs bm bmB : List Value} {hdct : Bool} {sn : List Str} {sub : List Value} {ab : Bool} {col : Option Bool} {dd : Option Addr} {k0 k1 k2 k3 k5 : Option Value} {B newId initId : String}
theorem new_ownK (F : ExcBaseFacts B newId initId bmB) (hT : ∀ X : String, bm.contains (.type X) = bmB.contains (.type X)) {rest : List Value} {kw : List (Str × Value)}
    (hC : h.get? C = some (excClassObj nm q C N bs bm hdct sn sub ab col dd k0 k1 k2 k3 k5 newId))
    (hq : R (.ok (.ret (.ref (h.objs.size + 1)))) ⟨(h.push { cls := .type "tuple", data := .seq rest.toArray }).push
      { cls := .ref C, data := .fields #[.ref h.objs.size, .none, .none, .none, .bool false, .none] }, g, d, t, os⟩) (hrest : rest.length ≤ sizeLine) :
    codeAny (model prog w) A (.builtin newId ⟨.ref C :: rest, kw⟩) R ⟨h, g, d, t, os⟩ := by
  have hends := F.ends
  have hcB : (Value.ref C :: bm).contains (.type B) = true := by rw [List.contains_cons, hT, F.hasB, Bool.or_true]
  have hcA : (Value.ref C :: bm).contains (.type "AttributeError") = false := by rw [List.contains_cons, hT, F.noAttr]; rfl
  have hcN : (Value.ref C :: bm).contains (.type "NameError") = false := by rw [List.contains_cons, hT, F.noName]; rfl
  refine codeAny_builtinAt F.entry ?_
  unfold Builtin.«BaseException.__new__»
  refine wpAt_bind ?_
  show wpAt _ _ _ (stack >>= _) _ _ _
  refine wpAt_bind (wpAt_stack fun p below => wpAt_of_wpAny ?_)
  wp_walk
  refine wpAt_of_wpAny ?_
  rw [F.owner]
  repeat (first | with_reducible refine wpAny_madeHere_exc F.canon hC ?_ | with_reducible refine wpAny_loadPart_at hC ?_ | (with_reducible refine wpAny_isSubtype_exc hC ?_; first | rw [hcB] | rw [hcA] | rw [hcN]) | wp_step)
  show R _ _
  rw [Heap.size_push]
  exact hq
theorem type_call_ownK (F : ExcBaseFacts B newId initId bmB) (hT : ∀ X : String, bm.contains (.type X) = bmB.contains (.type X)) {rest : List Value} {kw : List (Str × Value)} {fI : Addr} {Q : Fin → Shared → Prop}
    (hC : h.get? C = some (excClassObj nm q C N bs bm hdct sn sub ab col dd k0 k1 k2 k3 k5 newId))
    (hi : W.Looks (model prog w) h (typeLookup (.ref C) "__init__") (some (.ref fI))) (hb : ∀ self, W.Looks (model prog w) h (bindSpecial (.ref fI) self) (.ref fI, [self])) (hrest : rest.length ≤ sizeLine)
    (hq : codeAny (model prog w) A (.call (.ref fI) ⟨.ref (h.objs.size + 1) :: rest, kw⟩)
      (fun r s' => match r with | .ok (.ret v) => v = .none ∧ Q (.done (.ret (.ref (h.objs.size + 1)))) s' | .ok _ => False | .error e => E e s')
      ⟨(h.push (W.kdv_tup rest)).push (excO C h.objs.size), g, d, t, os⟩) :
    wpAny (model prog w) A (Builtin.«type.__call__» ⟨.ref C :: rest, kw⟩) Q E ⟨h, g, d, t, os⟩ := by
  repeat (first | with_reducible refine wpAny_loadPart_at hC ?_ | with_reducible refine wpAny_madeBy_exc hC ?_ | wp_step)
  refine codeAny_call_builtin_code (Code.quiet_builtin _ F.quiet) (check_new_ownK F hT hC ?_)
  refine new_ownK F hT hC ?_ hrest
  show wpAny _ _ _ _ _ _
  have k : ∀ b o, h.get? b = some o → ((h.push (W.kdv_tup rest)).push (excO C h.objs.size)).get? b = some o := fun b o e => Heap.get?_push_of_some _ (Heap.get?_push_of_some _ e)
  have hC₁ := k _ _ hC
  have hget : ((h.push (W.kdv_tup rest)).push (excO C h.objs.size)).get? (h.objs.size + 1) = some (excO C h.objs.size) := by heap_get
  have hcC : (Value.ref C :: bm).contains (.ref C) = true := by simp
  have i1 := hi.keeps k
  have b1 := (hb (.ref (h.objs.size + 1))).keeps k
  unfold isInstance
  repeat (first | with_reducible refine wpAny_loadPart_at hget ?_ | (with_reducible refine wpAny_isSubtype_exc hC₁ ?_; rw [hcC]) | wp_step)
  show wpAny _ _ (typeLookup (.ref C) _) _ _ _
  refine i1.at ?_
  refine wpAny_holding (wpAny_bind (b1.at ?_))
  refine wpAny_bind (wpAny_call (codeAny_mono hq fun r s' z => ?_))
  rcases r with e | (v | _ | _ | _) <;> first | exact z | exact z.elim | skip
  obtain ⟨rfl, z⟩ := z
  first
    | exact wpAny_pure (wpAny_pure z)
    | (wp_walk; exact z)
theorem call_ownK (F : ExcBaseFacts B newId initId bmB) (hT : ∀ X : String, bm.contains (.type X) = bmB.contains (.type X)) {rest : List Value} {kw : List (Str × Value)} {fI : Addr}
    (hC : h.get? C = some (excClassObj nm q C N bs bm hdct sn sub ab col dd k0 k1 k2 k3 k5 newId))
    (hi : W.Looks (model prog w) h (typeLookup (.ref C) "__init__") (some (.ref fI))) (hb : ∀ self, W.Looks (model prog w) h (bindSpecial (.ref fI) self) (.ref fI, [self])) (hrest : rest.length ≤ sizeLine)
    (hq : codeAny (model prog w) (A.under (.builtin "type.__call__" ⟨.ref C :: rest, kw⟩)) (.call (.ref fI) ⟨.ref (h.objs.size + 1) :: rest, kw⟩) (W.InitBack (h.objs.size + 1) R)
      ⟨(h.push (W.kdv_tup rest)).push (excO C h.objs.size), g, d, t, os⟩) :
    codeAny (model prog w) A (.call (.ref C) ⟨rest, kw⟩) R ⟨h, g, d, t, os⟩ := by
  have f1 := tc_lookup
  have f2 := tc_bind (.ref C)
  have hTy : (⟨h, g, d, t, os⟩ : Shared).TypeIs (.ref C) "type" := ⟨_, hC, rfl⟩
  refine codeAny_of_tree ?_
  show wpAny _ _ (callAny (.ref C) _) _ _ _
  repeat (any_goals (first | assumption | with_reducible refine wpAny_loadPart_at hC ?_ | wp_step))
  refine ⟨rfl, ?_⟩
  refine codeAny_call_builtin_at (Code.quiet_builtin _ (by decide +kernel)) entry_typeCall (wpAny_check_type_call_sub hC (type_call_ownK F hT hC hi hb hrest ?_))
  refine codeAny_mono hq fun r s' z => ?_
  rcases r with e | (v | _ | _ | _) <;> exact z
end
end HandSPX
end PySem
namespace Lay
open PySem PySem.Spec PyProof.Rows L2
/-! ### zip -/
def zipD (ds es : List D) : List D := (ds.zip es).map fun p => .tup [p.1, p.2]
section
variable {C : Ctx} {ρ0 : List Addr} {H0 : Hp}
theorem zip_yield {ρ : List Addr} {H : Hp} {S : Store} {ds es : List D} {xs ys : List V} {i : Nat} {d : D} {t : Addr} {x y : V} (s : SRep C ρ H S) (q : Reps C ρ H ds xs) (p : Reps C ρ H es ys) (hn : H t = none) (hx : xs[i]? = some x) (hy : ys[i]? = some y) (hd : (zipD ds es)[i]? = some d) :
    Le ρ H ρ (upd H t (.tup [x, y])) ∧ SRep C ρ (upd H t (.tup [x, y])) S ∧ Rep C ρ (upd H t (.tup [x, y])) d (.ref t) := by
  have l : Le ρ H ρ (upd H t (.tup [x, y])) := Le.new hn
  refine ⟨l, s.free hn, ?_⟩
  unfold zipD at hd
  rw [List.getElem?_map] at hd
  obtain ⟨pq, h1, rfl⟩ := Option.map_eq_some_iff.mp hd
  obtain ⟨h2, h3⟩ := List.getElem?_zip_eq_some.mp h1
  obtain ⟨v, e1, r1⟩ := q.get h2
  obtain ⟨w, e2, r2⟩ := p.get h3
  rw [hx] at e1
  rw [hy] at e2
  cases e1
  cases e2
  exact rep_tup.mpr ⟨t, [x, y], rfl, .inl (.inl upd_same), Reps.cons (r1.le l) (Reps.cons (r2.le l) Reps.nil)⟩
theorem zip_len {ρ : List Addr} {H : Hp} {ds es : List D} {xs ys : List V} {i : Nat} (q : Reps C ρ H ds xs) (p : Reps C ρ H es ys) (hi : i < (zipD ds es).length) : ∃ x y, xs[i]? = some x ∧ ys[i]? = some y := by
  unfold zipD at hi
  rw [List.length_map, List.length_zip, q.length, p.length] at hi
  exact ⟨xs[i]'(by omega), ys[i]'(by omega), List.getElem?_eq_getElem (by omega), List.getElem?_eq_getElem (by omega)⟩
theorem zip_end {ρ : List Addr} {H : Hp} {ds es : List D} {xs ys : List V} (q : Reps C ρ H ds xs) (p : Reps C ρ H es ys) : xs.length ≤ (zipD ds es).length ∨ ys.length ≤ (zipD ds es).length := by
  unfold zipD
  rw [List.length_map, List.length_zip, q.length, p.length]
  omega
theorem itOk_zipL {n m : Nat} {ds es : List D} {a b : Addr} (hρ : ρ0[n]? = some a) (hρ2 : ρ0[m]? = some b) : ItOk C ⟨zipD ds es, fun S => rdL S n = some ds ∧ rdL S m = some es⟩ (Itz C.K a b) ρ0 H0 := by
  intro ρ H S l s ⟨e, e'⟩
  obtain ⟨a', xs, e1, q1, q2⟩ := s.rd (rep_ref.mpr ⟨a, l.at hρ, rfl⟩) e
  cases e1
  obtain ⟨b', ys, e1, p1, p2⟩ := s.rd (rep_ref.mpr ⟨b, l.at hρ2, rfl⟩) e'
  cases e1
  refine ⟨fun i hi => ?_, ⟨xs, ys, q1, p1, zip_end q2 p2⟩, fun i x H' ⟨t, u, v, e2, hn, e3, y1, y2⟩ d hd => ?_⟩
  · obtain ⟨x, y, h1, h2⟩ := zip_len q2 p2 hi
    exact ⟨xs, ys, x, y, q1, p1, h1, h2⟩
  · subst e2 e3
    exact zip_yield s q2 p2 hn (y1 xs q1) (y2 ys p1) hd
theorem itOk_zipT {ds es : List D} {a b : Addr} {xs ys : List V} (q1 : SqT C.K H0 a xs) (q2 : Reps C ρ0 H0 ds xs) (p1 : SqT C.K H0 b ys) (p2 : Reps C ρ0 H0 es ys) : ItOk C ⟨zipD ds es, fun _ => True⟩ (RZ.ItzT C.K a b) ρ0 H0 := by
  intro ρ H S l s _
  have q1 := SqT.le l q1
  have q2 := q2.le l
  have p1 := SqT.le l p1
  have p2 := p2.le l
  refine ⟨fun i hi => ?_, ⟨xs, ys, q1, p1, zip_end q2 p2⟩, fun i x H' ⟨t, u, v, e2, hn, e3, y1, y2⟩ d hd => ?_⟩
  · obtain ⟨x, y, h1, h2⟩ := zip_len q2 p2 hi
    exact ⟨xs, ys, x, y, q1, p1, h1, h2⟩
  · subst e2 e3
    exact zip_yield s q2 p2 hn (y1 xs q1) (y2 ys p1) hd
end
def itZip (aa : EA) : EI := eBind aa fun xs => fun _ S => match xs with
  | [.ref n, .ref m] => match rdL S n, rdL S m with
    | some ds, some es => .ok ⟨zipD ds es, fun S' => rdL S' n = some ds ∧ rdL S' m = some es⟩ S
    | _, _ => .bad
  | [.tup ds, .tup es] => .ok ⟨zipD ds es, fun _ => True⟩ S
  | _ => .bad
section
variable {X : Cx} {T : List Cls} {W : WX} {a b e e2 : Expr} {es : List Expr} {aa : EA} {pos p : Pos} {k c : Nat} {kws : List Keyword} {x : Str}
theorem i_zip {tpos : Pos} {elts : List Expr} {kk : Nat} (hg : Gl X "zip") (hm : X.mg "zip" = none) (ha : PA X [e, e2] (LA (cx X T) W aa))
    (hs : starEach [e, e2] X.env = (false, eval e X.env) :: starEach [e2] X.env := by rfl) (hpl : (backTo pos (starEach [e2] X.env)).any (·.1) = false := by rfl) :
    PI X (.Tuple elts kk tpos) (.Call (.Name "zip" p) [e, e2] [] pos) (LI (cx X T) W (itZip aa)) := (RZ.pi_zipA hg hm ha hs hpl).imp fun σ H R ⟨sd, ρ, S, h1, h2, h3⟩ => by
  refine LG.run h1 h2 h3 fun dx x ρ1 S1 H1 l1 s1 r1 k1 => ?_
  split at k1
  · rename_i n m
    split at k1
    · rename_i ds es hd he
      obtain ⟨v, w, rfl, r, r'⟩ := Reps.two r1
      obtain ⟨a, e1, rfl⟩ := rep_ref.mp r
      obtain ⟨b, e2, rfl⟩ := rep_ref.mp r'
      obtain ⟨a', xs, z1, q1, q2⟩ := s1.rd r hd
      cases z1
      obtain ⟨b', ys, z1, p1, p2⟩ := s1.rd r' he
      cases z1
      exact ⟨a, b, xs, ys, rfl, .inl ⟨q1, p1, k1 _ ρ1 H1 Le.refl s1 (itOk_zipL e1 e2)⟩⟩
    · exact k1.elim
  · rename_i ds es
    obtain ⟨v, w, rfl, r, r'⟩ := Reps.two r1
    obtain ⟨a, xs, rfl, q1, q2⟩ := rep_tup.mp r
    obtain ⟨b, ys, rfl, p1, p2⟩ := rep_tup.mp r'
    exact ⟨a, b, xs, ys, rfl, .inr ⟨q1, p1, k1 _ ρ1 H1 Le.refl s1 (itOk_zipT q1 q2 p1 p2)⟩⟩
  · exact k1.elim
/-! ### an own exception made by keywords -/
structure MkKw (P : Program) (w : World) (K : PySem.W.Frag) (mg : Str → Option Value) (base : Heap) (T : List Cls) (k : Nat) (c : Nat) (ks : List Str) (perm : List Nat) : Prop where
  lt : c < T.length
  ox : OexC K ((⟨K, T⟩ : Ctx).addr c)
  no : ∀ f ∈ (⟨K, T⟩ : Ctx).flds c, PySem.W.findIn K (.ref ((⟨K, T⟩ : Ctx).addr c)) f = some none
  ini : ∃ fI fd, PySem.W.findIn K (.ref ((⟨K, T⟩ : Ctx).addr c)) "__init__" = some (some (.ref fI)) ∧ PySem.W.typeIn K (.ref fI) = some (.type "function") ∧
    FnOk P w K mg base (L2.CX P w) k fI fd ("self" :: (⟨K, T⟩ : Ctx).flds c) (exi K ((⟨K, T⟩ : Ctx).flds c)) ∧
    ∀ (s : Shared) (u : Value) (ws : List Value), K.In s.heap → (permA perm ws).length = ((⟨K, T⟩ : Ctx).flds c).length → BindsTo s fd ⟨[u], ks.zip ws⟩ ((("self" : Str) :: (⟨K, T⟩ : Ctx).flds c).zip (u :: permA perm ws))
theorem oex_coreK {ks : List Str} {perm : List Nat} {pins : List (Addr × Obj)} {σ : St} {H1 : Hp} {s1 : Shared} {us : List Value} {vs : List V} {Q : Value → Shared → Prop} (M : MkKw X.prog X.w X.K X.mg X.base T k c ks perm) (hr : Room (k + 1) X.A) (I1 : Inv X pins σ H1 s1) (r1 : Vals vs us)
    (hl : (permA perm vs).length = ((cx X T).flds c).length)
    (q : ∀ (a : Addr) (hp2 : Heap) (s' : Shared) (H2 : Hp), s1.heap.objs.size ≤ a → (∀ b o, s1.heap.get? b = some o → hp2.get? b = some o) → Inv X pins σ H2 s' → Un (frs X.stack) [] (upd H1 a (exo a ((cx X T).addr c) none)) H2 hp2 s'.heap →
      HOk X.prog X.w H2 s'.heap → s'.os = s1.os → AllBare s'.gens → ExFin a ((cx X T).addr c) (upd H1 a (exo a ((cx X T).addr c) none)) ((cx X T).flds c) (permA perm vs) H2 → Q (.ref a) s') :
    wpAny (model X.prog X.w) X.A (call (.ref ((cx X T).addr c)) [] (ks.zip us)) Q X.xe s1 := by
  have O : OexC X.K ((cx X T).addr c) := M.ox
  obtain ⟨_, _, _, _, bm, _, _, _, _, _, _, _, _, _, _, hC, hbm⟩ := id O.cls
  obtain ⟨fI, fd, iC, tI, F1, hb⟩ := M.ini
  obtain ⟨hp, g, dr, tk, os⟩ := s1
  generalize hCe : (cx X T).addr c = C at *
  generalize hps : (cx X T).flds c = ps at *
  have hCe' : (⟨X.K, T⟩ : Ctx).addr c = C := hCe
  have hps' : (⟨X.K, T⟩ : Ctx).flds c = ps := hps
  have hsz : hp.objs.size ≤ hp.objs.size + 1 := Nat.le_succ _
  have up2 : ∀ b o, hp.get? b = some o → ((hp.push (PySem.W.kdv_tup [])).push (PySem.HandSPX.excO C hp.objs.size)).get? b = some o := fun b o e =>
    Heap.get?_push_of_some _ (Heap.get?_push_of_some _ e)
  have there : ((hp.push (PySem.W.kdv_tup [])).push (PySem.HandSPX.excO C hp.objs.size)).get? (hp.objs.size + 1) = some (PySem.HandSPX.excO C hp.objs.size) := by heap_get
  have I2 := I1.laid (t' := tk) up2 hsz (exo_ok (P := X.prog) (w := X.w) (H := upd H1 (hp.objs.size + 1) (exo (hp.objs.size + 1) C none)) there)
  have hq : exi X.K ps (.ref (hp.objs.size + 1) :: permA perm vs) (upd H1 (hp.objs.size + 1) (exo (hp.objs.size + 1) C none)) (fun v H2 => ExFin (hp.objs.size + 1) C (upd H1 (hp.objs.size + 1) (exo (hp.objs.size + 1) C none)) ps (permA perm vs) H2 ∧ v = .non) (fun _ _ _ => False) :=
    ⟨_, C, permA perm vs, rfl, hl, O, by have := M.no; rw [hCe', hps'] at this; exact this, upd_same, fun H' z => ⟨z, rfl⟩⟩
  have r1p := vals_perm r1 perm
  have len2 : (permA perm us).length = ps.length := by
    rw [← r1p.length, hl]
  have b2 := hb ⟨_, g, dr, tk, os⟩ (Value.ref (hp.objs.size + 1)) us I2.kIn len2
  have r2 : Vals (V.ref (hp.objs.size + 1) :: permA perm vs) (Value.ref (hp.objs.size + 1) :: permA perm us) := .cons rfl r1p
  have run := F1.run _ X.stack _ _ ⟨[Value.ref (hp.objs.size + 1)], ks.zip us⟩ _ _ _ (fun _ _ _ => False) (hr.make C [] (ks.zip us)) (I2.env0.make C [] (ks.zip us)) b2 r2 hq
  refine wpAny_call (PySem.HandSPX.call_ownK F.excBase_ValueError (fun Y => PySem.HandSPX.refsVE_contains Y bm hbm) (I1.kIn _ _ hC) (PySem.W.looks_findIn I1.kIn iC)
    (fun self => PySem.W.bind_fn I1.kIn self tI) (Nat.zero_le _) (codeAny_mono run fun r s' z => ?_))
  rcases r with er | fl
  · obtain ⟨_, _, _, _, _, _, _, _, _, _, _, _, z⟩ := z
    exact z.elim
  · rcases fl with u | _ | _ | _
    case ret =>
      obtain ⟨v, H2, os2, bare2, un2, hok2, rv, fin, ev⟩ := z
      subst ev
      exact ⟨rv, q _ _ _ H2 hsz up2 (I2.call' os2 un2 hok2 bare2 fun b z => nomatch z) un2 hok2 os2 bare2 fin⟩
    all_goals exact False.elim z
theorem mk_endK {ks : List Str} {perm : List Nat} {pins : List (Addr × Obj)} {σ : St} {H1 : Hp} {s1 : Shared} {us : List Value} {vs : List V} {ds : List D} {ρ : List Addr} {S : Store} {Q : VK} (M : MkKw X.prog X.w X.K X.mg X.base T k c ks perm) (hr : Room (k + 1) X.A) (I1 : Inv X pins σ H1 s1) (r1 : Vals vs us)
    (sr : SRep (cx X T) ρ H1 S) (rs : Reps (cx X T) ρ H1 ds vs) (hn : (permA perm ds).length = ((cx X T).flds c).length) (q : ∀ v H2, Le ρ H1 ρ H2 → SRep (cx X T) ρ H2 S → Rep (cx X T) ρ H2 (.exn c (permA perm ds)) v → Q v H2) :
    wpAny (model X.prog X.w) X.A (call (.ref ((cx X T).addr c)) [] (ks.zip us)) (EP X pins σ Q) X.xe s1 := by
  have rp := Reps.perm rs perm
  have hl : (permA perm vs).length = ((cx X T).flds c).length := by rw [← rp.length]; exact hn
  refine oex_coreK M hr I1 r1 hl fun a hp2 s' H2 hsz up2 I2 un2 hok2 os2 bare2 fin => ?_
  obtain ⟨d, H3, J, l, sf, ea, dk⟩ := mk_value (T := T) I2 (I1.hok.fresh hsz) fin hl
  refine ⟨.ref a, H3, J, rfl, q _ _ (l ρ) (sf ρ S sr) ?_⟩
  simp only [Rep]
  exact ⟨a, d, permA perm vs, rfl, M.lt, ea, dk, rp.le (l ρ)⟩
def eMkKw (c n : Nat) (perm : List Nat) (aa : EA) : EE := eBind aa fun xs => fun _ S => if (permA perm xs).length = n then .ok (.exn c (permA perm xs)) S else .bad
theorem e_mkKw {ks : List Str} {perm : List Nat} (M : MkKw X.prog X.w X.K X.mg X.base T k c ks perm) (hr : Room (k + 1) X.A) (hg : Gl X x) (hm : X.mg x = some (.ref ((cx X T).addr c))) {n : Nat} (hn : ((cx X T).flds c).length = n)
    (hkw : LK X T W kws aa) (hdb : (x == ("__debug__" : Str)) = false := by decide) (hall : (backToKw pos (keywordEach kws X.env)).all (·.1.isSome) = true := by rfl) (hks : (backToKw pos (keywordEach kws X.env)).filterMap (·.1) = ks := by rfl)
    (hpl : ((backTo pos (starEach [] X.env)).any (·.1) || (backToKw pos (keywordEach kws X.env)).any (·.1.isNone)) = false := by rfl) :
    PE X (.Call (.Name x p) [] kws pos) (LE (cx X T) W (eMkKw c n perm aa)) := by
  refine ⟨fun pins s σ H Q I ⟨sd, ρ, S, h1, h2, h3⟩ => ?_⟩
  have kp : PySem.W.keepIn X.K (.ref ((cx X T).addr c)) = true := M.ox.kC
  have go : LA (cx X T) W aa σ H fun vs H1 => ∃ ds ρ1 S1, SRep (cx X T) ρ1 H1 S1 ∧ Reps (cx X T) ρ1 H1 ds vs ∧ (permA perm ds).length = ((cx X T).flds c).length ∧ ∀ v H2, Le ρ1 H1 ρ1 H2 → SRep (cx X T) ρ1 H2 S1 → Rep (cx X T) ρ1 H2 (.exn c (permA perm ds)) v → Q v H2 := by
    refine LG.run h1 h2 h3 fun ds vs ρ1 S1 H1 l1 s1 r1 k1 => ?_
    split at k1
    · rename_i hz
      exact ⟨ds, ρ1, S1, s1, r1, by rw [hz, hn], fun v H2 l s r => k1 v ρ1 H2 l s r⟩
    · exact k1.elim
  refine wpAny_Call_Name_kw (ld_glob I hg hm ?_ hdb)
  refine PySem.W.callWith_KW0 (h₀ := X.base) I.ok.mod.kin kp hall (thn (hkw.run pos pins s σ H _ I go) fun ws s1 ⟨zs, H1, I1, rz, ds, ρ1, S1, sr, rs, hz, q⟩ => ⟨I1.kIn, ?_⟩) hpl
  rw [hks]
  exact mk_endK M hr I1 rz sr rs hz q
end
theorem mkKwB_ok {P : Program} {w : World} {K : PySem.W.Frag} {mg : Str → Option Value} {base : Heap} {T : List Cls} {k c : Nat} {q : Cls} {ks : List Str} {perm : List Nat} (h : mkB ⟨K, T⟩ c = true) (hq : T[c]? = some q) {fd : FuncData} (F : FnOk P w K mg base (L2.CX P w) k (He.fAd K (q.name, some "__init__")) fd ("self" :: q.flds) (exi K q.flds))
    (b : ∀ (s : Shared) (u : Value) (ws : List Value), K.In s.heap → (permA perm ws).length = q.flds.length → BindsTo s fd ⟨[u], ks.zip ws⟩ ((("self" : Str) :: q.flds).zip (u :: permA perm ws))) : MkKw P w K mg base T k c ks perm := by
  have ef : (⟨K, T⟩ : Ctx).flds c = q.flds := by unfold Ctx.flds; rw [hq]
  obtain ⟨h1, h⟩ := He.ba h
  obtain ⟨h2, h3⟩ := He.ba h
  rw [hq] at h3
  obtain ⟨h4, h5⟩ := He.ba h3
  refine ⟨(List.getElem?_eq_some_iff.mp hq).1, oexB_ok h1, fun f hf => of_decide_eq_true (List.all_eq_true.mp h2 f hf), _, fd, of_decide_eq_true h4, of_decide_eq_true h5, ?_, ?_⟩
  · rw [ef]; exact F
  · rw [ef]; exact b
theorem kwBindsI {K : PySem.W.Frag} {x qual : Str} {a : Arguments} {b : List Stmt} {sc : Scope} {f : Addr} {fd : FuncData} {ps ks : List Str} {perm : List Nat} (F : FunD K x qual a b sc [] [] f fd)
    (h : ∀ (kV doc pm : Value) (an : Option Addr) (cdv ct : Value) (u : Value) (ws : List Value), (permA perm ws).length = ps.length → bindArgs (PySem.W.fnOf x qual a b sc .none kV doc pm an cdv ct) ⟨[u], ks.zip ws⟩ = pure ((("self" : Str) :: ps).zip (u :: permA perm ws))) :
    ∀ (s : Shared) (u : Value) (ws : List Value), K.In s.heap → (permA perm ws).length = ps.length → BindsTo s fd ⟨[u], ks.zip ws⟩ ((("self" : Str) :: ps).zip (u :: permA perm ws)) := by
  obtain ⟨oc, od, dV, kV, doc, pm, an, cdv, ct, osl, rfl, lk, hcd, hD, hK⟩ := F.ex
  rcases hD with ⟨_, rfl⟩ | ⟨z, _⟩
  · exact fun s u ws _ hl => .of_eq (h kV doc pm an cdv ct u ws hl)
  · exact absurd rfl z
end Lay

set_option Elab.async false
set_option linter.all false
set_option maxRecDepth 100000
set_option maxHeartbeats 4000000
/-! the functions of the law -/
namespace Lay
namespace Kk99
open PySem PySem.Spec PyProof.Rows L2
def N__law_cell : List Str := ["script", "k"]
noncomputable def g__law_cell : List D → M D := fnD N__law_cell.length 2 (sRet (eIf (asB (eBin pLt (eVar 1) (eCallB pLen (aCons (eVar 0) aNil)))) (eBin pIx (eVar 0) (eVar 1)) (eBin pAdd (eBin pMul (eC (.int 6619)) (eVar 1)) (eBin pMod (eCallB pInt (aCons (eCallB pSum (aCons (eSl (eVar 0) oNone (oSome (eC (.int 1)))) aNil)) aNil)) (eC (.int 1000003))))))
def N__law_box : List Str := ["great"]
noncomputable def g__law_box : List D → M D := fnD N__law_box.length 1 (sRet (eLst (aCons (eCallB pAbs (aCons (eVar 0) aNil)) (aCons (eBin pGe (eCallB pAbs (aCons (eVar 0) aNil)) (eBin pPow (eC (.int 10)) (eC (.int 18)))) (aCons (eBin pMod (eCallB pInt (aCons (eCallB pAbs (aCons (eVar 0) aNil)) aNil)) (eC (.int 2147483629))) (aCons (eC (.int 0)) aNil))))))
def N__law_take : List Str := ["box", "many", "mixed", "digit"]
noncomputable def g__law_take : List D → M D := fnD N__law_take.length 2 (sSeq (sIf (bAnd (eTru (eBin pIx (eVar 0) (eC (.int 1)))) (asB (eBin pGt (eBin pIx (eVar 0) (eC (.int 0))) (eC (.int 0))))) (sSeq (sSet 3 (eBin pMod (eCallB pInt (aCons (eBin pIx (eVar 0) (eC (.int 0))) aNil)) (eVar 1)))
  (sSeq (sAsg (eBin pDiv (eBin pIx (eVar 0) (eC (.int 0))) (eVar 1)) (gSubD (eVar 0) (eC (.int 0))))
  (sRet (eVar 3)))) sNext)
  (sSeq (sAsg (eBin pAdd (eBin pIx (eVar 0) (eC (.int 3))) (eC (.int 1))) (gSubD (eVar 0) (eC (.int 3))))
  (sSeq (sSet 2 (eBin pMod (eCallB pInt (aCons (eBin pPow (eBin pAdd (eBin pAdd (eBin pIx (eVar 0) (eC (.int 2))) (eBin pMul (eC (.int 15487667)) (eBin pIx (eVar 0) (eC (.int 3))))) (eC (.int 179426279))) (eC (.int 5))) aNil)) (eC (.int 2147483647))))
  (sRet (eBin pMod (eCallB pInt (aCons (eBin pDiv (eBin pMod (eCallB pInt (aCons (eBin pPow (eBin pAdd (eBin pMul (eVar 2) (eC (.int 48271))) (eBin pMul (eC (.int 104743)) (eBin pIx (eVar 0) (eC (.int 3))))) (eC (.int 3))) aNil)) (eC (.int 2147483587))) (eC (.int 64))) aNil)) (eVar 1))))))
def N__law_same : List Str := ["told", "due", "k"]
noncomputable def g__law_same : Nat → List D → M D
  | 0 => fun _ _ => .bad
  | n + 1 => fnD N__law_same.length 2 (sSeq (sIf (bOr (asB (eBin pIs (eVar 1) (eC .non))) (eTru (eIsi Tb [.ty "bool"] (eVar 1)))) (sRet (eIf (asB (eBin pIs (eVar 1) (eC .non))) (eBin pIs (eVar 0) (eC .non)) (eAnd (eIsi Tb [.ty "bool"] (eVar 0)) (eBin pEq (eBin pIs (eVar 0) (eC (.bl true))) (eBin pIs (eVar 1) (eC (.bl true))))))) sNext)
  (sSeq (sIf (eTru (eIsi Tb [.ty "int"] (eVar 1))) (sRet (eAnd (eIsi Tb [.ty "int"] (eVar 0)) (eAnd (eNot (eIsi Tb [.ty "bool"] (eVar 0))) (eBin pEq (eVar 0) (eVar 1))))) sNext)
  (sSeq (sIf (eTru (eIsi Tb [.ty "str"] (eVar 1))) (sRet (eAnd (eIsi Tb [.ty "str"] (eVar 0)) (eBin pEq (eVar 0) (eVar 1)))) sNext)
  (sSeq (sIf (bOr (bNot (eTru (eIsi Tb [.ty "list", .ty "tuple"] (eVar 0)))) (bOr (asB (eBin pNe (eIsi Tb [.ty "list"] (eVar 0)) (eIsi Tb [.ty "list"] (eVar 1)))) (asB (eBin pNe (eCallB pLen (aCons (eVar 0) aNil)) (eCallB pLen (aCons (eVar 1) aNil)))))) (sRet (eC (.bl false))) sNext)
  (sRet (eBin pEq (eLc (itRange (aCons (eCallB pLen (aCons (eVar 1) aNil)) aNil)) (gNm 2) (bNot (eTru (eCall (g__law_same n) (aCons (eBin pIx (eVar 0) (eVar 2)) (aCons (eBin pIx (eVar 1) (eVar 2)) aNil))))) (eVar 2) [2]) (eLst aNil)))))))
def N__law_blamed : List Str := ["given", "value"]
noncomputable def g__law_blamed : List D → M D := fnD N__law_blamed.length 2 (sSeq (sIf (bNot (eTru (eCall (g__law_same 12) (aCons (eVar 0) (aCons (eVar 1) aNil))))) (sRet (eC (.bl false))) sNext)
  (sSeq (sIf (eTru (eIsi Tb [.ty "list"] (eVar 1))) (sExpr (eMthL pAppend (eVar 1) (aCons (eC (.int 7)) aNil))) sNext)
  (sRet (eCall (g__law_same 12) (aCons (eVar 0) (aCons (eVar 1) aNil))))))
def N__law_value : List Str := ["box", "values"]
noncomputable def g__law_value : List D → M D := fnD N__law_value.length 1 (sSeq (sSet 1 (eLst (aCons (eC .non) (aCons (eC (.bl true)) (aCons (eC (.bl false)) (aCons (eC (.int 0)) (aCons (eNeg (eC (.int 7))) (aCons (eC (.int 10000000000000000000)) (aCons (eC (.str "")) (aCons (eC (.str "fork")) (aCons (eLst aNil) (aCons (eLst (aCons (eC (.int 1)) (aCons (eLst (aCons (eC (.int 2)) aNil)) aNil))) (aCons (eTup aNil) (aCons (eTup (aCons (eC (.int 1)) (aCons (eC (.int 2)) aNil))) (aCons (eTup (aCons (eC (.str "then")) (aCons (eTup (aCons (eC (.str "wire")) aNil)) (aCons (eTup (aCons (eC (.str "wire")) aNil)) aNil)))) (aCons (eC (.str "a ; b")) aNil))))))))))))))))
  (sRet (eBin pIx (eVar 1) (eCall g__law_take (aCons (eVar 0) (aCons (eC (.int 14)) aNil))))))
def N__law_made_3 : List Str := ["k", "one", "other", "by_name"]
noncomputable def g__law_made_3 : List D → M D := fnD N__law_made_3.length 4 (sSeq (sIf (asB (eBin pEq (eVar 0) (eC (.int 42)))) (sRet (eIf (eTru (eVar 3)) (eMkKw 43 1 [0] (aCons (eVar 1) aNil)) (eMk 43 1 (aCons (eVar 1) aNil)))) sNext)
  (sSeq (sIf (asB (eBin pEq (eVar 0) (eC (.int 43)))) (sRet (eIf (eTru (eVar 3)) (eMkKw 44 1 [0] (aCons (eVar 1) aNil)) (eMk 44 1 (aCons (eVar 1) aNil)))) sNext)
  (sSeq (sIf (asB (eBin pEq (eVar 0) (eC (.int 44)))) (sRet (eIf (eTru (eVar 3)) (eMkKw 45 1 [0] (aCons (eVar 1) aNil)) (eMk 45 1 (aCons (eVar 1) aNil)))) sNext)
  (sSeq (sIf (asB (eBin pEq (eVar 0) (eC (.int 45)))) (sRet (eMk 46 0 aNil)) sNext)
  (sSeq (sIf (asB (eBin pEq (eVar 0) (eC (.int 46)))) (sRet (eMk 47 0 aNil)) sNext)
  (sSeq (sIf (asB (eBin pEq (eVar 0) (eC (.int 47)))) (sRet (eMk 48 0 aNil)) sNext)
  (sSeq (sIf (asB (eBin pEq (eVar 0) (eC (.int 48)))) (sRet (eIf (eTru (eVar 3)) (eMkKw 49 1 [0] (aCons (eVar 1) aNil)) (eMk 49 1 (aCons (eVar 1) aNil)))) sNext)
  (sSeq (sIf (asB (eBin pEq (eVar 0) (eC (.int 49)))) (sRet (eIf (eTru (eVar 3)) (eMkKw 50 1 [0] (aCons (eVar 1) aNil)) (eMk 50 1 (aCons (eVar 1) aNil)))) sNext)
  (sSeq (sIf (asB (eBin pEq (eVar 0) (eC (.int 50)))) (sRet (eMk 51 0 aNil)) sNext)
  (sRet (eC .non)))))))))))
def N__law_made_2 : List Str := ["k", "one", "other", "by_name"]
noncomputable def g__law_made_2 : List D → M D := fnD N__law_made_2.length 4 (sSeq (sIf (asB (eBin pEq (eVar 0) (eC (.int 28)))) (sRet (eIf (eTru (eVar 3)) (eMkKw 29 1 [0] (aCons (eVar 1) aNil)) (eMk 29 1 (aCons (eVar 1) aNil)))) sNext)
  (sSeq (sIf (asB (eBin pEq (eVar 0) (eC (.int 29)))) (sRet (eIf (eTru (eVar 3)) (eMkKw 30 1 [0] (aCons (eVar 1) aNil)) (eMk 30 1 (aCons (eVar 1) aNil)))) sNext)
  (sSeq (sIf (asB (eBin pEq (eVar 0) (eC (.int 30)))) (sRet (eIf (eTru (eVar 3)) (eMkKw 31 1 [0] (aCons (eVar 1) aNil)) (eMk 31 1 (aCons (eVar 1) aNil)))) sNext)
  (sSeq (sIf (asB (eBin pEq (eVar 0) (eC (.int 31)))) (sRet (eIf (eTru (eVar 3)) (eMkKw 32 1 [0] (aCons (eVar 1) aNil)) (eMk 32 1 (aCons (eVar 1) aNil)))) sNext)
  (sSeq (sIf (asB (eBin pEq (eVar 0) (eC (.int 32)))) (sRet (eIf (eTru (eVar 3)) (eMkKw 33 1 [0] (aCons (eVar 1) aNil)) (eMk 33 1 (aCons (eVar 1) aNil)))) sNext)
  (sSeq (sIf (asB (eBin pEq (eVar 0) (eC (.int 33)))) (sRet (eIf (eTru (eVar 3)) (eMkKw 34 1 [0] (aCons (eVar 1) aNil)) (eMk 34 1 (aCons (eVar 1) aNil)))) sNext)
  (sSeq (sIf (asB (eBin pEq (eVar 0) (eC (.int 34)))) (sRet (eIf (eTru (eVar 3)) (eMkKw 35 1 [0] (aCons (eVar 1) aNil)) (eMk 35 1 (aCons (eVar 1) aNil)))) sNext)
  (sSeq (sIf (asB (eBin pEq (eVar 0) (eC (.int 35)))) (sRet (eIf (eTru (eVar 3)) (eMkKw 36 1 [0] (aCons (eVar 1) aNil)) (eMk 36 1 (aCons (eVar 1) aNil)))) sNext)
  (sSeq (sIf (asB (eBin pEq (eVar 0) (eC (.int 36)))) (sRet (eMk 37 0 aNil)) sNext)
  (sSeq (sIf (asB (eBin pEq (eVar 0) (eC (.int 37)))) (sRet (eIf (eTru (eVar 3)) (eMkKw 38 1 [0] (aCons (eVar 1) aNil)) (eMk 38 1 (aCons (eVar 1) aNil)))) sNext)
  (sSeq (sIf (asB (eBin pEq (eVar 0) (eC (.int 38)))) (sRet (eIf (eTru (eVar 3)) (eMkKw 39 1 [0] (aCons (eVar 1) aNil)) (eMk 39 1 (aCons (eVar 1) aNil)))) sNext)
  (sSeq (sIf (asB (eBin pEq (eVar 0) (eC (.int 39)))) (sRet (eIf (eTru (eVar 3)) (eMkKw 40 1 [0] (aCons (eVar 1) aNil)) (eMk 40 1 (aCons (eVar 1) aNil)))) sNext)
  (sSeq (sIf (asB (eBin pEq (eVar 0) (eC (.int 40)))) (sRet (eIf (eTru (eVar 3)) (eMkKw 41 2 [1, 0] (aCons (eVar 2) (aCons (eVar 1) aNil))) (eMk 41 2 (aCons (eVar 1) (aCons (eVar 2) aNil))))) sNext)
  (sSeq (sIf (asB (eBin pEq (eVar 0) (eC (.int 41)))) (sRet (eIf (eTru (eVar 3)) (eMkKw 42 1 [0] (aCons (eVar 1) aNil)) (eMk 42 1 (aCons (eVar 1) aNil)))) sNext)
  (sRet (eCall g__law_made_3 (aCons (eVar 0) (aCons (eVar 1) (aCons (eVar 2) (aCons (eVar 3) aNil))))))))))))))))))))
def N__law_made_1 : List Str := ["k", "one", "other", "by_name"]
noncomputable def g__law_made_1 : List D → M D := fnD N__law_made_1.length 4 (sSeq (sIf (asB (eBin pEq (eVar 0) (eC (.int 14)))) (sRet (eIf (eTru (eVar 3)) (eMkKw 15 1 [0] (aCons (eVar 1) aNil)) (eMk 15 1 (aCons (eVar 1) aNil)))) sNext)
  (sSeq (sIf (asB (eBin pEq (eVar 0) (eC (.int 15)))) (sRet (eIf (eTru (eVar 3)) (eMkKw 16 1 [0] (aCons (eVar 1) aNil)) (eMk 16 1 (aCons (eVar 1) aNil)))) sNext)
  (sSeq (sIf (asB (eBin pEq (eVar 0) (eC (.int 16)))) (sRet (eIf (eTru (eVar 3)) (eMkKw 17 1 [0] (aCons (eVar 1) aNil)) (eMk 17 1 (aCons (eVar 1) aNil)))) sNext)
  (sSeq (sIf (asB (eBin pEq (eVar 0) (eC (.int 17)))) (sRet (eIf (eTru (eVar 3)) (eMkKw 18 1 [0] (aCons (eVar 1) aNil)) (eMk 18 1 (aCons (eVar 1) aNil)))) sNext)
  (sSeq (sIf (asB (eBin pEq (eVar 0) (eC (.int 18)))) (sRet (eIf (eTru (eVar 3)) (eMkKw 19 1 [0] (aCons (eVar 1) aNil)) (eMk 19 1 (aCons (eVar 1) aNil)))) sNext)
  (sSeq (sIf (asB (eBin pEq (eVar 0) (eC (.int 19)))) (sRet (eIf (eTru (eVar 3)) (eMkKw 20 1 [0] (aCons (eVar 1) aNil)) (eMk 20 1 (aCons (eVar 1) aNil)))) sNext)
  (sSeq (sIf (asB (eBin pEq (eVar 0) (eC (.int 20)))) (sRet (eIf (eTru (eVar 3)) (eMkKw 21 1 [0] (aCons (eVar 1) aNil)) (eMk 21 1 (aCons (eVar 1) aNil)))) sNext)
  (sSeq (sIf (asB (eBin pEq (eVar 0) (eC (.int 21)))) (sRet (eIf (eTru (eVar 3)) (eMkKw 22 1 [0] (aCons (eVar 1) aNil)) (eMk 22 1 (aCons (eVar 1) aNil)))) sNext)
  (sSeq (sIf (asB (eBin pEq (eVar 0) (eC (.int 22)))) (sRet (eIf (eTru (eVar 3)) (eMkKw 23 1 [0] (aCons (eVar 1) aNil)) (eMk 23 1 (aCons (eVar 1) aNil)))) sNext)
  (sSeq (sIf (asB (eBin pEq (eVar 0) (eC (.int 23)))) (sRet (eIf (eTru (eVar 3)) (eMkKw 24 1 [0] (aCons (eVar 1) aNil)) (eMk 24 1 (aCons (eVar 1) aNil)))) sNext)
  (sSeq (sIf (asB (eBin pEq (eVar 0) (eC (.int 24)))) (sRet (eIf (eTru (eVar 3)) (eMkKw 25 1 [0] (aCons (eVar 1) aNil)) (eMk 25 1 (aCons (eVar 1) aNil)))) sNext)
  (sSeq (sIf (asB (eBin pEq (eVar 0) (eC (.int 25)))) (sRet (eIf (eTru (eVar 3)) (eMkKw 26 1 [0] (aCons (eVar 1) aNil)) (eMk 26 1 (aCons (eVar 1) aNil)))) sNext)
  (sSeq (sIf (asB (eBin pEq (eVar 0) (eC (.int 26)))) (sRet (eIf (eTru (eVar 3)) (eMkKw 27 1 [0] (aCons (eVar 1) aNil)) (eMk 27 1 (aCons (eVar 1) aNil)))) sNext)
  (sSeq (sIf (asB (eBin pEq (eVar 0) (eC (.int 27)))) (sRet (eIf (eTru (eVar 3)) (eMkKw 28 1 [0] (aCons (eVar 1) aNil)) (eMk 28 1 (aCons (eVar 1) aNil)))) sNext)
  (sRet (eCall g__law_made_2 (aCons (eVar 0) (aCons (eVar 1) (aCons (eVar 2) (aCons (eVar 3) aNil))))))))))))))))))))
def N__law_made_0 : List Str := ["k", "one", "other", "by_name"]
noncomputable def g__law_made_0 : List D → M D := fnD N__law_made_0.length 4 (sSeq (sIf (asB (eBin pEq (eVar 0) (eC (.int 0)))) (sRet (eIf (eTru (eVar 3)) (eMkKw 1 1 [0] (aCons (eVar 1) aNil)) (eMk 1 1 (aCons (eVar 1) aNil)))) sNext)
  (sSeq (sIf (asB (eBin pEq (eVar 0) (eC (.int 1)))) (sRet (eIf (eTru (eVar 3)) (eMkKw 2 1 [0] (aCons (eVar 1) aNil)) (eMk 2 1 (aCons (eVar 1) aNil)))) sNext)
  (sSeq (sIf (asB (eBin pEq (eVar 0) (eC (.int 2)))) (sRet (eIf (eTru (eVar 3)) (eMkKw 3 1 [0] (aCons (eVar 1) aNil)) (eMk 3 1 (aCons (eVar 1) aNil)))) sNext)
  (sSeq (sIf (asB (eBin pEq (eVar 0) (eC (.int 3)))) (sRet (eIf (eTru (eVar 3)) (eMkKw 4 1 [0] (aCons (eVar 1) aNil)) (eMk 4 1 (aCons (eVar 1) aNil)))) sNext)
  (sSeq (sIf (asB (eBin pEq (eVar 0) (eC (.int 4)))) (sRet (eIf (eTru (eVar 3)) (eMkKw 5 1 [0] (aCons (eVar 1) aNil)) (eMk 5 1 (aCons (eVar 1) aNil)))) sNext)
  (sSeq (sIf (asB (eBin pEq (eVar 0) (eC (.int 5)))) (sRet (eIf (eTru (eVar 3)) (eMkKw 6 1 [0] (aCons (eVar 1) aNil)) (eMk 6 1 (aCons (eVar 1) aNil)))) sNext)
  (sSeq (sIf (asB (eBin pEq (eVar 0) (eC (.int 6)))) (sRet (eIf (eTru (eVar 3)) (eMkKw 7 1 [0] (aCons (eVar 1) aNil)) (eMk 7 1 (aCons (eVar 1) aNil)))) sNext)
  (sSeq (sIf (asB (eBin pEq (eVar 0) (eC (.int 7)))) (sRet (eIf (eTru (eVar 3)) (eMkKw 8 1 [0] (aCons (eVar 1) aNil)) (eMk 8 1 (aCons (eVar 1) aNil)))) sNext)
  (sSeq (sIf (asB (eBin pEq (eVar 0) (eC (.int 8)))) (sRet (eIf (eTru (eVar 3)) (eMkKw 9 1 [0] (aCons (eVar 1) aNil)) (eMk 9 1 (aCons (eVar 1) aNil)))) sNext)
  (sSeq (sIf (asB (eBin pEq (eVar 0) (eC (.int 9)))) (sRet (eIf (eTru (eVar 3)) (eMkKw 10 1 [0] (aCons (eVar 1) aNil)) (eMk 10 1 (aCons (eVar 1) aNil)))) sNext)
  (sSeq (sIf (asB (eBin pEq (eVar 0) (eC (.int 10)))) (sRet (eIf (eTru (eVar 3)) (eMkKw 11 1 [0] (aCons (eVar 1) aNil)) (eMk 11 1 (aCons (eVar 1) aNil)))) sNext)
  (sSeq (sIf (asB (eBin pEq (eVar 0) (eC (.int 11)))) (sRet (eIf (eTru (eVar 3)) (eMkKw 12 1 [0] (aCons (eVar 1) aNil)) (eMk 12 1 (aCons (eVar 1) aNil)))) sNext)
  (sSeq (sIf (asB (eBin pEq (eVar 0) (eC (.int 12)))) (sRet (eIf (eTru (eVar 3)) (eMkKw 13 1 [0] (aCons (eVar 1) aNil)) (eMk 13 1 (aCons (eVar 1) aNil)))) sNext)
  (sSeq (sIf (asB (eBin pEq (eVar 0) (eC (.int 13)))) (sRet (eIf (eTru (eVar 3)) (eMkKw 14 1 [0] (aCons (eVar 1) aNil)) (eMk 14 1 (aCons (eVar 1) aNil)))) sNext)
  (sRet (eCall g__law_made_1 (aCons (eVar 0) (aCons (eVar 1) (aCons (eVar 2) (aCons (eVar 3) aNil))))))))))))))))))))
def N__law_is_2 : List Str := ["k", "error"]
noncomputable def g__law_is_2 : List D → M D := fnD N__law_is_2.length 2 (sSeq (sIf (asB (eBin pEq (eVar 0) (eC (.int 50)))) (sRet (eIsi Tb [.own 51] (eVar 1))) sNext)
  (sRet (eC (.bl false))))
def N__law_is_1 : List Str := ["k", "error"]
noncomputable def g__law_is_1 : List D → M D := fnD N__law_is_1.length 2 (sSeq (sIf (asB (eBin pEq (eVar 0) (eC (.int 25)))) (sRet (eIsi Tb [.own 26] (eVar 1))) sNext)
  (sSeq (sIf (asB (eBin pEq (eVar 0) (eC (.int 26)))) (sRet (eIsi Tb [.own 27] (eVar 1))) sNext)
  (sSeq (sIf (asB (eBin pEq (eVar 0) (eC (.int 27)))) (sRet (eIsi Tb [.own 28] (eVar 1))) sNext)
  (sSeq (sIf (asB (eBin pEq (eVar 0) (eC (.int 28)))) (sRet (eIsi Tb [.own 29] (eVar 1))) sNext)
  (sSeq (sIf (asB (eBin pEq (eVar 0) (eC (.int 29)))) (sRet (eIsi Tb [.own 30] (eVar 1))) sNext)
  (sSeq (sIf (asB (eBin pEq (eVar 0) (eC (.int 30)))) (sRet (eIsi Tb [.own 31] (eVar 1))) sNext)
  (sSeq (sIf (asB (eBin pEq (eVar 0) (eC (.int 31)))) (sRet (eIsi Tb [.own 32] (eVar 1))) sNext)
  (sSeq (sIf (asB (eBin pEq (eVar 0) (eC (.int 32)))) (sRet (eIsi Tb [.own 33] (eVar 1))) sNext)
  (sSeq (sIf (asB (eBin pEq (eVar 0) (eC (.int 33)))) (sRet (eIsi Tb [.own 34] (eVar 1))) sNext)
  (sSeq (sIf (asB (eBin pEq (eVar 0) (eC (.int 34)))) (sRet (eIsi Tb [.own 35] (eVar 1))) sNext)
  (sSeq (sIf (asB (eBin pEq (eVar 0) (eC (.int 35)))) (sRet (eIsi Tb [.own 36] (eVar 1))) sNext)
  (sSeq (sIf (asB (eBin pEq (eVar 0) (eC (.int 36)))) (sRet (eIsi Tb [.own 37] (eVar 1))) sNext)
  (sSeq (sIf (asB (eBin pEq (eVar 0) (eC (.int 37)))) (sRet (eIsi Tb [.own 38] (eVar 1))) sNext)
  (sSeq (sIf (asB (eBin pEq (eVar 0) (eC (.int 38)))) (sRet (eIsi Tb [.own 39] (eVar 1))) sNext)
  (sSeq (sIf (asB (eBin pEq (eVar 0) (eC (.int 39)))) (sRet (eIsi Tb [.own 40] (eVar 1))) sNext)
  (sSeq (sIf (asB (eBin pEq (eVar 0) (eC (.int 40)))) (sRet (eIsi Tb [.own 41] (eVar 1))) sNext)
  (sSeq (sIf (asB (eBin pEq (eVar 0) (eC (.int 41)))) (sRet (eIsi Tb [.own 42] (eVar 1))) sNext)
  (sSeq (sIf (asB (eBin pEq (eVar 0) (eC (.int 42)))) (sRet (eIsi Tb [.own 43] (eVar 1))) sNext)
  (sSeq (sIf (asB (eBin pEq (eVar 0) (eC (.int 43)))) (sRet (eIsi Tb [.own 44] (eVar 1))) sNext)
  (sSeq (sIf (asB (eBin pEq (eVar 0) (eC (.int 44)))) (sRet (eIsi Tb [.own 45] (eVar 1))) sNext)
  (sSeq (sIf (asB (eBin pEq (eVar 0) (eC (.int 45)))) (sRet (eIsi Tb [.own 46] (eVar 1))) sNext)
  (sSeq (sIf (asB (eBin pEq (eVar 0) (eC (.int 46)))) (sRet (eIsi Tb [.own 47] (eVar 1))) sNext)
  (sSeq (sIf (asB (eBin pEq (eVar 0) (eC (.int 47)))) (sRet (eIsi Tb [.own 48] (eVar 1))) sNext)
  (sSeq (sIf (asB (eBin pEq (eVar 0) (eC (.int 48)))) (sRet (eIsi Tb [.own 49] (eVar 1))) sNext)
  (sSeq (sIf (asB (eBin pEq (eVar 0) (eC (.int 49)))) (sRet (eIsi Tb [.own 50] (eVar 1))) sNext)
  (sRet (eCall g__law_is_2 (aCons (eVar 0) (aCons (eVar 1) aNil)))))))))))))))))))))))))))))
def N__law_is_0 : List Str := ["k", "error"]
noncomputable def g__law_is_0 : List D → M D := fnD N__law_is_0.length 2 (sSeq (sIf (asB (eBin pEq (eVar 0) (eC (.int 0)))) (sRet (eIsi Tb [.own 1] (eVar 1))) sNext)
  (sSeq (sIf (asB (eBin pEq (eVar 0) (eC (.int 1)))) (sRet (eIsi Tb [.own 2] (eVar 1))) sNext)
  (sSeq (sIf (asB (eBin pEq (eVar 0) (eC (.int 2)))) (sRet (eIsi Tb [.own 3] (eVar 1))) sNext)
  (sSeq (sIf (asB (eBin pEq (eVar 0) (eC (.int 3)))) (sRet (eIsi Tb [.own 4] (eVar 1))) sNext)
  (sSeq (sIf (asB (eBin pEq (eVar 0) (eC (.int 4)))) (sRet (eIsi Tb [.own 5] (eVar 1))) sNext)
  (sSeq (sIf (asB (eBin pEq (eVar 0) (eC (.int 5)))) (sRet (eIsi Tb [.own 6] (eVar 1))) sNext)
  (sSeq (sIf (asB (eBin pEq (eVar 0) (eC (.int 6)))) (sRet (eIsi Tb [.own 7] (eVar 1))) sNext)
  (sSeq (sIf (asB (eBin pEq (eVar 0) (eC (.int 7)))) (sRet (eIsi Tb [.own 8] (eVar 1))) sNext)
  (sSeq (sIf (asB (eBin pEq (eVar 0) (eC (.int 8)))) (sRet (eIsi Tb [.own 9] (eVar 1))) sNext)
  (sSeq (sIf (asB (eBin pEq (eVar 0) (eC (.int 9)))) (sRet (eIsi Tb [.own 10] (eVar 1))) sNext)
  (sSeq (sIf (asB (eBin pEq (eVar 0) (eC (.int 10)))) (sRet (eIsi Tb [.own 11] (eVar 1))) sNext)
  (sSeq (sIf (asB (eBin pEq (eVar 0) (eC (.int 11)))) (sRet (eIsi Tb [.own 12] (eVar 1))) sNext)
  (sSeq (sIf (asB (eBin pEq (eVar 0) (eC (.int 12)))) (sRet (eIsi Tb [.own 13] (eVar 1))) sNext)
  (sSeq (sIf (asB (eBin pEq (eVar 0) (eC (.int 13)))) (sRet (eIsi Tb [.own 14] (eVar 1))) sNext)
  (sSeq (sIf (asB (eBin pEq (eVar 0) (eC (.int 14)))) (sRet (eIsi Tb [.own 15] (eVar 1))) sNext)
  (sSeq (sIf (asB (eBin pEq (eVar 0) (eC (.int 15)))) (sRet (eIsi Tb [.own 16] (eVar 1))) sNext)
  (sSeq (sIf (asB (eBin pEq (eVar 0) (eC (.int 16)))) (sRet (eIsi Tb [.own 17] (eVar 1))) sNext)
  (sSeq (sIf (asB (eBin pEq (eVar 0) (eC (.int 17)))) (sRet (eIsi Tb [.own 18] (eVar 1))) sNext)
  (sSeq (sIf (asB (eBin pEq (eVar 0) (eC (.int 18)))) (sRet (eIsi Tb [.own 19] (eVar 1))) sNext)
  (sSeq (sIf (asB (eBin pEq (eVar 0) (eC (.int 19)))) (sRet (eIsi Tb [.own 20] (eVar 1))) sNext)
  (sSeq (sIf (asB (eBin pEq (eVar 0) (eC (.int 20)))) (sRet (eIsi Tb [.own 21] (eVar 1))) sNext)
  (sSeq (sIf (asB (eBin pEq (eVar 0) (eC (.int 21)))) (sRet (eIsi Tb [.own 22] (eVar 1))) sNext)
  (sSeq (sIf (asB (eBin pEq (eVar 0) (eC (.int 22)))) (sRet (eIsi Tb [.own 23] (eVar 1))) sNext)
  (sSeq (sIf (asB (eBin pEq (eVar 0) (eC (.int 23)))) (sRet (eIsi Tb [.own 24] (eVar 1))) sNext)
  (sSeq (sIf (asB (eBin pEq (eVar 0) (eC (.int 24)))) (sRet (eIsi Tb [.own 25] (eVar 1))) sNext)
  (sRet (eCall g__law_is_1 (aCons (eVar 0) (aCons (eVar 1) aNil)))))))))))))))))))))))))))))
def N__law_fields : List Str := ["k", "error"]
noncomputable def g__law_fields : List D → M D := fnD N__law_fields.length 2 (sSeq (sIf (asB (eBin (pIn false) (eVar 0) (eTup (aCons (eC (.int 35)) aNil)))) (sRet (eLst (aCons (eAtt Tb ("row" : Str) (eVar 1)) aNil))) sNext)
  (sSeq (sIf (asB (eBin (pIn false) (eVar 0) (eTup (aCons (eC (.int 36)) (aCons (eC (.int 45)) (aCons (eC (.int 46)) (aCons (eC (.int 47)) (aCons (eC (.int 50)) aNil)))))))) (sRet (eLst aNil)) sNext)
  (sSeq (sIf (asB (eBin (pIn false) (eVar 0) (eTup (aCons (eC (.int 37)) aNil)))) (sRet (eLst (aCons (eAtt Tb ("line" : Str) (eVar 1)) aNil))) sNext)
  (sSeq (sIf (asB (eBin (pIn false) (eVar 0) (eTup (aCons (eC (.int 38)) (aCons (eC (.int 41)) (aCons (eC (.int 43)) aNil)))))) (sRet (eLst (aCons (eAtt Tb ("index" : Str) (eVar 1)) aNil))) sNext)
  (sSeq (sIf (asB (eBin (pIn false) (eVar 0) (eTup (aCons (eC (.int 39)) (aCons (eC (.int 49)) aNil))))) (sRet (eLst (aCons (eAtt Tb ("name" : Str) (eVar 1)) aNil))) sNext)
  (sSeq (sIf (asB (eBin (pIn false) (eVar 0) (eTup (aCons (eC (.int 40)) aNil)))) (sRet (eLst (aCons (eAtt Tb ("going" : Str) (eVar 1)) (aCons (eAtt Tb ("coming" : Str) (eVar 1)) aNil)))) sNext)
  (sSeq (sIf (asB (eBin (pIn false) (eVar 0) (eTup (aCons (eC (.int 42)) aNil)))) (sRet (eLst (aCons (eAtt Tb ("bound" : Str) (eVar 1)) aNil))) sNext)
  (sSeq (sIf (asB (eBin (pIn false) (eVar 0) (eTup (aCons (eC (.int 44)) aNil)))) (sRet (eLst (aCons (eAtt Tb ("path" : Str) (eVar 1)) aNil))) sNext)
  (sSeq (sIf (asB (eBin (pIn false) (eVar 0) (eTup (aCons (eC (.int 48)) aNil)))) (sRet (eLst (aCons (eAtt Tb ("count" : Str) (eVar 1)) aNil))) sNext)
  (sRet (eLst (aCons (eAtt Tb ("given" : Str) (eVar 1)) aNil))))))))))))
def N__law_raised : List Str := ["k", "one", "other"]
noncomputable def g__law_raised : List D → M D := fnD N__law_raised.length 3 (sSeq (sIf (asB (eBin pEq (eVar 0) (eC (.int 2)))) (sRaise 3 1 (aCons (eVar 1) aNil)) sNext)
  (sSeq (sIf (asB (eBin pEq (eVar 0) (eC (.int 5)))) (sRaise 6 1 (aCons (eVar 1) aNil)) sNext)
  (sSeq (sIf (asB (eBin pEq (eVar 0) (eC (.int 8)))) (sRaise 9 1 (aCons (eVar 1) aNil)) sNext)
  (sSeq (sIf (asB (eBin pEq (eVar 0) (eC (.int 11)))) (sRaise 12 1 (aCons (eVar 1) aNil)) sNext)
  (sSeq (sIf (asB (eBin pEq (eVar 0) (eC (.int 14)))) (sRaise 15 1 (aCons (eVar 1) aNil)) sNext)
  (sSeq (sIf (asB (eBin pEq (eVar 0) (eC (.int 17)))) (sRaise 18 1 (aCons (eVar 1) aNil)) sNext)
  (sSeq (sIf (asB (eBin pEq (eVar 0) (eC (.int 20)))) (sRaise 21 1 (aCons (eVar 1) aNil)) sNext)
  (sSeq (sIf (asB (eBin pEq (eVar 0) (eC (.int 23)))) (sRaise 24 1 (aCons (eVar 1) aNil)) sNext)
  (sSeq (sIf (asB (eBin pEq (eVar 0) (eC (.int 26)))) (sRaise 27 1 (aCons (eVar 1) aNil)) sNext)
  (sSeq (sIf (asB (eBin pEq (eVar 0) (eC (.int 29)))) (sRaise 30 1 (aCons (eVar 1) aNil)) sNext)
  (sSeq (sIf (asB (eBin pEq (eVar 0) (eC (.int 32)))) (sRaise 33 1 (aCons (eVar 1) aNil)) sNext)
  (sSeq (sIf (asB (eBin pEq (eVar 0) (eC (.int 35)))) (sRaise 36 1 (aCons (eVar 1) aNil)) sNext)
  (sSeq (sIf (asB (eBin pEq (eVar 0) (eC (.int 38)))) (sRaise 39 1 (aCons (eVar 1) aNil)) sNext)
  (sSeq (sIf (asB (eBin pEq (eVar 0) (eC (.int 41)))) (sRaise 42 1 (aCons (eVar 1) aNil)) sNext)
  (sSeq (sIf (asB (eBin pEq (eVar 0) (eC (.int 44)))) (sRaise 45 1 (aCons (eVar 1) aNil)) sNext)
  (sSeq (sIf (asB (eBin pEq (eVar 0) (eC (.int 47)))) (sRaise 48 0 aNil) sNext)
  (sSeq (sIf (asB (eBin pEq (eVar 0) (eC (.int 50)))) (sRaise 51 0 aNil) sNext)
  (sRaise 1 1 (aCons (eVar 1) aNil)))))))))))))))))))
def N__law_caught_right : List Str := ["box", "turn", "k", "one", "other", "told", "e", "found", "at"]
noncomputable def g__law_caught_right : List D → M D := fnD N__law_caught_right.length 1 (sSeq (sPar3 2 3 4 (aCons (eCall g__law_take (aCons (eVar 0) (aCons (eC (.int 51)) aNil))) (aCons (eCall g__law_value (aCons (eVar 0) aNil)) (aCons (eCall g__law_value (aCons (eVar 0) aNil)) aNil))))
  (sSeq (sFor (itRange (aCons (eC (.int 2)) aNil)) (gNm 1) (sSeq (sSet 5 (eC .non))
  (sSeq (sTry Tb (sExpr (eCall g__law_raised (aCons (eVar 2) (aCons (eVar 3) (aCons (eVar 4) aNil))))) [⟨0, 6, (sSet 5 (eVar 6))⟩])
  (sSeq (sIf (bOr (asB (eBin pIs (eVar 5) (eC .non))) (bNot (eTru (eIsi Tb [.ty "ValueError"] (eVar 5))))) (sRet (eC (.bl false))) sNext)
  (sSeq (sSet 7 (eLc (itRange (aCons (eC (.int 51)) aNil)) (gNm 8) (eTru (eCall g__law_is_0 (aCons (eVar 8) (aCons (eVar 5) aNil)))) (eVar 8) [8]))
  (sIf (bOr (asB (eBin pNe (eCallB pLen (aCons (eVar 7) aNil)) (eC (.int 1)))) (bAnd (asB (eBin pNe (eVar 7) (eLst (aCons (eVar 2) aNil)))) (asB (eBin pNe (eVar 7) (eLst (aCons (eC (.int 0)) aNil)))))) (sRet (eC (.bl false))) sNext))))))
  (sRet (eC (.bl true)))))
def N__law_deep : List Str := ["value"]
noncomputable def g__law_deep : List D → M D := fnD N__law_deep.length 1 (sRet (eIf (eTru (eIsi Tb [.ty "list"] (eVar 0))) (eCallB pList (aCons (eVar 0) aNil)) (eVar 0)))
def N__law_class_right : List Str := ["box", "k", "error", "fields", "again", "one", "other", "way", "value", "field", "at"]
noncomputable def g__law_class_right : List D → M D := fnD N__law_class_right.length 2 (sSeq (sPar3 5 6 7 (aCons (eCall g__law_value (aCons (eVar 0) aNil)) (aCons (eCall g__law_value (aCons (eVar 0) aNil)) (aCons (eCall g__law_take (aCons (eVar 0) (aCons (eC (.int 2)) aNil))) aNil))))
  (sSeq (sAsg (eLst (aCons (eCall g__law_deep (aCons (eVar 5) aNil)) (aCons (eCall g__law_deep (aCons (eVar 6) aNil)) aNil))) (gTupD 2 (gsCons (gNm 5) (gsCons (gNm 6) gsNil))))
  (sSeq (sSet 2 (eBin pIx (eLst (aCons (eCall g__law_made_0 (aCons (eVar 1) (aCons (eVar 5) (aCons (eVar 6) (aCons (eBin pEq (eVar 7) (eC (.int 0))) aNil))))) (aCons (eCall g__law_made_0 (aCons (eVar 1) (aCons (eC (.int 5)) (aCons (eC (.str "x")) (aCons (eBin pEq (eVar 7) (eC (.int 1))) aNil))))) aNil))) (eC (.int 0))))
  (sSeq (sIf (bOr (bNot (eTru (eIsi Tb [.own 0] (eVar 2)))) (bNot (eTru (eIsi Tb [.ty "ValueError"] (eVar 2))))) (sRet (eC (.bl false))) sNext)
  (sSeq (sIf (asB (eBin pNe (eLc (itRange (aCons (eC (.int 51)) aNil)) (gNm 10) (asB (eBin pNe (eCall g__law_is_0 (aCons (eVar 10) (aCons (eVar 2) aNil))) (eBin pEq (eVar 10) (eVar 1)))) (eVar 10) [10]) (eLst aNil))) (sRet (eC (.bl false))) sNext)
  (sSeq (sSet 3 (eCall g__law_fields (aCons (eVar 1) (aCons (eVar 2) aNil))))
  (sSeq (sIf (bNot (eTru (eCall (g__law_same 12) (aCons (eVar 3) (aCons (eSl (eLst (aCons (eVar 5) (aCons (eVar 6) aNil))) oNone (oSome (eCallB pLen (aCons (eVar 3) aNil)))) aNil))))) (sRet (eC (.bl false))) sNext)
  (sSeq (sFor (itZip (aCons (eLst (aCons (eVar 5) (aCons (eVar 6) aNil))) (aCons (eVar 3) aNil))) (gTupD 2 (gsCons (gNm 8) (gsCons (gNm 9) gsNil))) (sIf (bNot (eTru (eCall g__law_blamed (aCons (eVar 9) (aCons (eVar 8) aNil))))) (sRet (eC (.bl false))) sNext))
  (sSeq (sSet 4 (eCall g__law_made_0 (aCons (eVar 1) (aCons (eC (.int 5)) (aCons (eC (.str "x")) (aCons (eBin pEq (eVar 7) (eC (.int 0))) aNil))))))
  (sRet (eAnd (eCall (g__law_same 12) (aCons (eCall g__law_fields (aCons (eVar 1) (aCons (eVar 4) aNil))) (aCons (eSl (eLst (aCons (eC (.int 5)) (aCons (eC (.str "x")) aNil))) oNone (oSome (eCallB pLen (aCons (eVar 3) aNil)))) aNil))) (eCall (g__law_same 12) (aCons (eCall g__law_fields (aCons (eVar 1) (aCons (eVar 2) aNil))) (aCons (eSl (eLst (aCons (eVar 5) (aCons (eVar 6) aNil))) oNone (oSome (eCallB pLen (aCons (eVar 3) aNil)))) aNil))))))))))))))
def N_law : List Str := ["script", "k", "box", "first", "step"]
noncomputable def g_law : List D → M D := fnD N_law.length 1 (sSeq (sFor (itRange (aCons (eCallB pMax2 (aCons (eC (.int 3)) (aCons (eCallB pMin2 (aCons (eCallB pLen (aCons (eVar 0) aNil)) (aCons (eC (.int 6)) aNil))) aNil))) aNil)) (gNm 1) (sSeq (sSet 2 (eCall g__law_box (aCons (eCall g__law_cell (aCons (eVar 0) (aCons (eVar 1) aNil))) aNil)))
  (sSeq (sSet 3 (eCall g__law_take (aCons (eVar 2) (aCons (eC (.int 51)) aNil))))
  (sSeq (sFor (itRange (aCons (eC (.int 51)) aNil)) (gNm 4) (sIf (bNot (eTru (eCall g__law_class_right (aCons (eVar 2) (aCons (eBin pMod (eCallB pInt (aCons (eBin pAdd (eVar 3) (eVar 4)) aNil)) (eC (.int 51))) aNil))))) (sRet (eC (.bl false))) sNext))
  (sIf (bOr (bNot (eTru (eCall g__law_caught_right (aCons (eVar 2) aNil)))) (bNot (eTru (eCall g__law_caught_right (aCons (eVar 2) aNil))))) (sRet (eC (.bl false))) sNext)))))
  (sRet (eC (.bl true))))
end Kk99
end Lay

set_option Elab.async false
set_option linter.all false
set_option maxRecDepth 100000
set_option maxHeartbeats 4000000
/-! the derivations -/
namespace Lay
namespace Kk99
open PySem PySem.Spec PyProof.Rows L2
section
variable {P : Program} {w : World} {K : PySem.W.Frag} {mg : Str → Option Value} {base : Heap}
abbrev ZF (K : PySem.W.Frag) (mg : Str → Option Value) (base : Heap) : Prop := PF fa fn ex K mg base
theorem exAt (Z : ZF K mg base) (i : Nat) {b : Bool} (h : (exs K)[i]? = some b := by rfl) : b = true := by
  have z := List.all_eq_true.mp (show (exs K).all id = true from (by have z := Z.x; simp only [ex, ex_0, ex_1, ex_2, ex_3, ex_4, ex_5, ex_6, ex_7] at z; simp only [exs, List.all_append]; exact z)) b (List.mem_of_getElem? h)
  exact z
theorem xc (Z : ZF K mg base) : XcAll ⟨K, Tb⟩ := xcAllB_ok (exAt Z 0)
theorem fld (Z : ZF K mg base) : FldAll ⟨K, Tb⟩ := fldB_ok (exAt Z 1)
theorem ini (Z : ZF K mg base) : IniOk K (He.ga K "SayError") := iniB_ok (exAt Z 2)
theorem exm_all (Z : ZF K mg base) : ∀ c ∈ [0], exmB ⟨K, Tb⟩ c = true := fun c hc => List.all_eq_true.mp (exAt Z 4) c hc
theorem exm_of {l : List HdD} (Z : ZF K mg base) (h : (l.all fun h => [0].contains h.c) = true := by rfl) : ∀ h ∈ l, exmB ⟨K, Tb⟩ h.c = true := fun x hx => exm_all Z x.c (by simpa using List.all_eq_true.mp h x hx)
theorem isi_0 (Z : ZF K mg base) : isi1B ⟨K, Tb⟩ (.ty "bool") = true := exAt Z 6
theorem isi_1 (Z : ZF K mg base) : isi1B ⟨K, Tb⟩ (.ty "int") = true := exAt Z 7
theorem isi_2 (Z : ZF K mg base) : isi1B ⟨K, Tb⟩ (.ty "str") = true := exAt Z 8
theorem isi_3 (Z : ZF K mg base) : isiB ⟨K, Tb⟩ [.ty "list", .ty "tuple"] = true := exAt Z 9
theorem isi_4 (Z : ZF K mg base) : isi1B ⟨K, Tb⟩ (.ty "list") = true := exAt Z 10
theorem isi_5 (Z : ZF K mg base) : isi1B ⟨K, Tb⟩ (.own 51) = true := isi_own_ok (exAt Z 5) (show 51 < Tb.length by decide)
theorem isi_6 (Z : ZF K mg base) : isi1B ⟨K, Tb⟩ (.own 26) = true := isi_own_ok (exAt Z 5) (show 26 < Tb.length by decide)
theorem isi_7 (Z : ZF K mg base) : isi1B ⟨K, Tb⟩ (.own 27) = true := isi_own_ok (exAt Z 5) (show 27 < Tb.length by decide)
theorem isi_8 (Z : ZF K mg base) : isi1B ⟨K, Tb⟩ (.own 28) = true := isi_own_ok (exAt Z 5) (show 28 < Tb.length by decide)
theorem isi_9 (Z : ZF K mg base) : isi1B ⟨K, Tb⟩ (.own 29) = true := isi_own_ok (exAt Z 5) (show 29 < Tb.length by decide)
theorem isi_10 (Z : ZF K mg base) : isi1B ⟨K, Tb⟩ (.own 30) = true := isi_own_ok (exAt Z 5) (show 30 < Tb.length by decide)
theorem isi_11 (Z : ZF K mg base) : isi1B ⟨K, Tb⟩ (.own 31) = true := isi_own_ok (exAt Z 5) (show 31 < Tb.length by decide)
theorem isi_12 (Z : ZF K mg base) : isi1B ⟨K, Tb⟩ (.own 32) = true := isi_own_ok (exAt Z 5) (show 32 < Tb.length by decide)
theorem isi_13 (Z : ZF K mg base) : isi1B ⟨K, Tb⟩ (.own 33) = true := isi_own_ok (exAt Z 5) (show 33 < Tb.length by decide)
theorem isi_14 (Z : ZF K mg base) : isi1B ⟨K, Tb⟩ (.own 34) = true := isi_own_ok (exAt Z 5) (show 34 < Tb.length by decide)
theorem isi_15 (Z : ZF K mg base) : isi1B ⟨K, Tb⟩ (.own 35) = true := isi_own_ok (exAt Z 5) (show 35 < Tb.length by decide)
theorem isi_16 (Z : ZF K mg base) : isi1B ⟨K, Tb⟩ (.own 36) = true := isi_own_ok (exAt Z 5) (show 36 < Tb.length by decide)
theorem isi_17 (Z : ZF K mg base) : isi1B ⟨K, Tb⟩ (.own 37) = true := isi_own_ok (exAt Z 5) (show 37 < Tb.length by decide)
theorem isi_18 (Z : ZF K mg base) : isi1B ⟨K, Tb⟩ (.own 38) = true := isi_own_ok (exAt Z 5) (show 38 < Tb.length by decide)
theorem isi_19 (Z : ZF K mg base) : isi1B ⟨K, Tb⟩ (.own 39) = true := isi_own_ok (exAt Z 5) (show 39 < Tb.length by decide)
theorem isi_20 (Z : ZF K mg base) : isi1B ⟨K, Tb⟩ (.own 40) = true := isi_own_ok (exAt Z 5) (show 40 < Tb.length by decide)
theorem isi_21 (Z : ZF K mg base) : isi1B ⟨K, Tb⟩ (.own 41) = true := isi_own_ok (exAt Z 5) (show 41 < Tb.length by decide)
theorem isi_22 (Z : ZF K mg base) : isi1B ⟨K, Tb⟩ (.own 42) = true := isi_own_ok (exAt Z 5) (show 42 < Tb.length by decide)
theorem isi_23 (Z : ZF K mg base) : isi1B ⟨K, Tb⟩ (.own 43) = true := isi_own_ok (exAt Z 5) (show 43 < Tb.length by decide)
theorem isi_24 (Z : ZF K mg base) : isi1B ⟨K, Tb⟩ (.own 44) = true := isi_own_ok (exAt Z 5) (show 44 < Tb.length by decide)
theorem isi_25 (Z : ZF K mg base) : isi1B ⟨K, Tb⟩ (.own 45) = true := isi_own_ok (exAt Z 5) (show 45 < Tb.length by decide)
theorem isi_26 (Z : ZF K mg base) : isi1B ⟨K, Tb⟩ (.own 46) = true := isi_own_ok (exAt Z 5) (show 46 < Tb.length by decide)
theorem isi_27 (Z : ZF K mg base) : isi1B ⟨K, Tb⟩ (.own 47) = true := isi_own_ok (exAt Z 5) (show 47 < Tb.length by decide)
theorem isi_28 (Z : ZF K mg base) : isi1B ⟨K, Tb⟩ (.own 48) = true := isi_own_ok (exAt Z 5) (show 48 < Tb.length by decide)
theorem isi_29 (Z : ZF K mg base) : isi1B ⟨K, Tb⟩ (.own 49) = true := isi_own_ok (exAt Z 5) (show 49 < Tb.length by decide)
theorem isi_30 (Z : ZF K mg base) : isi1B ⟨K, Tb⟩ (.own 50) = true := isi_own_ok (exAt Z 5) (show 50 < Tb.length by decide)
theorem isi_31 (Z : ZF K mg base) : isi1B ⟨K, Tb⟩ (.own 1) = true := isi_own_ok (exAt Z 5) (show 1 < Tb.length by decide)
theorem isi_32 (Z : ZF K mg base) : isi1B ⟨K, Tb⟩ (.own 2) = true := isi_own_ok (exAt Z 5) (show 2 < Tb.length by decide)
theorem isi_33 (Z : ZF K mg base) : isi1B ⟨K, Tb⟩ (.own 3) = true := isi_own_ok (exAt Z 5) (show 3 < Tb.length by decide)
theorem isi_34 (Z : ZF K mg base) : isi1B ⟨K, Tb⟩ (.own 4) = true := isi_own_ok (exAt Z 5) (show 4 < Tb.length by decide)
theorem isi_35 (Z : ZF K mg base) : isi1B ⟨K, Tb⟩ (.own 5) = true := isi_own_ok (exAt Z 5) (show 5 < Tb.length by decide)
theorem isi_36 (Z : ZF K mg base) : isi1B ⟨K, Tb⟩ (.own 6) = true := isi_own_ok (exAt Z 5) (show 6 < Tb.length by decide)
theorem isi_37 (Z : ZF K mg base) : isi1B ⟨K, Tb⟩ (.own 7) = true := isi_own_ok (exAt Z 5) (show 7 < Tb.length by decide)
theorem isi_38 (Z : ZF K mg base) : isi1B ⟨K, Tb⟩ (.own 8) = true := isi_own_ok (exAt Z 5) (show 8 < Tb.length by decide)
theorem isi_39 (Z : ZF K mg base) : isi1B ⟨K, Tb⟩ (.own 9) = true := isi_own_ok (exAt Z 5) (show 9 < Tb.length by decide)
theorem isi_40 (Z : ZF K mg base) : isi1B ⟨K, Tb⟩ (.own 10) = true := isi_own_ok (exAt Z 5) (show 10 < Tb.length by decide)
theorem isi_41 (Z : ZF K mg base) : isi1B ⟨K, Tb⟩ (.own 11) = true := isi_own_ok (exAt Z 5) (show 11 < Tb.length by decide)
theorem isi_42 (Z : ZF K mg base) : isi1B ⟨K, Tb⟩ (.own 12) = true := isi_own_ok (exAt Z 5) (show 12 < Tb.length by decide)
theorem isi_43 (Z : ZF K mg base) : isi1B ⟨K, Tb⟩ (.own 13) = true := isi_own_ok (exAt Z 5) (show 13 < Tb.length by decide)
theorem isi_44 (Z : ZF K mg base) : isi1B ⟨K, Tb⟩ (.own 14) = true := isi_own_ok (exAt Z 5) (show 14 < Tb.length by decide)
theorem isi_45 (Z : ZF K mg base) : isi1B ⟨K, Tb⟩ (.own 15) = true := isi_own_ok (exAt Z 5) (show 15 < Tb.length by decide)
theorem isi_46 (Z : ZF K mg base) : isi1B ⟨K, Tb⟩ (.own 16) = true := isi_own_ok (exAt Z 5) (show 16 < Tb.length by decide)
theorem isi_47 (Z : ZF K mg base) : isi1B ⟨K, Tb⟩ (.own 17) = true := isi_own_ok (exAt Z 5) (show 17 < Tb.length by decide)
theorem isi_48 (Z : ZF K mg base) : isi1B ⟨K, Tb⟩ (.own 18) = true := isi_own_ok (exAt Z 5) (show 18 < Tb.length by decide)
theorem isi_49 (Z : ZF K mg base) : isi1B ⟨K, Tb⟩ (.own 19) = true := isi_own_ok (exAt Z 5) (show 19 < Tb.length by decide)
theorem isi_50 (Z : ZF K mg base) : isi1B ⟨K, Tb⟩ (.own 20) = true := isi_own_ok (exAt Z 5) (show 20 < Tb.length by decide)
theorem isi_51 (Z : ZF K mg base) : isi1B ⟨K, Tb⟩ (.own 21) = true := isi_own_ok (exAt Z 5) (show 21 < Tb.length by decide)
theorem isi_52 (Z : ZF K mg base) : isi1B ⟨K, Tb⟩ (.own 22) = true := isi_own_ok (exAt Z 5) (show 22 < Tb.length by decide)
theorem isi_53 (Z : ZF K mg base) : isi1B ⟨K, Tb⟩ (.own 23) = true := isi_own_ok (exAt Z 5) (show 23 < Tb.length by decide)
theorem isi_54 (Z : ZF K mg base) : isi1B ⟨K, Tb⟩ (.own 24) = true := isi_own_ok (exAt Z 5) (show 24 < Tb.length by decide)
theorem isi_55 (Z : ZF K mg base) : isi1B ⟨K, Tb⟩ (.own 25) = true := isi_own_ok (exAt Z 5) (show 25 < Tb.length by decide)
theorem isi_56 (Z : ZF K mg base) : isi1B ⟨K, Tb⟩ (.ty "ValueError") = true := exAt Z 11
theorem isi_57 (Z : ZF K mg base) : isi1B ⟨K, Tb⟩ (.own 0) = true := isi_own_ok (exAt Z 5) (show 0 < Tb.length by decide)
theorem sc_1 : FnScope ["self", "given"] ["self", "given"] (defScope si_1) := ⟨rfl, rfl, rfl, by decide +kernel, rfl, by decide +kernel, by decide +kernel⟩
theorem mk_1 (Z : ZF K mg base) : MkOk P w K mg base Tb 1 1 := by
  have D := Z.fun_ 19 (p := ("InvalidBase", some "__init__")) (qual := "InvalidBase.__init__") (st := si_1) rfl
  exact mkB_ok (List.all_eq_true.mp (exAt Z 3) 1 (by decide)) rfl (exi1_ok (ini Z) (Z.glo 61) (fun_of D) sc_1 (by kernel_rfl) (by kernel_rfl) (by kernel_rfl) rfl rfl rfl (fun _ _ _ => iniEq_of rfl rfl) rfl) (D.bindsN fun _ _ _ _ _ _ us hl => match us, hl with | [_, _], _ => by kernel_rfl)
theorem sc_2 : FnScope ["self", "given"] ["self", "given"] (defScope si_2) := ⟨rfl, rfl, rfl, by decide +kernel, rfl, by decide +kernel, by decide +kernel⟩
theorem mk_2 (Z : ZF K mg base) : MkOk P w K mg base Tb 1 2 := by
  have D := Z.fun_ 20 (p := ("InvalidBound", some "__init__")) (qual := "InvalidBound.__init__") (st := si_2) rfl
  exact mkB_ok (List.all_eq_true.mp (exAt Z 3) 2 (by decide)) rfl (exi1_ok (ini Z) (Z.glo 61) (fun_of D) sc_2 (by kernel_rfl) (by kernel_rfl) (by kernel_rfl) rfl rfl rfl (fun _ _ _ => iniEq_of rfl rfl) rfl) (D.bindsN fun _ _ _ _ _ _ us hl => match us, hl with | [_, _], _ => by kernel_rfl)
theorem sc_3 : FnScope ["self", "given"] ["self", "given"] (defScope si_3) := ⟨rfl, rfl, rfl, by decide +kernel, rfl, by decide +kernel, by decide +kernel⟩
theorem mk_3 (Z : ZF K mg base) : MkOk P w K mg base Tb 1 3 := by
  have D := Z.fun_ 21 (p := ("InvalidContext", some "__init__")) (qual := "InvalidContext.__init__") (st := si_3) rfl
  exact mkB_ok (List.all_eq_true.mp (exAt Z 3) 3 (by decide)) rfl (exi1_ok (ini Z) (Z.glo 61) (fun_of D) sc_3 (by kernel_rfl) (by kernel_rfl) (by kernel_rfl) rfl rfl rfl (fun _ _ _ => iniEq_of rfl rfl) rfl) (D.bindsN fun _ _ _ _ _ _ us hl => match us, hl with | [_, _], _ => by kernel_rfl)
theorem sc_4 : FnScope ["self", "given"] ["self", "given"] (defScope si_4) := ⟨rfl, rfl, rfl, by decide +kernel, rfl, by decide +kernel, by decide +kernel⟩
theorem mk_4 (Z : ZF K mg base) : MkOk P w K mg base Tb 1 4 := by
  have D := Z.fun_ 22 (p := ("InvalidCount", some "__init__")) (qual := "InvalidCount.__init__") (st := si_4) rfl
  exact mkB_ok (List.all_eq_true.mp (exAt Z 3) 4 (by decide)) rfl (exi1_ok (ini Z) (Z.glo 61) (fun_of D) sc_4 (by kernel_rfl) (by kernel_rfl) (by kernel_rfl) rfl rfl rfl (fun _ _ _ => iniEq_of rfl rfl) rfl) (D.bindsN fun _ _ _ _ _ _ us hl => match us, hl with | [_, _], _ => by kernel_rfl)
theorem sc_5 : FnScope ["self", "given"] ["self", "given"] (defScope si_5) := ⟨rfl, rfl, rfl, by decide +kernel, rfl, by decide +kernel, by decide +kernel⟩
theorem mk_5 (Z : ZF K mg base) : MkOk P w K mg base Tb 1 5 := by
  have D := Z.fun_ 23 (p := ("InvalidEnd", some "__init__")) (qual := "InvalidEnd.__init__") (st := si_5) rfl
  exact mkB_ok (List.all_eq_true.mp (exAt Z 3) 5 (by decide)) rfl (exi1_ok (ini Z) (Z.glo 61) (fun_of D) sc_5 (by kernel_rfl) (by kernel_rfl) (by kernel_rfl) rfl rfl rfl (fun _ _ _ => iniEq_of rfl rfl) rfl) (D.bindsN fun _ _ _ _ _ _ us hl => match us, hl with | [_, _], _ => by kernel_rfl)
theorem sc_6 : FnScope ["self", "given"] ["self", "given"] (defScope si_6) := ⟨rfl, rfl, rfl, by decide +kernel, rfl, by decide +kernel, by decide +kernel⟩
theorem mk_6 (Z : ZF K mg base) : MkOk P w K mg base Tb 1 6 := by
  have D := Z.fun_ 24 (p := ("InvalidFees", some "__init__")) (qual := "InvalidFees.__init__") (st := si_6) rfl
  exact mkB_ok (List.all_eq_true.mp (exAt Z 3) 6 (by decide)) rfl (exi1_ok (ini Z) (Z.glo 61) (fun_of D) sc_6 (by kernel_rfl) (by kernel_rfl) (by kernel_rfl) rfl rfl rfl (fun _ _ _ => iniEq_of rfl rfl) rfl) (D.bindsN fun _ _ _ _ _ _ us hl => match us, hl with | [_, _], _ => by kernel_rfl)
theorem sc_7 : FnScope ["self", "given"] ["self", "given"] (defScope si_7) := ⟨rfl, rfl, rfl, by decide +kernel, rfl, by decide +kernel, by decide +kernel⟩
theorem mk_7 (Z : ZF K mg base) : MkOk P w K mg base Tb 1 7 := by
  have D := Z.fun_ 25 (p := ("InvalidFilling", some "__init__")) (qual := "InvalidFilling.__init__") (st := si_7) rfl
  exact mkB_ok (List.all_eq_true.mp (exAt Z 3) 7 (by decide)) rfl (exi1_ok (ini Z) (Z.glo 61) (fun_of D) sc_7 (by kernel_rfl) (by kernel_rfl) (by kernel_rfl) rfl rfl rfl (fun _ _ _ => iniEq_of rfl rfl) rfl) (D.bindsN fun _ _ _ _ _ _ us hl => match us, hl with | [_, _], _ => by kernel_rfl)
theorem sc_8 : FnScope ["self", "given"] ["self", "given"] (defScope si_8) := ⟨rfl, rfl, rfl, by decide +kernel, rfl, by decide +kernel, by decide +kernel⟩
theorem mk_8 (Z : ZF K mg base) : MkOk P w K mg base Tb 1 8 := by
  have D := Z.fun_ 26 (p := ("InvalidForm", some "__init__")) (qual := "InvalidForm.__init__") (st := si_8) rfl
  exact mkB_ok (List.all_eq_true.mp (exAt Z 3) 8 (by decide)) rfl (exi1_ok (ini Z) (Z.glo 61) (fun_of D) sc_8 (by kernel_rfl) (by kernel_rfl) (by kernel_rfl) rfl rfl rfl (fun _ _ _ => iniEq_of rfl rfl) rfl) (D.bindsN fun _ _ _ _ _ _ us hl => match us, hl with | [_, _], _ => by kernel_rfl)
theorem sc_9 : FnScope ["self", "given"] ["self", "given"] (defScope si_9) := ⟨rfl, rfl, rfl, by decide +kernel, rfl, by decide +kernel, by decide +kernel⟩
theorem mk_9 (Z : ZF K mg base) : MkOk P w K mg base Tb 1 9 := by
  have D := Z.fun_ 27 (p := ("InvalidIndex", some "__init__")) (qual := "InvalidIndex.__init__") (st := si_9) rfl
  exact mkB_ok (List.all_eq_true.mp (exAt Z 3) 9 (by decide)) rfl (exi1_ok (ini Z) (Z.glo 61) (fun_of D) sc_9 (by kernel_rfl) (by kernel_rfl) (by kernel_rfl) rfl rfl rfl (fun _ _ _ => iniEq_of rfl rfl) rfl) (D.bindsN fun _ _ _ _ _ _ us hl => match us, hl with | [_, _], _ => by kernel_rfl)
theorem sc_10 : FnScope ["self", "given"] ["self", "given"] (defScope si_10) := ⟨rfl, rfl, rfl, by decide +kernel, rfl, by decide +kernel, by decide +kernel⟩
theorem mk_10 (Z : ZF K mg base) : MkOk P w K mg base Tb 1 10 := by
  have D := Z.fun_ 28 (p := ("InvalidLines", some "__init__")) (qual := "InvalidLines.__init__") (st := si_10) rfl
  exact mkB_ok (List.all_eq_true.mp (exAt Z 3) 10 (by decide)) rfl (exi1_ok (ini Z) (Z.glo 61) (fun_of D) sc_10 (by kernel_rfl) (by kernel_rfl) (by kernel_rfl) rfl rfl rfl (fun _ _ _ => iniEq_of rfl rfl) rfl) (D.bindsN fun _ _ _ _ _ _ us hl => match us, hl with | [_, _], _ => by kernel_rfl)
theorem sc_11 : FnScope ["self", "given"] ["self", "given"] (defScope si_11) := ⟨rfl, rfl, rfl, by decide +kernel, rfl, by decide +kernel, by decide +kernel⟩
theorem mk_11 (Z : ZF K mg base) : MkOk P w K mg base Tb 1 11 := by
  have D := Z.fun_ 29 (p := ("InvalidLot", some "__init__")) (qual := "InvalidLot.__init__") (st := si_11) rfl
  exact mkB_ok (List.all_eq_true.mp (exAt Z 3) 11 (by decide)) rfl (exi1_ok (ini Z) (Z.glo 61) (fun_of D) sc_11 (by kernel_rfl) (by kernel_rfl) (by kernel_rfl) rfl rfl rfl (fun _ _ _ => iniEq_of rfl rfl) rfl) (D.bindsN fun _ _ _ _ _ _ us hl => match us, hl with | [_, _], _ => by kernel_rfl)
theorem sc_12 : FnScope ["self", "given"] ["self", "given"] (defScope si_12) := ⟨rfl, rfl, rfl, by decide +kernel, rfl, by decide +kernel, by decide +kernel⟩
theorem mk_12 (Z : ZF K mg base) : MkOk P w K mg base Tb 1 12 := by
  have D := Z.fun_ 30 (p := ("InvalidMachine", some "__init__")) (qual := "InvalidMachine.__init__") (st := si_12) rfl
  exact mkB_ok (List.all_eq_true.mp (exAt Z 3) 12 (by decide)) rfl (exi1_ok (ini Z) (Z.glo 61) (fun_of D) sc_12 (by kernel_rfl) (by kernel_rfl) (by kernel_rfl) rfl rfl rfl (fun _ _ _ => iniEq_of rfl rfl) rfl) (D.bindsN fun _ _ _ _ _ _ us hl => match us, hl with | [_, _], _ => by kernel_rfl)
theorem sc_13 : FnScope ["self", "given"] ["self", "given"] (defScope si_13) := ⟨rfl, rfl, rfl, by decide +kernel, rfl, by decide +kernel, by decide +kernel⟩
theorem mk_13 (Z : ZF K mg base) : MkOk P w K mg base Tb 1 13 := by
  have D := Z.fun_ 31 (p := ("InvalidMost", some "__init__")) (qual := "InvalidMost.__init__") (st := si_13) rfl
  exact mkB_ok (List.all_eq_true.mp (exAt Z 3) 13 (by decide)) rfl (exi1_ok (ini Z) (Z.glo 61) (fun_of D) sc_13 (by kernel_rfl) (by kernel_rfl) (by kernel_rfl) rfl rfl rfl (fun _ _ _ => iniEq_of rfl rfl) rfl) (D.bindsN fun _ _ _ _ _ _ us hl => match us, hl with | [_, _], _ => by kernel_rfl)
theorem sc_14 : FnScope ["self", "given"] ["self", "given"] (defScope si_14) := ⟨rfl, rfl, rfl, by decide +kernel, rfl, by decide +kernel, by decide +kernel⟩
theorem mk_14 (Z : ZF K mg base) : MkOk P w K mg base Tb 1 14 := by
  have D := Z.fun_ 32 (p := ("InvalidName", some "__init__")) (qual := "InvalidName.__init__") (st := si_14) rfl
  exact mkB_ok (List.all_eq_true.mp (exAt Z 3) 14 (by decide)) rfl (exi1_ok (ini Z) (Z.glo 61) (fun_of D) sc_14 (by kernel_rfl) (by kernel_rfl) (by kernel_rfl) rfl rfl rfl (fun _ _ _ => iniEq_of rfl rfl) rfl) (D.bindsN fun _ _ _ _ _ _ us hl => match us, hl with | [_, _], _ => by kernel_rfl)
theorem sc_15 : FnScope ["self", "given"] ["self", "given"] (defScope si_15) := ⟨rfl, rfl, rfl, by decide +kernel, rfl, by decide +kernel, by decide +kernel⟩
theorem mk_15 (Z : ZF K mg base) : MkOk P w K mg base Tb 1 15 := by
  have D := Z.fun_ 33 (p := ("InvalidNumber", some "__init__")) (qual := "InvalidNumber.__init__") (st := si_15) rfl
  exact mkB_ok (List.all_eq_true.mp (exAt Z 3) 15 (by decide)) rfl (exi1_ok (ini Z) (Z.glo 61) (fun_of D) sc_15 (by kernel_rfl) (by kernel_rfl) (by kernel_rfl) rfl rfl rfl (fun _ _ _ => iniEq_of rfl rfl) rfl) (D.bindsN fun _ _ _ _ _ _ us hl => match us, hl with | [_, _], _ => by kernel_rfl)
theorem sc_16 : FnScope ["self", "given"] ["self", "given"] (defScope si_16) := ⟨rfl, rfl, rfl, by decide +kernel, rfl, by decide +kernel, by decide +kernel⟩
theorem mk_16 (Z : ZF K mg base) : MkOk P w K mg base Tb 1 16 := by
  have D := Z.fun_ 34 (p := ("InvalidNumbers", some "__init__")) (qual := "InvalidNumbers.__init__") (st := si_16) rfl
  exact mkB_ok (List.all_eq_true.mp (exAt Z 3) 16 (by decide)) rfl (exi1_ok (ini Z) (Z.glo 61) (fun_of D) sc_16 (by kernel_rfl) (by kernel_rfl) (by kernel_rfl) rfl rfl rfl (fun _ _ _ => iniEq_of rfl rfl) rfl) (D.bindsN fun _ _ _ _ _ _ us hl => match us, hl with | [_, _], _ => by kernel_rfl)
theorem sc_17 : FnScope ["self", "given"] ["self", "given"] (defScope si_17) := ⟨rfl, rfl, rfl, by decide +kernel, rfl, by decide +kernel, by decide +kernel⟩
theorem mk_17 (Z : ZF K mg base) : MkOk P w K mg base Tb 1 17 := by
  have D := Z.fun_ 35 (p := ("InvalidOther", some "__init__")) (qual := "InvalidOther.__init__") (st := si_17) rfl
  exact mkB_ok (List.all_eq_true.mp (exAt Z 3) 17 (by decide)) rfl (exi1_ok (ini Z) (Z.glo 61) (fun_of D) sc_17 (by kernel_rfl) (by kernel_rfl) (by kernel_rfl) rfl rfl rfl (fun _ _ _ => iniEq_of rfl rfl) rfl) (D.bindsN fun _ _ _ _ _ _ us hl => match us, hl with | [_, _], _ => by kernel_rfl)
theorem sc_18 : FnScope ["self", "given"] ["self", "given"] (defScope si_18) := ⟨rfl, rfl, rfl, by decide +kernel, rfl, by decide +kernel, by decide +kernel⟩
theorem mk_18 (Z : ZF K mg base) : MkOk P w K mg base Tb 1 18 := by
  have D := Z.fun_ 36 (p := ("InvalidPaper", some "__init__")) (qual := "InvalidPaper.__init__") (st := si_18) rfl
  exact mkB_ok (List.all_eq_true.mp (exAt Z 3) 18 (by decide)) rfl (exi1_ok (ini Z) (Z.glo 61) (fun_of D) sc_18 (by kernel_rfl) (by kernel_rfl) (by kernel_rfl) rfl rfl rfl (fun _ _ _ => iniEq_of rfl rfl) rfl) (D.bindsN fun _ _ _ _ _ _ us hl => match us, hl with | [_, _], _ => by kernel_rfl)
theorem sc_19 : FnScope ["self", "given"] ["self", "given"] (defScope si_19) := ⟨rfl, rfl, rfl, by decide +kernel, rfl, by decide +kernel, by decide +kernel⟩
theorem mk_19 (Z : ZF K mg base) : MkOk P w K mg base Tb 1 19 := by
  have D := Z.fun_ 37 (p := ("InvalidPart", some "__init__")) (qual := "InvalidPart.__init__") (st := si_19) rfl
  exact mkB_ok (List.all_eq_true.mp (exAt Z 3) 19 (by decide)) rfl (exi1_ok (ini Z) (Z.glo 61) (fun_of D) sc_19 (by kernel_rfl) (by kernel_rfl) (by kernel_rfl) rfl rfl rfl (fun _ _ _ => iniEq_of rfl rfl) rfl) (D.bindsN fun _ _ _ _ _ _ us hl => match us, hl with | [_, _], _ => by kernel_rfl)
theorem sc_20 : FnScope ["self", "given"] ["self", "given"] (defScope si_20) := ⟨rfl, rfl, rfl, by decide +kernel, rfl, by decide +kernel, by decide +kernel⟩
theorem mk_20 (Z : ZF K mg base) : MkOk P w K mg base Tb 1 20 := by
  have D := Z.fun_ 38 (p := ("InvalidPath", some "__init__")) (qual := "InvalidPath.__init__") (st := si_20) rfl
  exact mkB_ok (List.all_eq_true.mp (exAt Z 3) 20 (by decide)) rfl (exi1_ok (ini Z) (Z.glo 61) (fun_of D) sc_20 (by kernel_rfl) (by kernel_rfl) (by kernel_rfl) rfl rfl rfl (fun _ _ _ => iniEq_of rfl rfl) rfl) (D.bindsN fun _ _ _ _ _ _ us hl => match us, hl with | [_, _], _ => by kernel_rfl)
theorem sc_21 : FnScope ["self", "given"] ["self", "given"] (defScope si_21) := ⟨rfl, rfl, rfl, by decide +kernel, rfl, by decide +kernel, by decide +kernel⟩
theorem mk_21 (Z : ZF K mg base) : MkOk P w K mg base Tb 1 21 := by
  have D := Z.fun_ 39 (p := ("InvalidPiece", some "__init__")) (qual := "InvalidPiece.__init__") (st := si_21) rfl
  exact mkB_ok (List.all_eq_true.mp (exAt Z 3) 21 (by decide)) rfl (exi1_ok (ini Z) (Z.glo 61) (fun_of D) sc_21 (by kernel_rfl) (by kernel_rfl) (by kernel_rfl) rfl rfl rfl (fun _ _ _ => iniEq_of rfl rfl) rfl) (D.bindsN fun _ _ _ _ _ _ us hl => match us, hl with | [_, _], _ => by kernel_rfl)
theorem sc_22 : FnScope ["self", "given"] ["self", "given"] (defScope si_22) := ⟨rfl, rfl, rfl, by decide +kernel, rfl, by decide +kernel, by decide +kernel⟩
theorem mk_22 (Z : ZF K mg base) : MkOk P w K mg base Tb 1 22 := by
  have D := Z.fun_ 40 (p := ("InvalidPlace", some "__init__")) (qual := "InvalidPlace.__init__") (st := si_22) rfl
  exact mkB_ok (List.all_eq_true.mp (exAt Z 3) 22 (by decide)) rfl (exi1_ok (ini Z) (Z.glo 61) (fun_of D) sc_22 (by kernel_rfl) (by kernel_rfl) (by kernel_rfl) rfl rfl rfl (fun _ _ _ => iniEq_of rfl rfl) rfl) (D.bindsN fun _ _ _ _ _ _ us hl => match us, hl with | [_, _], _ => by kernel_rfl)
theorem sc_23 : FnScope ["self", "given"] ["self", "given"] (defScope si_23) := ⟨rfl, rfl, rfl, by decide +kernel, rfl, by decide +kernel, by decide +kernel⟩
theorem mk_23 (Z : ZF K mg base) : MkOk P w K mg base Tb 1 23 := by
  have D := Z.fun_ 41 (p := ("InvalidPlaces", some "__init__")) (qual := "InvalidPlaces.__init__") (st := si_23) rfl
  exact mkB_ok (List.all_eq_true.mp (exAt Z 3) 23 (by decide)) rfl (exi1_ok (ini Z) (Z.glo 61) (fun_of D) sc_23 (by kernel_rfl) (by kernel_rfl) (by kernel_rfl) rfl rfl rfl (fun _ _ _ => iniEq_of rfl rfl) rfl) (D.bindsN fun _ _ _ _ _ _ us hl => match us, hl with | [_, _], _ => by kernel_rfl)
theorem sc_24 : FnScope ["self", "given"] ["self", "given"] (defScope si_24) := ⟨rfl, rfl, rfl, by decide +kernel, rfl, by decide +kernel, by decide +kernel⟩
theorem mk_24 (Z : ZF K mg base) : MkOk P w K mg base Tb 1 24 := by
  have D := Z.fun_ 42 (p := ("InvalidRow", some "__init__")) (qual := "InvalidRow.__init__") (st := si_24) rfl
  exact mkB_ok (List.all_eq_true.mp (exAt Z 3) 24 (by decide)) rfl (exi1_ok (ini Z) (Z.glo 61) (fun_of D) sc_24 (by kernel_rfl) (by kernel_rfl) (by kernel_rfl) rfl rfl rfl (fun _ _ _ => iniEq_of rfl rfl) rfl) (D.bindsN fun _ _ _ _ _ _ us hl => match us, hl with | [_, _], _ => by kernel_rfl)
theorem sc_25 : FnScope ["self", "given"] ["self", "given"] (defScope si_25) := ⟨rfl, rfl, rfl, by decide +kernel, rfl, by decide +kernel, by decide +kernel⟩
theorem mk_25 (Z : ZF K mg base) : MkOk P w K mg base Tb 1 25 := by
  have D := Z.fun_ 43 (p := ("InvalidRows", some "__init__")) (qual := "InvalidRows.__init__") (st := si_25) rfl
  exact mkB_ok (List.all_eq_true.mp (exAt Z 3) 25 (by decide)) rfl (exi1_ok (ini Z) (Z.glo 61) (fun_of D) sc_25 (by kernel_rfl) (by kernel_rfl) (by kernel_rfl) rfl rfl rfl (fun _ _ _ => iniEq_of rfl rfl) rfl) (D.bindsN fun _ _ _ _ _ _ us hl => match us, hl with | [_, _], _ => by kernel_rfl)
theorem sc_26 : FnScope ["self", "given"] ["self", "given"] (defScope si_26) := ⟨rfl, rfl, rfl, by decide +kernel, rfl, by decide +kernel, by decide +kernel⟩
theorem mk_26 (Z : ZF K mg base) : MkOk P w K mg base Tb 1 26 := by
  have D := Z.fun_ 44 (p := ("InvalidSheet", some "__init__")) (qual := "InvalidSheet.__init__") (st := si_26) rfl
  exact mkB_ok (List.all_eq_true.mp (exAt Z 3) 26 (by decide)) rfl (exi1_ok (ini Z) (Z.glo 61) (fun_of D) sc_26 (by kernel_rfl) (by kernel_rfl) (by kernel_rfl) rfl rfl rfl (fun _ _ _ => iniEq_of rfl rfl) rfl) (D.bindsN fun _ _ _ _ _ _ us hl => match us, hl with | [_, _], _ => by kernel_rfl)
theorem sc_27 : FnScope ["self", "given"] ["self", "given"] (defScope si_27) := ⟨rfl, rfl, rfl, by decide +kernel, rfl, by decide +kernel, by decide +kernel⟩
theorem mk_27 (Z : ZF K mg base) : MkOk P w K mg base Tb 1 27 := by
  have D := Z.fun_ 45 (p := ("InvalidShelf", some "__init__")) (qual := "InvalidShelf.__init__") (st := si_27) rfl
  exact mkB_ok (List.all_eq_true.mp (exAt Z 3) 27 (by decide)) rfl (exi1_ok (ini Z) (Z.glo 61) (fun_of D) sc_27 (by kernel_rfl) (by kernel_rfl) (by kernel_rfl) rfl rfl rfl (fun _ _ _ => iniEq_of rfl rfl) rfl) (D.bindsN fun _ _ _ _ _ _ us hl => match us, hl with | [_, _], _ => by kernel_rfl)
theorem sc_28 : FnScope ["self", "given"] ["self", "given"] (defScope si_28) := ⟨rfl, rfl, rfl, by decide +kernel, rfl, by decide +kernel, by decide +kernel⟩
theorem mk_28 (Z : ZF K mg base) : MkOk P w K mg base Tb 1 28 := by
  have D := Z.fun_ 46 (p := ("InvalidStep", some "__init__")) (qual := "InvalidStep.__init__") (st := si_28) rfl
  exact mkB_ok (List.all_eq_true.mp (exAt Z 3) 28 (by decide)) rfl (exi1_ok (ini Z) (Z.glo 61) (fun_of D) sc_28 (by kernel_rfl) (by kernel_rfl) (by kernel_rfl) rfl rfl rfl (fun _ _ _ => iniEq_of rfl rfl) rfl) (D.bindsN fun _ _ _ _ _ _ us hl => match us, hl with | [_, _], _ => by kernel_rfl)
theorem sc_29 : FnScope ["self", "given"] ["self", "given"] (defScope si_29) := ⟨rfl, rfl, rfl, by decide +kernel, rfl, by decide +kernel, by decide +kernel⟩
theorem mk_29 (Z : ZF K mg base) : MkOk P w K mg base Tb 1 29 := by
  have D := Z.fun_ 47 (p := ("InvalidSteps", some "__init__")) (qual := "InvalidSteps.__init__") (st := si_29) rfl
  exact mkB_ok (List.all_eq_true.mp (exAt Z 3) 29 (by decide)) rfl (exi1_ok (ini Z) (Z.glo 61) (fun_of D) sc_29 (by kernel_rfl) (by kernel_rfl) (by kernel_rfl) rfl rfl rfl (fun _ _ _ => iniEq_of rfl rfl) rfl) (D.bindsN fun _ _ _ _ _ _ us hl => match us, hl with | [_, _], _ => by kernel_rfl)
theorem sc_30 : FnScope ["self", "given"] ["self", "given"] (defScope si_30) := ⟨rfl, rfl, rfl, by decide +kernel, rfl, by decide +kernel, by decide +kernel⟩
theorem mk_30 (Z : ZF K mg base) : MkOk P w K mg base Tb 1 30 := by
  have D := Z.fun_ 48 (p := ("InvalidSystem", some "__init__")) (qual := "InvalidSystem.__init__") (st := si_30) rfl
  exact mkB_ok (List.all_eq_true.mp (exAt Z 3) 30 (by decide)) rfl (exi1_ok (ini Z) (Z.glo 61) (fun_of D) sc_30 (by kernel_rfl) (by kernel_rfl) (by kernel_rfl) rfl rfl rfl (fun _ _ _ => iniEq_of rfl rfl) rfl) (D.bindsN fun _ _ _ _ _ _ us hl => match us, hl with | [_, _], _ => by kernel_rfl)
theorem sc_31 : FnScope ["self", "given"] ["self", "given"] (defScope si_31) := ⟨rfl, rfl, rfl, by decide +kernel, rfl, by decide +kernel, by decide +kernel⟩
theorem mk_31 (Z : ZF K mg base) : MkOk P w K mg base Tb 1 31 := by
  have D := Z.fun_ 49 (p := ("InvalidText", some "__init__")) (qual := "InvalidText.__init__") (st := si_31) rfl
  exact mkB_ok (List.all_eq_true.mp (exAt Z 3) 31 (by decide)) rfl (exi1_ok (ini Z) (Z.glo 61) (fun_of D) sc_31 (by kernel_rfl) (by kernel_rfl) (by kernel_rfl) rfl rfl rfl (fun _ _ _ => iniEq_of rfl rfl) rfl) (D.bindsN fun _ _ _ _ _ _ us hl => match us, hl with | [_, _], _ => by kernel_rfl)
theorem sc_32 : FnScope ["self", "given"] ["self", "given"] (defScope si_32) := ⟨rfl, rfl, rfl, by decide +kernel, rfl, by decide +kernel, by decide +kernel⟩
theorem mk_32 (Z : ZF K mg base) : MkOk P w K mg base Tb 1 32 := by
  have D := Z.fun_ 50 (p := ("InvalidTexts", some "__init__")) (qual := "InvalidTexts.__init__") (st := si_32) rfl
  exact mkB_ok (List.all_eq_true.mp (exAt Z 3) 32 (by decide)) rfl (exi1_ok (ini Z) (Z.glo 61) (fun_of D) sc_32 (by kernel_rfl) (by kernel_rfl) (by kernel_rfl) rfl rfl rfl (fun _ _ _ => iniEq_of rfl rfl) rfl) (D.bindsN fun _ _ _ _ _ _ us hl => match us, hl with | [_, _], _ => by kernel_rfl)
theorem sc_33 : FnScope ["self", "given"] ["self", "given"] (defScope si_33) := ⟨rfl, rfl, rfl, by decide +kernel, rfl, by decide +kernel, by decide +kernel⟩
theorem mk_33 (Z : ZF K mg base) : MkOk P w K mg base Tb 1 33 := by
  have D := Z.fun_ 51 (p := ("InvalidTold", some "__init__")) (qual := "InvalidTold.__init__") (st := si_33) rfl
  exact mkB_ok (List.all_eq_true.mp (exAt Z 3) 33 (by decide)) rfl (exi1_ok (ini Z) (Z.glo 61) (fun_of D) sc_33 (by kernel_rfl) (by kernel_rfl) (by kernel_rfl) rfl rfl rfl (fun _ _ _ => iniEq_of rfl rfl) rfl) (D.bindsN fun _ _ _ _ _ _ us hl => match us, hl with | [_, _], _ => by kernel_rfl)
theorem sc_34 : FnScope ["self", "given"] ["self", "given"] (defScope si_34) := ⟨rfl, rfl, rfl, by decide +kernel, rfl, by decide +kernel, by decide +kernel⟩
theorem mk_34 (Z : ZF K mg base) : MkOk P w K mg base Tb 1 34 := by
  have D := Z.fun_ 52 (p := ("InvalidTop", some "__init__")) (qual := "InvalidTop.__init__") (st := si_34) rfl
  exact mkB_ok (List.all_eq_true.mp (exAt Z 3) 34 (by decide)) rfl (exi1_ok (ini Z) (Z.glo 61) (fun_of D) sc_34 (by kernel_rfl) (by kernel_rfl) (by kernel_rfl) rfl rfl rfl (fun _ _ _ => iniEq_of rfl rfl) rfl) (D.bindsN fun _ _ _ _ _ _ us hl => match us, hl with | [_, _], _ => by kernel_rfl)
theorem sc_35 : FnScope ["self", "given"] ["self", "given"] (defScope si_35) := ⟨rfl, rfl, rfl, by decide +kernel, rfl, by decide +kernel, by decide +kernel⟩
theorem mk_35 (Z : ZF K mg base) : MkOk P w K mg base Tb 1 35 := by
  have D := Z.fun_ 53 (p := ("InvalidWiring", some "__init__")) (qual := "InvalidWiring.__init__") (st := si_35) rfl
  exact mkB_ok (List.all_eq_true.mp (exAt Z 3) 35 (by decide)) rfl (exi1_ok (ini Z) (Z.glo 61) (fun_of D) sc_35 (by kernel_rfl) (by kernel_rfl) (by kernel_rfl) rfl rfl rfl (fun _ _ _ => iniEq_of rfl rfl) rfl) (D.bindsN fun _ _ _ _ _ _ us hl => match us, hl with | [_, _], _ => by kernel_rfl)
theorem sc_36 : FnScope ["self", "row"] ["self", "row"] (defScope si_36) := ⟨rfl, rfl, rfl, by decide +kernel, rfl, by decide +kernel, by decide +kernel⟩
theorem mk_36 (Z : ZF K mg base) : MkOk P w K mg base Tb 1 36 := by
  have D := Z.fun_ 54 (p := ("CanStand", some "__init__")) (qual := "CanStand.__init__") (st := si_36) rfl
  exact mkB_ok (List.all_eq_true.mp (exAt Z 3) 36 (by decide)) rfl (exi1_ok (ini Z) (Z.glo 61) (fun_of D) sc_36 (by kernel_rfl) (by kernel_rfl) (by kernel_rfl) rfl rfl rfl (fun _ _ _ => iniEq_of rfl rfl) rfl) (D.bindsN fun _ _ _ _ _ _ us hl => match us, hl with | [_, _], _ => by kernel_rfl)
theorem sc_37 : FnScope ["self"] ["self"] (defScope si_37) := ⟨rfl, rfl, rfl, by decide +kernel, rfl, by decide +kernel, by decide +kernel⟩
theorem mk_37 (Z : ZF K mg base) : MkOk P w K mg base Tb 1 37 := by
  have D := Z.fun_ 55 (p := ("Gone", some "__init__")) (qual := "Gone.__init__") (st := si_37) rfl
  exact mkB_ok (List.all_eq_true.mp (exAt Z 3) 37 (by decide)) rfl (exi0_ok (ini Z) (Z.glo 61) (fun_of D) sc_37 (by kernel_rfl) (by kernel_rfl) rfl (fun _ _ _ => iniEq_of rfl rfl) rfl) (D.bindsN fun _ _ _ _ _ _ us hl => match us, hl with | [_], _ => by kernel_rfl)
theorem sc_38 : FnScope ["self", "line"] ["self", "line"] (defScope si_38) := ⟨rfl, rfl, rfl, by decide +kernel, rfl, by decide +kernel, by decide +kernel⟩
theorem mk_38 (Z : ZF K mg base) : MkOk P w K mg base Tb 1 38 := by
  have D := Z.fun_ 56 (p := ("HasLine", some "__init__")) (qual := "HasLine.__init__") (st := si_38) rfl
  exact mkB_ok (List.all_eq_true.mp (exAt Z 3) 38 (by decide)) rfl (exi1_ok (ini Z) (Z.glo 61) (fun_of D) sc_38 (by kernel_rfl) (by kernel_rfl) (by kernel_rfl) rfl rfl rfl (fun _ _ _ => iniEq_of rfl rfl) rfl) (D.bindsN fun _ _ _ _ _ _ us hl => match us, hl with | [_, _], _ => by kernel_rfl)
theorem sc_39 : FnScope ["self", "index"] ["self", "index"] (defScope si_39) := ⟨rfl, rfl, rfl, by decide +kernel, rfl, by decide +kernel, by decide +kernel⟩
theorem mk_39 (Z : ZF K mg base) : MkOk P w K mg base Tb 1 39 := by
  have D := Z.fun_ 57 (p := ("HasOne", some "__init__")) (qual := "HasOne.__init__") (st := si_39) rfl
  exact mkB_ok (List.all_eq_true.mp (exAt Z 3) 39 (by decide)) rfl (exi1_ok (ini Z) (Z.glo 61) (fun_of D) sc_39 (by kernel_rfl) (by kernel_rfl) (by kernel_rfl) rfl rfl rfl (fun _ _ _ => iniEq_of rfl rfl) rfl) (D.bindsN fun _ _ _ _ _ _ us hl => match us, hl with | [_, _], _ => by kernel_rfl)
theorem sc_40 : FnScope ["self", "name"] ["self", "name"] (defScope si_40) := ⟨rfl, rfl, rfl, by decide +kernel, rfl, by decide +kernel, by decide +kernel⟩
theorem mk_40 (Z : ZF K mg base) : MkOk P w K mg base Tb 1 40 := by
  have D := Z.fun_ 58 (p := ("InUse", some "__init__")) (qual := "InUse.__init__") (st := si_40) rfl
  exact mkB_ok (List.all_eq_true.mp (exAt Z 3) 40 (by decide)) rfl (exi1_ok (ini Z) (Z.glo 61) (fun_of D) sc_40 (by kernel_rfl) (by kernel_rfl) (by kernel_rfl) rfl rfl rfl (fun _ _ _ => iniEq_of rfl rfl) rfl) (D.bindsN fun _ _ _ _ _ _ us hl => match us, hl with | [_, _], _ => by kernel_rfl)
theorem sc_41 : FnScope ["self", "going", "coming"] ["self", "going", "coming"] (defScope si_41) := ⟨rfl, rfl, rfl, by decide +kernel, rfl, by decide +kernel, by decide +kernel⟩
theorem mk_41 (Z : ZF K mg base) : MkOk P w K mg base Tb 1 41 := by
  have D := Z.fun_ 59 (p := ("NoExchange", some "__init__")) (qual := "NoExchange.__init__") (st := si_41) rfl
  exact mkB_ok (List.all_eq_true.mp (exAt Z 3) 41 (by decide)) rfl (exi2_ok (ini Z) (Z.glo 61) (fun_of D) sc_41 (by kernel_rfl) (by kernel_rfl) (by kernel_rfl) rfl (by kernel_rfl) rfl rfl rfl rfl rfl (fun _ _ _ => iniEq_of rfl rfl) rfl) (D.bindsN fun _ _ _ _ _ _ us hl => match us, hl with | [_, _, _], _ => by kernel_rfl)
theorem sc_42 : FnScope ["self", "index"] ["self", "index"] (defScope si_42) := ⟨rfl, rfl, rfl, by decide +kernel, rfl, by decide +kernel, by decide +kernel⟩
theorem mk_42 (Z : ZF K mg base) : MkOk P w K mg base Tb 1 42 := by
  have D := Z.fun_ 60 (p := ("NoStep", some "__init__")) (qual := "NoStep.__init__") (st := si_42) rfl
  exact mkB_ok (List.all_eq_true.mp (exAt Z 3) 42 (by decide)) rfl (exi1_ok (ini Z) (Z.glo 61) (fun_of D) sc_42 (by kernel_rfl) (by kernel_rfl) (by kernel_rfl) rfl rfl rfl (fun _ _ _ => iniEq_of rfl rfl) rfl) (D.bindsN fun _ _ _ _ _ _ us hl => match us, hl with | [_, _], _ => by kernel_rfl)
theorem sc_43 : FnScope ["self", "bound"] ["self", "bound"] (defScope si_43) := ⟨rfl, rfl, rfl, by decide +kernel, rfl, by decide +kernel, by decide +kernel⟩
theorem mk_43 (Z : ZF K mg base) : MkOk P w K mg base Tb 1 43 := by
  have D := Z.fun_ 61 (p := ("NotHolding", some "__init__")) (qual := "NotHolding.__init__") (st := si_43) rfl
  exact mkB_ok (List.all_eq_true.mp (exAt Z 3) 43 (by decide)) rfl (exi1_ok (ini Z) (Z.glo 61) (fun_of D) sc_43 (by kernel_rfl) (by kernel_rfl) (by kernel_rfl) rfl rfl rfl (fun _ _ _ => iniEq_of rfl rfl) rfl) (D.bindsN fun _ _ _ _ _ _ us hl => match us, hl with | [_, _], _ => by kernel_rfl)
theorem sc_44 : FnScope ["self", "index"] ["self", "index"] (defScope si_44) := ⟨rfl, rfl, rfl, by decide +kernel, rfl, by decide +kernel, by decide +kernel⟩
theorem mk_44 (Z : ZF K mg base) : MkOk P w K mg base Tb 1 44 := by
  have D := Z.fun_ 62 (p := ("NotLinear", some "__init__")) (qual := "NotLinear.__init__") (st := si_44) rfl
  exact mkB_ok (List.all_eq_true.mp (exAt Z 3) 44 (by decide)) rfl (exi1_ok (ini Z) (Z.glo 61) (fun_of D) sc_44 (by kernel_rfl) (by kernel_rfl) (by kernel_rfl) rfl rfl rfl (fun _ _ _ => iniEq_of rfl rfl) rfl) (D.bindsN fun _ _ _ _ _ _ us hl => match us, hl with | [_, _], _ => by kernel_rfl)
theorem sc_45 : FnScope ["self", "path"] ["self", "path"] (defScope si_45) := ⟨rfl, rfl, rfl, by decide +kernel, rfl, by decide +kernel, by decide +kernel⟩
theorem mk_45 (Z : ZF K mg base) : MkOk P w K mg base Tb 1 45 := by
  have D := Z.fun_ 63 (p := ("NotThere", some "__init__")) (qual := "NotThere.__init__") (st := si_45) rfl
  exact mkB_ok (List.all_eq_true.mp (exAt Z 3) 45 (by decide)) rfl (exi1_ok (ini Z) (Z.glo 61) (fun_of D) sc_45 (by kernel_rfl) (by kernel_rfl) (by kernel_rfl) rfl rfl rfl (fun _ _ _ => iniEq_of rfl rfl) rfl) (D.bindsN fun _ _ _ _ _ _ us hl => match us, hl with | [_, _], _ => by kernel_rfl)
theorem sc_46 : FnScope ["self"] ["self"] (defScope si_46) := ⟨rfl, rfl, rfl, by decide +kernel, rfl, by decide +kernel, by decide +kernel⟩
theorem mk_46 (Z : ZF K mg base) : MkOk P w K mg base Tb 1 46 := by
  have D := Z.fun_ 64 (p := ("NothingStands", some "__init__")) (qual := "NothingStands.__init__") (st := si_46) rfl
  exact mkB_ok (List.all_eq_true.mp (exAt Z 3) 46 (by decide)) rfl (exi0_ok (ini Z) (Z.glo 61) (fun_of D) sc_46 (by kernel_rfl) (by kernel_rfl) rfl (fun _ _ _ => iniEq_of rfl rfl) rfl) (D.bindsN fun _ _ _ _ _ _ us hl => match us, hl with | [_], _ => by kernel_rfl)
theorem sc_47 : FnScope ["self"] ["self"] (defScope si_47) := ⟨rfl, rfl, rfl, by decide +kernel, rfl, by decide +kernel, by decide +kernel⟩
theorem mk_47 (Z : ZF K mg base) : MkOk P w K mg base Tb 1 47 := by
  have D := Z.fun_ 65 (p := ("NothingToRedo", some "__init__")) (qual := "NothingToRedo.__init__") (st := si_47) rfl
  exact mkB_ok (List.all_eq_true.mp (exAt Z 3) 47 (by decide)) rfl (exi0_ok (ini Z) (Z.glo 61) (fun_of D) sc_47 (by kernel_rfl) (by kernel_rfl) rfl (fun _ _ _ => iniEq_of rfl rfl) rfl) (D.bindsN fun _ _ _ _ _ _ us hl => match us, hl with | [_], _ => by kernel_rfl)
theorem sc_48 : FnScope ["self"] ["self"] (defScope si_48) := ⟨rfl, rfl, rfl, by decide +kernel, rfl, by decide +kernel, by decide +kernel⟩
theorem mk_48 (Z : ZF K mg base) : MkOk P w K mg base Tb 1 48 := by
  have D := Z.fun_ 66 (p := ("NothingToUndo", some "__init__")) (qual := "NothingToUndo.__init__") (st := si_48) rfl
  exact mkB_ok (List.all_eq_true.mp (exAt Z 3) 48 (by decide)) rfl (exi0_ok (ini Z) (Z.glo 61) (fun_of D) sc_48 (by kernel_rfl) (by kernel_rfl) rfl (fun _ _ _ => iniEq_of rfl rfl) rfl) (D.bindsN fun _ _ _ _ _ _ us hl => match us, hl with | [_], _ => by kernel_rfl)
theorem sc_49 : FnScope ["self", "count"] ["self", "count"] (defScope si_49) := ⟨rfl, rfl, rfl, by decide +kernel, rfl, by decide +kernel, by decide +kernel⟩
theorem mk_49 (Z : ZF K mg base) : MkOk P w K mg base Tb 1 49 := by
  have D := Z.fun_ 67 (p := ("TooMany", some "__init__")) (qual := "TooMany.__init__") (st := si_49) rfl
  exact mkB_ok (List.all_eq_true.mp (exAt Z 3) 49 (by decide)) rfl (exi1_ok (ini Z) (Z.glo 61) (fun_of D) sc_49 (by kernel_rfl) (by kernel_rfl) (by kernel_rfl) rfl rfl rfl (fun _ _ _ => iniEq_of rfl rfl) rfl) (D.bindsN fun _ _ _ _ _ _ us hl => match us, hl with | [_, _], _ => by kernel_rfl)
theorem sc_50 : FnScope ["self", "name"] ["self", "name"] (defScope si_50) := ⟨rfl, rfl, rfl, by decide +kernel, rfl, by decide +kernel, by decide +kernel⟩
theorem mk_50 (Z : ZF K mg base) : MkOk P w K mg base Tb 1 50 := by
  have D := Z.fun_ 68 (p := ("Unfit", some "__init__")) (qual := "Unfit.__init__") (st := si_50) rfl
  exact mkB_ok (List.all_eq_true.mp (exAt Z 3) 50 (by decide)) rfl (exi1_ok (ini Z) (Z.glo 61) (fun_of D) sc_50 (by kernel_rfl) (by kernel_rfl) (by kernel_rfl) rfl rfl rfl (fun _ _ _ => iniEq_of rfl rfl) rfl) (D.bindsN fun _ _ _ _ _ _ us hl => match us, hl with | [_, _], _ => by kernel_rfl)
theorem sc_51 : FnScope ["self"] ["self"] (defScope si_51) := ⟨rfl, rfl, rfl, by decide +kernel, rfl, by decide +kernel, by decide +kernel⟩
theorem mk_51 (Z : ZF K mg base) : MkOk P w K mg base Tb 1 51 := by
  have D := Z.fun_ 69 (p := ("ZeroNumber", some "__init__")) (qual := "ZeroNumber.__init__") (st := si_51) rfl
  exact mkB_ok (List.all_eq_true.mp (exAt Z 3) 51 (by decide)) rfl (exi0_ok (ini Z) (Z.glo 61) (fun_of D) sc_51 (by kernel_rfl) (by kernel_rfl) rfl (fun _ _ _ => iniEq_of rfl rfl) rfl) (D.bindsN fun _ _ _ _ _ _ us hl => match us, hl with | [_], _ => by kernel_rfl)
theorem mkk_43_bound (Z : ZF K mg base) : MkKw P w K mg base Tb 1 43 ["bound"] [0] := by
  have D := Z.fun_ 61 (p := ("NotHolding", some "__init__")) (qual := "NotHolding.__init__") (st := si_43) rfl
  exact mkKwB_ok (List.all_eq_true.mp (exAt Z 3) 43 (by decide)) rfl (exi1_ok (ini Z) (Z.glo 61) (fun_of D) sc_43 (by kernel_rfl) (by kernel_rfl) (by kernel_rfl) rfl rfl rfl (fun _ _ _ => iniEq_of rfl rfl) rfl) (kwBindsI D fun _ _ _ _ _ _ u ws hl => by
    rcases ws with _ | ⟨_, _⟩
    all_goals first
      | (exfalso; simp [permA] at hl; done)
      | kernel_rfl)
theorem mkk_44_index (Z : ZF K mg base) : MkKw P w K mg base Tb 1 44 ["index"] [0] := by
  have D := Z.fun_ 62 (p := ("NotLinear", some "__init__")) (qual := "NotLinear.__init__") (st := si_44) rfl
  exact mkKwB_ok (List.all_eq_true.mp (exAt Z 3) 44 (by decide)) rfl (exi1_ok (ini Z) (Z.glo 61) (fun_of D) sc_44 (by kernel_rfl) (by kernel_rfl) (by kernel_rfl) rfl rfl rfl (fun _ _ _ => iniEq_of rfl rfl) rfl) (kwBindsI D fun _ _ _ _ _ _ u ws hl => by
    rcases ws with _ | ⟨_, _⟩
    all_goals first
      | (exfalso; simp [permA] at hl; done)
      | kernel_rfl)
theorem mkk_45_path (Z : ZF K mg base) : MkKw P w K mg base Tb 1 45 ["path"] [0] := by
  have D := Z.fun_ 63 (p := ("NotThere", some "__init__")) (qual := "NotThere.__init__") (st := si_45) rfl
  exact mkKwB_ok (List.all_eq_true.mp (exAt Z 3) 45 (by decide)) rfl (exi1_ok (ini Z) (Z.glo 61) (fun_of D) sc_45 (by kernel_rfl) (by kernel_rfl) (by kernel_rfl) rfl rfl rfl (fun _ _ _ => iniEq_of rfl rfl) rfl) (kwBindsI D fun _ _ _ _ _ _ u ws hl => by
    rcases ws with _ | ⟨_, _⟩
    all_goals first
      | (exfalso; simp [permA] at hl; done)
      | kernel_rfl)
theorem mkk_49_count (Z : ZF K mg base) : MkKw P w K mg base Tb 1 49 ["count"] [0] := by
  have D := Z.fun_ 67 (p := ("TooMany", some "__init__")) (qual := "TooMany.__init__") (st := si_49) rfl
  exact mkKwB_ok (List.all_eq_true.mp (exAt Z 3) 49 (by decide)) rfl (exi1_ok (ini Z) (Z.glo 61) (fun_of D) sc_49 (by kernel_rfl) (by kernel_rfl) (by kernel_rfl) rfl rfl rfl (fun _ _ _ => iniEq_of rfl rfl) rfl) (kwBindsI D fun _ _ _ _ _ _ u ws hl => by
    rcases ws with _ | ⟨_, _⟩
    all_goals first
      | (exfalso; simp [permA] at hl; done)
      | kernel_rfl)
theorem mkk_50_name (Z : ZF K mg base) : MkKw P w K mg base Tb 1 50 ["name"] [0] := by
  have D := Z.fun_ 68 (p := ("Unfit", some "__init__")) (qual := "Unfit.__init__") (st := si_50) rfl
  exact mkKwB_ok (List.all_eq_true.mp (exAt Z 3) 50 (by decide)) rfl (exi1_ok (ini Z) (Z.glo 61) (fun_of D) sc_50 (by kernel_rfl) (by kernel_rfl) (by kernel_rfl) rfl rfl rfl (fun _ _ _ => iniEq_of rfl rfl) rfl) (kwBindsI D fun _ _ _ _ _ _ u ws hl => by
    rcases ws with _ | ⟨_, _⟩
    all_goals first
      | (exfalso; simp [permA] at hl; done)
      | kernel_rfl)
theorem mkk_29_given (Z : ZF K mg base) : MkKw P w K mg base Tb 1 29 ["given"] [0] := by
  have D := Z.fun_ 47 (p := ("InvalidSteps", some "__init__")) (qual := "InvalidSteps.__init__") (st := si_29) rfl
  exact mkKwB_ok (List.all_eq_true.mp (exAt Z 3) 29 (by decide)) rfl (exi1_ok (ini Z) (Z.glo 61) (fun_of D) sc_29 (by kernel_rfl) (by kernel_rfl) (by kernel_rfl) rfl rfl rfl (fun _ _ _ => iniEq_of rfl rfl) rfl) (kwBindsI D fun _ _ _ _ _ _ u ws hl => by
    rcases ws with _ | ⟨_, _⟩
    all_goals first
      | (exfalso; simp [permA] at hl; done)
      | kernel_rfl)
theorem mkk_30_given (Z : ZF K mg base) : MkKw P w K mg base Tb 1 30 ["given"] [0] := by
  have D := Z.fun_ 48 (p := ("InvalidSystem", some "__init__")) (qual := "InvalidSystem.__init__") (st := si_30) rfl
  exact mkKwB_ok (List.all_eq_true.mp (exAt Z 3) 30 (by decide)) rfl (exi1_ok (ini Z) (Z.glo 61) (fun_of D) sc_30 (by kernel_rfl) (by kernel_rfl) (by kernel_rfl) rfl rfl rfl (fun _ _ _ => iniEq_of rfl rfl) rfl) (kwBindsI D fun _ _ _ _ _ _ u ws hl => by
    rcases ws with _ | ⟨_, _⟩
    all_goals first
      | (exfalso; simp [permA] at hl; done)
      | kernel_rfl)
theorem mkk_31_given (Z : ZF K mg base) : MkKw P w K mg base Tb 1 31 ["given"] [0] := by
  have D := Z.fun_ 49 (p := ("InvalidText", some "__init__")) (qual := "InvalidText.__init__") (st := si_31) rfl
  exact mkKwB_ok (List.all_eq_true.mp (exAt Z 3) 31 (by decide)) rfl (exi1_ok (ini Z) (Z.glo 61) (fun_of D) sc_31 (by kernel_rfl) (by kernel_rfl) (by kernel_rfl) rfl rfl rfl (fun _ _ _ => iniEq_of rfl rfl) rfl) (kwBindsI D fun _ _ _ _ _ _ u ws hl => by
    rcases ws with _ | ⟨_, _⟩
    all_goals first
      | (exfalso; simp [permA] at hl; done)
      | kernel_rfl)
theorem mkk_32_given (Z : ZF K mg base) : MkKw P w K mg base Tb 1 32 ["given"] [0] := by
  have D := Z.fun_ 50 (p := ("InvalidTexts", some "__init__")) (qual := "InvalidTexts.__init__") (st := si_32) rfl
  exact mkKwB_ok (List.all_eq_true.mp (exAt Z 3) 32 (by decide)) rfl (exi1_ok (ini Z) (Z.glo 61) (fun_of D) sc_32 (by kernel_rfl) (by kernel_rfl) (by kernel_rfl) rfl rfl rfl (fun _ _ _ => iniEq_of rfl rfl) rfl) (kwBindsI D fun _ _ _ _ _ _ u ws hl => by
    rcases ws with _ | ⟨_, _⟩
    all_goals first
      | (exfalso; simp [permA] at hl; done)
      | kernel_rfl)
theorem mkk_33_given (Z : ZF K mg base) : MkKw P w K mg base Tb 1 33 ["given"] [0] := by
  have D := Z.fun_ 51 (p := ("InvalidTold", some "__init__")) (qual := "InvalidTold.__init__") (st := si_33) rfl
  exact mkKwB_ok (List.all_eq_true.mp (exAt Z 3) 33 (by decide)) rfl (exi1_ok (ini Z) (Z.glo 61) (fun_of D) sc_33 (by kernel_rfl) (by kernel_rfl) (by kernel_rfl) rfl rfl rfl (fun _ _ _ => iniEq_of rfl rfl) rfl) (kwBindsI D fun _ _ _ _ _ _ u ws hl => by
    rcases ws with _ | ⟨_, _⟩
    all_goals first
      | (exfalso; simp [permA] at hl; done)
      | kernel_rfl)
theorem mkk_34_given (Z : ZF K mg base) : MkKw P w K mg base Tb 1 34 ["given"] [0] := by
  have D := Z.fun_ 52 (p := ("InvalidTop", some "__init__")) (qual := "InvalidTop.__init__") (st := si_34) rfl
  exact mkKwB_ok (List.all_eq_true.mp (exAt Z 3) 34 (by decide)) rfl (exi1_ok (ini Z) (Z.glo 61) (fun_of D) sc_34 (by kernel_rfl) (by kernel_rfl) (by kernel_rfl) rfl rfl rfl (fun _ _ _ => iniEq_of rfl rfl) rfl) (kwBindsI D fun _ _ _ _ _ _ u ws hl => by
    rcases ws with _ | ⟨_, _⟩
    all_goals first
      | (exfalso; simp [permA] at hl; done)
      | kernel_rfl)
theorem mkk_35_given (Z : ZF K mg base) : MkKw P w K mg base Tb 1 35 ["given"] [0] := by
  have D := Z.fun_ 53 (p := ("InvalidWiring", some "__init__")) (qual := "InvalidWiring.__init__") (st := si_35) rfl
  exact mkKwB_ok (List.all_eq_true.mp (exAt Z 3) 35 (by decide)) rfl (exi1_ok (ini Z) (Z.glo 61) (fun_of D) sc_35 (by kernel_rfl) (by kernel_rfl) (by kernel_rfl) rfl rfl rfl (fun _ _ _ => iniEq_of rfl rfl) rfl) (kwBindsI D fun _ _ _ _ _ _ u ws hl => by
    rcases ws with _ | ⟨_, _⟩
    all_goals first
      | (exfalso; simp [permA] at hl; done)
      | kernel_rfl)
theorem mkk_36_row (Z : ZF K mg base) : MkKw P w K mg base Tb 1 36 ["row"] [0] := by
  have D := Z.fun_ 54 (p := ("CanStand", some "__init__")) (qual := "CanStand.__init__") (st := si_36) rfl
  exact mkKwB_ok (List.all_eq_true.mp (exAt Z 3) 36 (by decide)) rfl (exi1_ok (ini Z) (Z.glo 61) (fun_of D) sc_36 (by kernel_rfl) (by kernel_rfl) (by kernel_rfl) rfl rfl rfl (fun _ _ _ => iniEq_of rfl rfl) rfl) (kwBindsI D fun _ _ _ _ _ _ u ws hl => by
    rcases ws with _ | ⟨_, _⟩
    all_goals first
      | (exfalso; simp [permA] at hl; done)
      | kernel_rfl)
theorem mkk_38_line (Z : ZF K mg base) : MkKw P w K mg base Tb 1 38 ["line"] [0] := by
  have D := Z.fun_ 56 (p := ("HasLine", some "__init__")) (qual := "HasLine.__init__") (st := si_38) rfl
  exact mkKwB_ok (List.all_eq_true.mp (exAt Z 3) 38 (by decide)) rfl (exi1_ok (ini Z) (Z.glo 61) (fun_of D) sc_38 (by kernel_rfl) (by kernel_rfl) (by kernel_rfl) rfl rfl rfl (fun _ _ _ => iniEq_of rfl rfl) rfl) (kwBindsI D fun _ _ _ _ _ _ u ws hl => by
    rcases ws with _ | ⟨_, _⟩
    all_goals first
      | (exfalso; simp [permA] at hl; done)
      | kernel_rfl)
theorem mkk_39_index (Z : ZF K mg base) : MkKw P w K mg base Tb 1 39 ["index"] [0] := by
  have D := Z.fun_ 57 (p := ("HasOne", some "__init__")) (qual := "HasOne.__init__") (st := si_39) rfl
  exact mkKwB_ok (List.all_eq_true.mp (exAt Z 3) 39 (by decide)) rfl (exi1_ok (ini Z) (Z.glo 61) (fun_of D) sc_39 (by kernel_rfl) (by kernel_rfl) (by kernel_rfl) rfl rfl rfl (fun _ _ _ => iniEq_of rfl rfl) rfl) (kwBindsI D fun _ _ _ _ _ _ u ws hl => by
    rcases ws with _ | ⟨_, _⟩
    all_goals first
      | (exfalso; simp [permA] at hl; done)
      | kernel_rfl)
theorem mkk_40_name (Z : ZF K mg base) : MkKw P w K mg base Tb 1 40 ["name"] [0] := by
  have D := Z.fun_ 58 (p := ("InUse", some "__init__")) (qual := "InUse.__init__") (st := si_40) rfl
  exact mkKwB_ok (List.all_eq_true.mp (exAt Z 3) 40 (by decide)) rfl (exi1_ok (ini Z) (Z.glo 61) (fun_of D) sc_40 (by kernel_rfl) (by kernel_rfl) (by kernel_rfl) rfl rfl rfl (fun _ _ _ => iniEq_of rfl rfl) rfl) (kwBindsI D fun _ _ _ _ _ _ u ws hl => by
    rcases ws with _ | ⟨_, _⟩
    all_goals first
      | (exfalso; simp [permA] at hl; done)
      | kernel_rfl)
theorem mkk_41_coming_going (Z : ZF K mg base) : MkKw P w K mg base Tb 1 41 ["coming", "going"] [1, 0] := by
  have D := Z.fun_ 59 (p := ("NoExchange", some "__init__")) (qual := "NoExchange.__init__") (st := si_41) rfl
  exact mkKwB_ok (List.all_eq_true.mp (exAt Z 3) 41 (by decide)) rfl (exi2_ok (ini Z) (Z.glo 61) (fun_of D) sc_41 (by kernel_rfl) (by kernel_rfl) (by kernel_rfl) rfl (by kernel_rfl) rfl rfl rfl rfl rfl (fun _ _ _ => iniEq_of rfl rfl) rfl) (kwBindsI D fun _ _ _ _ _ _ u ws hl => by
    rcases ws with _ | ⟨_, _ | ⟨_, _⟩⟩
    all_goals first
      | (exfalso; simp [permA] at hl; done)
      | kernel_rfl)
theorem mkk_42_index (Z : ZF K mg base) : MkKw P w K mg base Tb 1 42 ["index"] [0] := by
  have D := Z.fun_ 60 (p := ("NoStep", some "__init__")) (qual := "NoStep.__init__") (st := si_42) rfl
  exact mkKwB_ok (List.all_eq_true.mp (exAt Z 3) 42 (by decide)) rfl (exi1_ok (ini Z) (Z.glo 61) (fun_of D) sc_42 (by kernel_rfl) (by kernel_rfl) (by kernel_rfl) rfl rfl rfl (fun _ _ _ => iniEq_of rfl rfl) rfl) (kwBindsI D fun _ _ _ _ _ _ u ws hl => by
    rcases ws with _ | ⟨_, _⟩
    all_goals first
      | (exfalso; simp [permA] at hl; done)
      | kernel_rfl)
theorem mkk_15_given (Z : ZF K mg base) : MkKw P w K mg base Tb 1 15 ["given"] [0] := by
  have D := Z.fun_ 33 (p := ("InvalidNumber", some "__init__")) (qual := "InvalidNumber.__init__") (st := si_15) rfl
  exact mkKwB_ok (List.all_eq_true.mp (exAt Z 3) 15 (by decide)) rfl (exi1_ok (ini Z) (Z.glo 61) (fun_of D) sc_15 (by kernel_rfl) (by kernel_rfl) (by kernel_rfl) rfl rfl rfl (fun _ _ _ => iniEq_of rfl rfl) rfl) (kwBindsI D fun _ _ _ _ _ _ u ws hl => by
    rcases ws with _ | ⟨_, _⟩
    all_goals first
      | (exfalso; simp [permA] at hl; done)
      | kernel_rfl)
theorem mkk_16_given (Z : ZF K mg base) : MkKw P w K mg base Tb 1 16 ["given"] [0] := by
  have D := Z.fun_ 34 (p := ("InvalidNumbers", some "__init__")) (qual := "InvalidNumbers.__init__") (st := si_16) rfl
  exact mkKwB_ok (List.all_eq_true.mp (exAt Z 3) 16 (by decide)) rfl (exi1_ok (ini Z) (Z.glo 61) (fun_of D) sc_16 (by kernel_rfl) (by kernel_rfl) (by kernel_rfl) rfl rfl rfl (fun _ _ _ => iniEq_of rfl rfl) rfl) (kwBindsI D fun _ _ _ _ _ _ u ws hl => by
    rcases ws with _ | ⟨_, _⟩
    all_goals first
      | (exfalso; simp [permA] at hl; done)
      | kernel_rfl)
theorem mkk_17_given (Z : ZF K mg base) : MkKw P w K mg base Tb 1 17 ["given"] [0] := by
  have D := Z.fun_ 35 (p := ("InvalidOther", some "__init__")) (qual := "InvalidOther.__init__") (st := si_17) rfl
  exact mkKwB_ok (List.all_eq_true.mp (exAt Z 3) 17 (by decide)) rfl (exi1_ok (ini Z) (Z.glo 61) (fun_of D) sc_17 (by kernel_rfl) (by kernel_rfl) (by kernel_rfl) rfl rfl rfl (fun _ _ _ => iniEq_of rfl rfl) rfl) (kwBindsI D fun _ _ _ _ _ _ u ws hl => by
    rcases ws with _ | ⟨_, _⟩
    all_goals first
      | (exfalso; simp [permA] at hl; done)
      | kernel_rfl)
theorem mkk_18_given (Z : ZF K mg base) : MkKw P w K mg base Tb 1 18 ["given"] [0] := by
  have D := Z.fun_ 36 (p := ("InvalidPaper", some "__init__")) (qual := "InvalidPaper.__init__") (st := si_18) rfl
  exact mkKwB_ok (List.all_eq_true.mp (exAt Z 3) 18 (by decide)) rfl (exi1_ok (ini Z) (Z.glo 61) (fun_of D) sc_18 (by kernel_rfl) (by kernel_rfl) (by kernel_rfl) rfl rfl rfl (fun _ _ _ => iniEq_of rfl rfl) rfl) (kwBindsI D fun _ _ _ _ _ _ u ws hl => by
    rcases ws with _ | ⟨_, _⟩
    all_goals first
      | (exfalso; simp [permA] at hl; done)
      | kernel_rfl)
theorem mkk_19_given (Z : ZF K mg base) : MkKw P w K mg base Tb 1 19 ["given"] [0] := by
  have D := Z.fun_ 37 (p := ("InvalidPart", some "__init__")) (qual := "InvalidPart.__init__") (st := si_19) rfl
  exact mkKwB_ok (List.all_eq_true.mp (exAt Z 3) 19 (by decide)) rfl (exi1_ok (ini Z) (Z.glo 61) (fun_of D) sc_19 (by kernel_rfl) (by kernel_rfl) (by kernel_rfl) rfl rfl rfl (fun _ _ _ => iniEq_of rfl rfl) rfl) (kwBindsI D fun _ _ _ _ _ _ u ws hl => by
    rcases ws with _ | ⟨_, _⟩
    all_goals first
      | (exfalso; simp [permA] at hl; done)
      | kernel_rfl)
theorem mkk_20_given (Z : ZF K mg base) : MkKw P w K mg base Tb 1 20 ["given"] [0] := by
  have D := Z.fun_ 38 (p := ("InvalidPath", some "__init__")) (qual := "InvalidPath.__init__") (st := si_20) rfl
  exact mkKwB_ok (List.all_eq_true.mp (exAt Z 3) 20 (by decide)) rfl (exi1_ok (ini Z) (Z.glo 61) (fun_of D) sc_20 (by kernel_rfl) (by kernel_rfl) (by kernel_rfl) rfl rfl rfl (fun _ _ _ => iniEq_of rfl rfl) rfl) (kwBindsI D fun _ _ _ _ _ _ u ws hl => by
    rcases ws with _ | ⟨_, _⟩
    all_goals first
      | (exfalso; simp [permA] at hl; done)
      | kernel_rfl)
theorem mkk_21_given (Z : ZF K mg base) : MkKw P w K mg base Tb 1 21 ["given"] [0] := by
  have D := Z.fun_ 39 (p := ("InvalidPiece", some "__init__")) (qual := "InvalidPiece.__init__") (st := si_21) rfl
  exact mkKwB_ok (List.all_eq_true.mp (exAt Z 3) 21 (by decide)) rfl (exi1_ok (ini Z) (Z.glo 61) (fun_of D) sc_21 (by kernel_rfl) (by kernel_rfl) (by kernel_rfl) rfl rfl rfl (fun _ _ _ => iniEq_of rfl rfl) rfl) (kwBindsI D fun _ _ _ _ _ _ u ws hl => by
    rcases ws with _ | ⟨_, _⟩
    all_goals first
      | (exfalso; simp [permA] at hl; done)
      | kernel_rfl)
theorem mkk_22_given (Z : ZF K mg base) : MkKw P w K mg base Tb 1 22 ["given"] [0] := by
  have D := Z.fun_ 40 (p := ("InvalidPlace", some "__init__")) (qual := "InvalidPlace.__init__") (st := si_22) rfl
  exact mkKwB_ok (List.all_eq_true.mp (exAt Z 3) 22 (by decide)) rfl (exi1_ok (ini Z) (Z.glo 61) (fun_of D) sc_22 (by kernel_rfl) (by kernel_rfl) (by kernel_rfl) rfl rfl rfl (fun _ _ _ => iniEq_of rfl rfl) rfl) (kwBindsI D fun _ _ _ _ _ _ u ws hl => by
    rcases ws with _ | ⟨_, _⟩
    all_goals first
      | (exfalso; simp [permA] at hl; done)
      | kernel_rfl)
theorem mkk_23_given (Z : ZF K mg base) : MkKw P w K mg base Tb 1 23 ["given"] [0] := by
  have D := Z.fun_ 41 (p := ("InvalidPlaces", some "__init__")) (qual := "InvalidPlaces.__init__") (st := si_23) rfl
  exact mkKwB_ok (List.all_eq_true.mp (exAt Z 3) 23 (by decide)) rfl (exi1_ok (ini Z) (Z.glo 61) (fun_of D) sc_23 (by kernel_rfl) (by kernel_rfl) (by kernel_rfl) rfl rfl rfl (fun _ _ _ => iniEq_of rfl rfl) rfl) (kwBindsI D fun _ _ _ _ _ _ u ws hl => by
    rcases ws with _ | ⟨_, _⟩
    all_goals first
      | (exfalso; simp [permA] at hl; done)
      | kernel_rfl)
theorem mkk_24_given (Z : ZF K mg base) : MkKw P w K mg base Tb 1 24 ["given"] [0] := by
  have D := Z.fun_ 42 (p := ("InvalidRow", some "__init__")) (qual := "InvalidRow.__init__") (st := si_24) rfl
  exact mkKwB_ok (List.all_eq_true.mp (exAt Z 3) 24 (by decide)) rfl (exi1_ok (ini Z) (Z.glo 61) (fun_of D) sc_24 (by kernel_rfl) (by kernel_rfl) (by kernel_rfl) rfl rfl rfl (fun _ _ _ => iniEq_of rfl rfl) rfl) (kwBindsI D fun _ _ _ _ _ _ u ws hl => by
    rcases ws with _ | ⟨_, _⟩
    all_goals first
      | (exfalso; simp [permA] at hl; done)
      | kernel_rfl)
theorem mkk_25_given (Z : ZF K mg base) : MkKw P w K mg base Tb 1 25 ["given"] [0] := by
  have D := Z.fun_ 43 (p := ("InvalidRows", some "__init__")) (qual := "InvalidRows.__init__") (st := si_25) rfl
  exact mkKwB_ok (List.all_eq_true.mp (exAt Z 3) 25 (by decide)) rfl (exi1_ok (ini Z) (Z.glo 61) (fun_of D) sc_25 (by kernel_rfl) (by kernel_rfl) (by kernel_rfl) rfl rfl rfl (fun _ _ _ => iniEq_of rfl rfl) rfl) (kwBindsI D fun _ _ _ _ _ _ u ws hl => by
    rcases ws with _ | ⟨_, _⟩
    all_goals first
      | (exfalso; simp [permA] at hl; done)
      | kernel_rfl)
theorem mkk_26_given (Z : ZF K mg base) : MkKw P w K mg base Tb 1 26 ["given"] [0] := by
  have D := Z.fun_ 44 (p := ("InvalidSheet", some "__init__")) (qual := "InvalidSheet.__init__") (st := si_26) rfl
  exact mkKwB_ok (List.all_eq_true.mp (exAt Z 3) 26 (by decide)) rfl (exi1_ok (ini Z) (Z.glo 61) (fun_of D) sc_26 (by kernel_rfl) (by kernel_rfl) (by kernel_rfl) rfl rfl rfl (fun _ _ _ => iniEq_of rfl rfl) rfl) (kwBindsI D fun _ _ _ _ _ _ u ws hl => by
    rcases ws with _ | ⟨_, _⟩
    all_goals first
      | (exfalso; simp [permA] at hl; done)
      | kernel_rfl)
theorem mkk_27_given (Z : ZF K mg base) : MkKw P w K mg base Tb 1 27 ["given"] [0] := by
  have D := Z.fun_ 45 (p := ("InvalidShelf", some "__init__")) (qual := "InvalidShelf.__init__") (st := si_27) rfl
  exact mkKwB_ok (List.all_eq_true.mp (exAt Z 3) 27 (by decide)) rfl (exi1_ok (ini Z) (Z.glo 61) (fun_of D) sc_27 (by kernel_rfl) (by kernel_rfl) (by kernel_rfl) rfl rfl rfl (fun _ _ _ => iniEq_of rfl rfl) rfl) (kwBindsI D fun _ _ _ _ _ _ u ws hl => by
    rcases ws with _ | ⟨_, _⟩
    all_goals first
      | (exfalso; simp [permA] at hl; done)
      | kernel_rfl)
theorem mkk_28_given (Z : ZF K mg base) : MkKw P w K mg base Tb 1 28 ["given"] [0] := by
  have D := Z.fun_ 46 (p := ("InvalidStep", some "__init__")) (qual := "InvalidStep.__init__") (st := si_28) rfl
  exact mkKwB_ok (List.all_eq_true.mp (exAt Z 3) 28 (by decide)) rfl (exi1_ok (ini Z) (Z.glo 61) (fun_of D) sc_28 (by kernel_rfl) (by kernel_rfl) (by kernel_rfl) rfl rfl rfl (fun _ _ _ => iniEq_of rfl rfl) rfl) (kwBindsI D fun _ _ _ _ _ _ u ws hl => by
    rcases ws with _ | ⟨_, _⟩
    all_goals first
      | (exfalso; simp [permA] at hl; done)
      | kernel_rfl)
theorem mkk_1_given (Z : ZF K mg base) : MkKw P w K mg base Tb 1 1 ["given"] [0] := by
  have D := Z.fun_ 19 (p := ("InvalidBase", some "__init__")) (qual := "InvalidBase.__init__") (st := si_1) rfl
  exact mkKwB_ok (List.all_eq_true.mp (exAt Z 3) 1 (by decide)) rfl (exi1_ok (ini Z) (Z.glo 61) (fun_of D) sc_1 (by kernel_rfl) (by kernel_rfl) (by kernel_rfl) rfl rfl rfl (fun _ _ _ => iniEq_of rfl rfl) rfl) (kwBindsI D fun _ _ _ _ _ _ u ws hl => by
    rcases ws with _ | ⟨_, _⟩
    all_goals first
      | (exfalso; simp [permA] at hl; done)
      | kernel_rfl)
theorem mkk_2_given (Z : ZF K mg base) : MkKw P w K mg base Tb 1 2 ["given"] [0] := by
  have D := Z.fun_ 20 (p := ("InvalidBound", some "__init__")) (qual := "InvalidBound.__init__") (st := si_2) rfl
  exact mkKwB_ok (List.all_eq_true.mp (exAt Z 3) 2 (by decide)) rfl (exi1_ok (ini Z) (Z.glo 61) (fun_of D) sc_2 (by kernel_rfl) (by kernel_rfl) (by kernel_rfl) rfl rfl rfl (fun _ _ _ => iniEq_of rfl rfl) rfl) (kwBindsI D fun _ _ _ _ _ _ u ws hl => by
    rcases ws with _ | ⟨_, _⟩
    all_goals first
      | (exfalso; simp [permA] at hl; done)
      | kernel_rfl)
theorem mkk_3_given (Z : ZF K mg base) : MkKw P w K mg base Tb 1 3 ["given"] [0] := by
  have D := Z.fun_ 21 (p := ("InvalidContext", some "__init__")) (qual := "InvalidContext.__init__") (st := si_3) rfl
  exact mkKwB_ok (List.all_eq_true.mp (exAt Z 3) 3 (by decide)) rfl (exi1_ok (ini Z) (Z.glo 61) (fun_of D) sc_3 (by kernel_rfl) (by kernel_rfl) (by kernel_rfl) rfl rfl rfl (fun _ _ _ => iniEq_of rfl rfl) rfl) (kwBindsI D fun _ _ _ _ _ _ u ws hl => by
    rcases ws with _ | ⟨_, _⟩
    all_goals first
      | (exfalso; simp [permA] at hl; done)
      | kernel_rfl)
theorem mkk_4_given (Z : ZF K mg base) : MkKw P w K mg base Tb 1 4 ["given"] [0] := by
  have D := Z.fun_ 22 (p := ("InvalidCount", some "__init__")) (qual := "InvalidCount.__init__") (st := si_4) rfl
  exact mkKwB_ok (List.all_eq_true.mp (exAt Z 3) 4 (by decide)) rfl (exi1_ok (ini Z) (Z.glo 61) (fun_of D) sc_4 (by kernel_rfl) (by kernel_rfl) (by kernel_rfl) rfl rfl rfl (fun _ _ _ => iniEq_of rfl rfl) rfl) (kwBindsI D fun _ _ _ _ _ _ u ws hl => by
    rcases ws with _ | ⟨_, _⟩
    all_goals first
      | (exfalso; simp [permA] at hl; done)
      | kernel_rfl)
theorem mkk_5_given (Z : ZF K mg base) : MkKw P w K mg base Tb 1 5 ["given"] [0] := by
  have D := Z.fun_ 23 (p := ("InvalidEnd", some "__init__")) (qual := "InvalidEnd.__init__") (st := si_5) rfl
  exact mkKwB_ok (List.all_eq_true.mp (exAt Z 3) 5 (by decide)) rfl (exi1_ok (ini Z) (Z.glo 61) (fun_of D) sc_5 (by kernel_rfl) (by kernel_rfl) (by kernel_rfl) rfl rfl rfl (fun _ _ _ => iniEq_of rfl rfl) rfl) (kwBindsI D fun _ _ _ _ _ _ u ws hl => by
    rcases ws with _ | ⟨_, _⟩
    all_goals first
      | (exfalso; simp [permA] at hl; done)
      | kernel_rfl)
theorem mkk_6_given (Z : ZF K mg base) : MkKw P w K mg base Tb 1 6 ["given"] [0] := by
  have D := Z.fun_ 24 (p := ("InvalidFees", some "__init__")) (qual := "InvalidFees.__init__") (st := si_6) rfl
  exact mkKwB_ok (List.all_eq_true.mp (exAt Z 3) 6 (by decide)) rfl (exi1_ok (ini Z) (Z.glo 61) (fun_of D) sc_6 (by kernel_rfl) (by kernel_rfl) (by kernel_rfl) rfl rfl rfl (fun _ _ _ => iniEq_of rfl rfl) rfl) (kwBindsI D fun _ _ _ _ _ _ u ws hl => by
    rcases ws with _ | ⟨_, _⟩
    all_goals first
      | (exfalso; simp [permA] at hl; done)
      | kernel_rfl)
theorem mkk_7_given (Z : ZF K mg base) : MkKw P w K mg base Tb 1 7 ["given"] [0] := by
  have D := Z.fun_ 25 (p := ("InvalidFilling", some "__init__")) (qual := "InvalidFilling.__init__") (st := si_7) rfl
  exact mkKwB_ok (List.all_eq_true.mp (exAt Z 3) 7 (by decide)) rfl (exi1_ok (ini Z) (Z.glo 61) (fun_of D) sc_7 (by kernel_rfl) (by kernel_rfl) (by kernel_rfl) rfl rfl rfl (fun _ _ _ => iniEq_of rfl rfl) rfl) (kwBindsI D fun _ _ _ _ _ _ u ws hl => by
    rcases ws with _ | ⟨_, _⟩
    all_goals first
      | (exfalso; simp [permA] at hl; done)
      | kernel_rfl)
theorem mkk_8_given (Z : ZF K mg base) : MkKw P w K mg base Tb 1 8 ["given"] [0] := by
  have D := Z.fun_ 26 (p := ("InvalidForm", some "__init__")) (qual := "InvalidForm.__init__") (st := si_8) rfl
  exact mkKwB_ok (List.all_eq_true.mp (exAt Z 3) 8 (by decide)) rfl (exi1_ok (ini Z) (Z.glo 61) (fun_of D) sc_8 (by kernel_rfl) (by kernel_rfl) (by kernel_rfl) rfl rfl rfl (fun _ _ _ => iniEq_of rfl rfl) rfl) (kwBindsI D fun _ _ _ _ _ _ u ws hl => by
    rcases ws with _ | ⟨_, _⟩
    all_goals first
      | (exfalso; simp [permA] at hl; done)
      | kernel_rfl)
theorem mkk_9_given (Z : ZF K mg base) : MkKw P w K mg base Tb 1 9 ["given"] [0] := by
  have D := Z.fun_ 27 (p := ("InvalidIndex", some "__init__")) (qual := "InvalidIndex.__init__") (st := si_9) rfl
  exact mkKwB_ok (List.all_eq_true.mp (exAt Z 3) 9 (by decide)) rfl (exi1_ok (ini Z) (Z.glo 61) (fun_of D) sc_9 (by kernel_rfl) (by kernel_rfl) (by kernel_rfl) rfl rfl rfl (fun _ _ _ => iniEq_of rfl rfl) rfl) (kwBindsI D fun _ _ _ _ _ _ u ws hl => by
    rcases ws with _ | ⟨_, _⟩
    all_goals first
      | (exfalso; simp [permA] at hl; done)
      | kernel_rfl)
theorem mkk_10_given (Z : ZF K mg base) : MkKw P w K mg base Tb 1 10 ["given"] [0] := by
  have D := Z.fun_ 28 (p := ("InvalidLines", some "__init__")) (qual := "InvalidLines.__init__") (st := si_10) rfl
  exact mkKwB_ok (List.all_eq_true.mp (exAt Z 3) 10 (by decide)) rfl (exi1_ok (ini Z) (Z.glo 61) (fun_of D) sc_10 (by kernel_rfl) (by kernel_rfl) (by kernel_rfl) rfl rfl rfl (fun _ _ _ => iniEq_of rfl rfl) rfl) (kwBindsI D fun _ _ _ _ _ _ u ws hl => by
    rcases ws with _ | ⟨_, _⟩
    all_goals first
      | (exfalso; simp [permA] at hl; done)
      | kernel_rfl)
theorem mkk_11_given (Z : ZF K mg base) : MkKw P w K mg base Tb 1 11 ["given"] [0] := by
  have D := Z.fun_ 29 (p := ("InvalidLot", some "__init__")) (qual := "InvalidLot.__init__") (st := si_11) rfl
  exact mkKwB_ok (List.all_eq_true.mp (exAt Z 3) 11 (by decide)) rfl (exi1_ok (ini Z) (Z.glo 61) (fun_of D) sc_11 (by kernel_rfl) (by kernel_rfl) (by kernel_rfl) rfl rfl rfl (fun _ _ _ => iniEq_of rfl rfl) rfl) (kwBindsI D fun _ _ _ _ _ _ u ws hl => by
    rcases ws with _ | ⟨_, _⟩
    all_goals first
      | (exfalso; simp [permA] at hl; done)
      | kernel_rfl)
theorem mkk_12_given (Z : ZF K mg base) : MkKw P w K mg base Tb 1 12 ["given"] [0] := by
  have D := Z.fun_ 30 (p := ("InvalidMachine", some "__init__")) (qual := "InvalidMachine.__init__") (st := si_12) rfl
  exact mkKwB_ok (List.all_eq_true.mp (exAt Z 3) 12 (by decide)) rfl (exi1_ok (ini Z) (Z.glo 61) (fun_of D) sc_12 (by kernel_rfl) (by kernel_rfl) (by kernel_rfl) rfl rfl rfl (fun _ _ _ => iniEq_of rfl rfl) rfl) (kwBindsI D fun _ _ _ _ _ _ u ws hl => by
    rcases ws with _ | ⟨_, _⟩
    all_goals first
      | (exfalso; simp [permA] at hl; done)
      | kernel_rfl)
theorem mkk_13_given (Z : ZF K mg base) : MkKw P w K mg base Tb 1 13 ["given"] [0] := by
  have D := Z.fun_ 31 (p := ("InvalidMost", some "__init__")) (qual := "InvalidMost.__init__") (st := si_13) rfl
  exact mkKwB_ok (List.all_eq_true.mp (exAt Z 3) 13 (by decide)) rfl (exi1_ok (ini Z) (Z.glo 61) (fun_of D) sc_13 (by kernel_rfl) (by kernel_rfl) (by kernel_rfl) rfl rfl rfl (fun _ _ _ => iniEq_of rfl rfl) rfl) (kwBindsI D fun _ _ _ _ _ _ u ws hl => by
    rcases ws with _ | ⟨_, _⟩
    all_goals first
      | (exfalso; simp [permA] at hl; done)
      | kernel_rfl)
theorem mkk_14_given (Z : ZF K mg base) : MkKw P w K mg base Tb 1 14 ["given"] [0] := by
  have D := Z.fun_ 32 (p := ("InvalidName", some "__init__")) (qual := "InvalidName.__init__") (st := si_14) rfl
  exact mkKwB_ok (List.all_eq_true.mp (exAt Z 3) 14 (by decide)) rfl (exi1_ok (ini Z) (Z.glo 61) (fun_of D) sc_14 (by kernel_rfl) (by kernel_rfl) (by kernel_rfl) rfl rfl rfl (fun _ _ _ => iniEq_of rfl rfl) rfl) (kwBindsI D fun _ _ _ _ _ _ u ws hl => by
    rcases ws with _ | ⟨_, _⟩
    all_goals first
      | (exfalso; simp [permA] at hl; done)
      | kernel_rfl)
theorem sc__law_cell : FnScope N__law_cell ["script", "k"] (defScope st__law_cell) := ⟨rfl, rfl, rfl, by decide +kernel, rfl, by decide +kernel, by decide +kernel⟩
theorem co__law_cell (Z : ZF K mg base) : CO P w K mg base Tb "_law_cell" 1 ["script", "k"] g__law_cell := by
  have S := sc__law_cell
  exact Z.co 0 66 rfl rfl S (fun _ _ _ _ _ _ us hl => match us, hl with | [_, _], _ => by kernel_rfl) fun cdv A outer s H E hr => (ss_one (s_ret (e_if (t_cmp op_pLt (e_v 1 (by kernel_rfl)) (e_callB call_pLen (gl_ (by kernel_rfl)) (Z.free 0) PyProof.Rows.Boot.«len» (a_cons (e_v 0 (by kernel_rfl)) a_nil)) (nomark _)) (e_ix (e_v 0 (by kernel_rfl)) (e_v 1 (by kernel_rfl)) (fun _ _ => rfl)) (e_bin op_pAdd (e_bin op_pMul e_int (e_v 1 (by kernel_rfl))) (e_bin op_pMod (e_callTy call_pInt (gl_ (by kernel_rfl)) (Z.free 2) PyProof.Rows.Boot.«int» (a_cons (e_callB (call_pSum rfl) (gl_ (by kernel_rfl)) (Z.free 1) PyProof.Rows.Boot.«sum» (a_cons (e_sl (e_v 0 (by kernel_rfl)) o_none (o_some e_int)) a_nil)) a_nil)) e_int)))))
theorem sc__law_box : FnScope N__law_box ["great"] (defScope st__law_box) := ⟨rfl, rfl, rfl, by decide +kernel, rfl, by decide +kernel, by decide +kernel⟩
theorem co__law_box (Z : ZF K mg base) : CO P w K mg base Tb "_law_box" 1 ["great"] g__law_box := by
  have S := sc__law_box
  exact Z.co 1 67 rfl rfl S (fun _ _ _ _ _ _ us hl => match us, hl with | [_], _ => by kernel_rfl) fun cdv A outer s H E hr => (ss_one (s_ret (e_lst (a_cons (e_callB call_pAbs (gl_ (by kernel_rfl)) (Z.free 3) PyProof.Rows.Boot.«abs» (a_cons (e_v 0 (by kernel_rfl)) a_nil)) (a_cons (e_cmp op_pGe (e_callB call_pAbs (gl_ (by kernel_rfl)) (Z.free 3) PyProof.Rows.Boot.«abs» (a_cons (e_v 0 (by kernel_rfl)) a_nil)) (e_bin op_pPow e_int e_int) (nomark _)) (a_cons (e_bin op_pMod (e_callTy call_pInt (gl_ (by kernel_rfl)) (Z.free 2) PyProof.Rows.Boot.«int» (a_cons (e_callB call_pAbs (gl_ (by kernel_rfl)) (Z.free 3) PyProof.Rows.Boot.«abs» (a_cons (e_v 0 (by kernel_rfl)) a_nil)) a_nil)) e_int) (a_cons e_int a_nil)))))))
theorem sc__law_take : FnScope N__law_take ["box", "many"] (defScope st__law_take) := ⟨rfl, rfl, rfl, by decide +kernel, rfl, by decide +kernel, by decide +kernel⟩
theorem co__law_take (Z : ZF K mg base) : CO P w K mg base Tb "_law_take" 1 ["box", "many"] g__law_take := by
  have S := sc__law_take
  exact Z.co 2 68 rfl rfl S (fun _ _ _ _ _ _ us hl => match us, hl with | [_, _], _ => by kernel_rfl) fun cdv A outer s H E hr => (ss_cons (s_if (PW.pt (t_and (t_tru (e_ix (e_v 0 (by kernel_rfl)) e_int (fun _ _ => rfl)) (fun _ => rfl)) (pw_and1 (t_cmp op_pGt (e_ix (e_v 0 (by kernel_rfl)) e_int (fun _ _ => rfl)) e_int (nomark _))))) (ss_cons (s_setV 3 S.nd (by kernel_rfl) (e_bin op_pMod (e_callTy call_pInt (gl_ (by kernel_rfl)) (Z.free 2) PyProof.Rows.Boot.«int» (a_cons (e_ix (e_v 0 (by kernel_rfl)) e_int (fun _ _ => rfl)) a_nil)) (e_v 1 (by kernel_rfl))) rfl)
  (ss_cons (s_asg (e_bin op_pDiv (e_ix (e_v 0 (by kernel_rfl)) e_int (fun _ _ => rfl)) (e_v 1 (by kernel_rfl))) (g_sub (W := WN) (e_v 0 (by kernel_rfl)) e_int))
  (ss_one (s_ret (e_v 3 (by kernel_rfl)))))) ss_nil)
  (ss_cons (s_asg (e_bin op_pAdd (e_ix (e_v 0 (by kernel_rfl)) e_int (fun _ _ => rfl)) e_int) (g_sub (W := WN) (e_v 0 (by kernel_rfl)) e_int))
  (ss_cons (s_setV 2 S.nd (by kernel_rfl) (e_bin op_pMod (e_callTy call_pInt (gl_ (by kernel_rfl)) (Z.free 2) PyProof.Rows.Boot.«int» (a_cons (e_bin op_pPow (e_bin op_pAdd (e_bin op_pAdd (e_ix (e_v 0 (by kernel_rfl)) e_int (fun _ _ => rfl)) (e_bin op_pMul e_int (e_ix (e_v 0 (by kernel_rfl)) e_int (fun _ _ => rfl)))) e_int) e_int) a_nil)) e_int) rfl)
  (ss_one (s_ret (e_bin op_pMod (e_callTy call_pInt (gl_ (by kernel_rfl)) (Z.free 2) PyProof.Rows.Boot.«int» (a_cons (e_bin op_pDiv (e_bin op_pMod (e_callTy call_pInt (gl_ (by kernel_rfl)) (Z.free 2) PyProof.Rows.Boot.«int» (a_cons (e_bin op_pPow (e_bin op_pAdd (e_bin op_pMul (e_v 2 (by kernel_rfl)) e_int) (e_bin op_pMul e_int (e_ix (e_v 0 (by kernel_rfl)) e_int (fun _ _ => rfl)))) e_int) a_nil)) e_int) e_int) a_nil)) (e_v 1 (by kernel_rfl))))))))
theorem sc__law_same : FnScope N__law_same ["told", "due"] (defScope st__law_same) := ⟨rfl, rfl, rfl, by decide +kernel, rfl, by decide +kernel, by decide +kernel⟩
theorem co__law_same (Z : ZF K mg base) : ∀ n, CO P w K mg base Tb "_law_same" (1 + n) ["told", "due"] (g__law_same n)
  | 0 => ⟨⟨fun vs H Q E ⟨ds, ρ, S, _, _, h⟩ => h.elim, fun A outer s H args us vs Q E _ _ _ _ ⟨ds, ρ, S, _, _, h⟩ => h.elim⟩, Z.glo 69, (Z.fun_ 3 (p := ("_law_same", none)) (qual := "_law_same") (st := st__law_same) rfl).kp, (Z.fun_ 3 (p := ("_law_same", none)) (qual := "_law_same") (st := st__law_same) rfl).bindsN (fun _ _ _ _ _ _ us hl => match us, hl with | [_, _], _ => by kernel_rfl)⟩
  | n + 1 => by
    have S := sc__law_same
    have IH := co__law_same Z n
    exact Z.co 3 69 rfl rfl S (fun _ _ _ _ _ _ us hl => match us, hl with | [_, _], _ => by kernel_rfl) fun cdv A outer s H E hr => (ss_cons (s_if (PW.pt (t_or (t_cmp op_pIs (e_v 1 (by kernel_rfl)) e_non (nomark _)) (pw_or1 (t_tru (e_isi1 (t := .ty "bool") (xc Z) (isi_0 Z) (gl_ (by kernel_rfl)) (Z.free 4) (e_v 1 (by kernel_rfl)) (n_ty (gl_ (by kernel_rfl)) (Z.free 5) PyProof.Rows.Boot.«bool»)) (fun _ => rfl))))) (ss_one (s_ret (e_if (t_cmp op_pIs (e_v 1 (by kernel_rfl)) e_non (nomark _)) (e_cmp op_pIs (e_v 0 (by kernel_rfl)) e_non (nomark _)) (e_and (e_isi1 (t := .ty "bool") (xc Z) (isi_0 Z) (gl_ (by kernel_rfl)) (Z.free 4) (e_v 0 (by kernel_rfl)) (n_ty (gl_ (by kernel_rfl)) (Z.free 5) PyProof.Rows.Boot.«bool»)) (pe_one (e_cmp (op_pEq hr.units) (e_cmp op_pIs (e_v 0 (by kernel_rfl)) e_bl (nomark _)) (e_cmp op_pIs (e_v 1 (by kernel_rfl)) e_bl (nomark _)) (nomark _))))))) ss_nil)
  (ss_cons (s_if (t_tru (e_isi1 (t := .ty "int") (xc Z) (isi_1 Z) (gl_ (by kernel_rfl)) (Z.free 4) (e_v 1 (by kernel_rfl)) (n_ty (gl_ (by kernel_rfl)) (Z.free 2) PyProof.Rows.Boot.«int»)) (fun _ => rfl)) (ss_one (s_ret (e_and (e_isi1 (t := .ty "int") (xc Z) (isi_1 Z) (gl_ (by kernel_rfl)) (Z.free 4) (e_v 0 (by kernel_rfl)) (n_ty (gl_ (by kernel_rfl)) (Z.free 2) PyProof.Rows.Boot.«int»)) (e_and (e_not (e_isi1 (t := .ty "bool") (xc Z) (isi_0 Z) (gl_ (by kernel_rfl)) (Z.free 4) (e_v 0 (by kernel_rfl)) (n_ty (gl_ (by kernel_rfl)) (Z.free 5) PyProof.Rows.Boot.«bool»))) (pe_one (e_cmp (op_pEq hr.units) (e_v 0 (by kernel_rfl)) (e_v 1 (by kernel_rfl)) (nomark _))))))) ss_nil)
  (ss_cons (s_if (t_tru (e_isi1 (t := .ty "str") (xc Z) (isi_2 Z) (gl_ (by kernel_rfl)) (Z.free 4) (e_v 1 (by kernel_rfl)) (n_ty (gl_ (by kernel_rfl)) (Z.free 6) PyProof.Rows.Boot.«str»)) (fun _ => rfl)) (ss_one (s_ret (e_and (e_isi1 (t := .ty "str") (xc Z) (isi_2 Z) (gl_ (by kernel_rfl)) (Z.free 4) (e_v 0 (by kernel_rfl)) (n_ty (gl_ (by kernel_rfl)) (Z.free 6) PyProof.Rows.Boot.«str»)) (pe_one (e_cmp (op_pEq hr.units) (e_v 0 (by kernel_rfl)) (e_v 1 (by kernel_rfl)) (nomark _)))))) ss_nil)
  (ss_cons (s_if (PW.pt (t_or (t_not (t_tru (e_isiN (ts := [.ty "list", .ty "tuple"]) (xc Z) (isi_3 Z) (by decide) (gl_ (by kernel_rfl)) (Z.free 4) (e_v 0 (by kernel_rfl)) (cn_cons (n_ty (gl_ (by kernel_rfl)) (Z.free 8) PyProof.Rows.Boot.«list») (cn_cons (n_ty (gl_ (by kernel_rfl)) (Z.free 7) PyProof.Rows.Boot.«tuple») cn_nil))) (fun _ => rfl))) (t_or (t_cmp (op_pNe hr.units) (e_isi1 (t := .ty "list") (xc Z) (isi_4 Z) (gl_ (by kernel_rfl)) (Z.free 4) (e_v 0 (by kernel_rfl)) (n_ty (gl_ (by kernel_rfl)) (Z.free 8) PyProof.Rows.Boot.«list»)) (e_isi1 (t := .ty "list") (xc Z) (isi_4 Z) (gl_ (by kernel_rfl)) (Z.free 4) (e_v 1 (by kernel_rfl)) (n_ty (gl_ (by kernel_rfl)) (Z.free 8) PyProof.Rows.Boot.«list»)) (nomark _)) (pw_or1 (t_cmp (op_pNe hr.units) (e_callB call_pLen (gl_ (by kernel_rfl)) (Z.free 0) PyProof.Rows.Boot.«len» (a_cons (e_v 0 (by kernel_rfl)) a_nil)) (e_callB call_pLen (gl_ (by kernel_rfl)) (Z.free 0) PyProof.Rows.Boot.«len» (a_cons (e_v 1 (by kernel_rfl)) a_nil)) (nomark _)))))) (ss_one (s_ret e_bl)) ss_nil)
  (ss_one (s_ret (e_cmp (op_pEq hr.units) (e_lc (own := [(("k" : Str), 2)]) rfl S.nd (i_range1 (gl_ (by kernel_rfl)) (Z.free 9) (a_cons (e_callB call_pLen (gl_ (by kernel_rfl)) (Z.free 0) PyProof.Rows.Boot.«len» (a_cons (e_v 1 (by kernel_rfl)) a_nil)) a_nil)) (blk_of (by kernel_rfl)) (fun _ _ _ _ _ => (g_nameV 2 S.nd (by kernel_rfl) (by first | exact .inl rfl | exact .inr rfl))) (fun _ _ _ _ _ => (ts_one (t_not (t_tru (e_callZ IH takesN hr (gl_ (by kernel_rfl)) (a_cons (e_ix (e_v 0 (by kernel_rfl)) (e_v 2 (by kernel_rfl)) (fun _ _ => rfl)) (a_cons (e_ix (e_v 1 (by kernel_rfl)) (e_v 2 (by kernel_rfl)) (fun _ _ => rfl)) a_nil)) rfl) (fun _ => rfl))))) (fun _ _ _ _ _ => (e_v 2 (by kernel_rfl)))) (e_lst a_nil) (nomark _))))))))
theorem sc__law_blamed : FnScope N__law_blamed ["given", "value"] (defScope st__law_blamed) := ⟨rfl, rfl, rfl, by decide +kernel, rfl, by decide +kernel, by decide +kernel⟩
theorem co__law_blamed (Z : ZF K mg base) : CO P w K mg base Tb "_law_blamed" 14 ["given", "value"] g__law_blamed := by
  have S := sc__law_blamed
  exact Z.co 4 70 rfl rfl S (fun _ _ _ _ _ _ us hl => match us, hl with | [_, _], _ => by kernel_rfl) fun cdv A outer s H E hr => (ss_cons (s_if (t_not (t_tru (e_callZ (co__law_same Z 12) takesB (hr.mono (by omega)) (gl_ (by kernel_rfl)) (a_cons (e_v 0 (by kernel_rfl)) (a_cons (e_v 1 (by kernel_rfl)) a_nil)) rfl) (fun _ => rfl))) (ss_one (s_ret e_bl)) ss_nil)
  (ss_cons (s_if (t_tru (e_isi1 (t := .ty "list") (xc Z) (isi_4 Z) (gl_ (by kernel_rfl)) (Z.free 4) (e_v 1 (by kernel_rfl)) (n_ty (gl_ (by kernel_rfl)) (Z.free 8) PyProof.Rows.Boot.«list»)) (fun _ => rfl)) (ss_one (s_expr (e_mthL PySem.F.slot_list_append rfl mt_pAppend (e_v 1 (by kernel_rfl)) (a_cons e_int a_nil)))) ss_nil)
  (ss_one (s_ret (e_callZ (co__law_same Z 12) takesB (hr.mono (by omega)) (gl_ (by kernel_rfl)) (a_cons (e_v 0 (by kernel_rfl)) (a_cons (e_v 1 (by kernel_rfl)) a_nil)) rfl)))))
theorem sc__law_value : FnScope N__law_value ["box"] (defScope st__law_value) := ⟨rfl, rfl, rfl, by decide +kernel, rfl, by decide +kernel, by decide +kernel⟩
theorem co__law_value (Z : ZF K mg base) : CO P w K mg base Tb "_law_value" 2 ["box"] g__law_value := by
  have S := sc__law_value
  exact Z.co 5 71 rfl rfl S (fun _ _ _ _ _ _ us hl => match us, hl with | [_], _ => by kernel_rfl) fun cdv A outer s H E hr => (ss_cons (s_setV 1 S.nd (by kernel_rfl) (e_lst (a_cons e_non (a_cons e_bl (a_cons e_bl (a_cons e_int (a_cons (e_neg e_int) (a_cons e_int (a_cons e_str (a_cons e_str (a_cons (e_lst a_nil) (a_cons (e_lst (a_cons e_int (a_cons (e_lst (a_cons e_int a_nil)) a_nil))) (a_cons (e_tup a_nil) (a_cons (e_tup (a_cons e_int (a_cons e_int a_nil))) (a_cons (e_tup (a_cons e_str (a_cons (e_tup (a_cons e_str a_nil)) (a_cons (e_tup (a_cons e_str a_nil)) a_nil)))) (a_cons e_str a_nil))))))))))))))) rfl)
  (ss_one (s_ret (e_ix (e_v 1 (by kernel_rfl)) (e_callZ (co__law_take Z) takesB (hr.mono (by omega)) (gl_ (by kernel_rfl)) (a_cons (e_v 0 (by kernel_rfl)) (a_cons e_int a_nil)) rfl) (fun _ _ => rfl)))))
theorem sc__law_made_3 : FnScope N__law_made_3 ["k", "one", "other", "by_name"] (defScope st__law_made_3) := ⟨rfl, rfl, rfl, by decide +kernel, rfl, by decide +kernel, by decide +kernel⟩
theorem co__law_made_3 (Z : ZF K mg base) : CO P w K mg base Tb "_law_made_3" 3 ["k", "one", "other", "by_name"] g__law_made_3 := by
  have S := sc__law_made_3
  exact Z.co 6 72 rfl rfl S (fun _ _ _ _ _ _ us hl => match us, hl with | [_, _, _, _], _ => by kernel_rfl) fun cdv A outer s H E hr => (ss_cons (s_if (t_cmp (op_pEq hr.units) (e_v 0 (by kernel_rfl)) e_int (nomark _)) (ss_one (s_ret (e_if (t_tru (e_v 3 (by kernel_rfl)) (fun _ => rfl)) (e_mkKw (ks := ["bound"]) (perm := [0]) (mkk_43_bound Z) (hr.mono (by omega)) (gl_ (by kernel_rfl)) (Z.glo 10) (n := 1) rfl (k_cons (e_v 1 (by kernel_rfl)) k_nil)) (e_mk (mk_43 Z) (hr.mono (by omega)) (gl_ (by kernel_rfl)) (Z.glo 10) (n := 1) rfl (by decide) (a_cons (e_v 1 (by kernel_rfl)) a_nil))))) ss_nil)
  (ss_cons (s_if (t_cmp (op_pEq hr.units) (e_v 0 (by kernel_rfl)) e_int (nomark _)) (ss_one (s_ret (e_if (t_tru (e_v 3 (by kernel_rfl)) (fun _ => rfl)) (e_mkKw (ks := ["index"]) (perm := [0]) (mkk_44_index Z) (hr.mono (by omega)) (gl_ (by kernel_rfl)) (Z.glo 11) (n := 1) rfl (k_cons (e_v 1 (by kernel_rfl)) k_nil)) (e_mk (mk_44 Z) (hr.mono (by omega)) (gl_ (by kernel_rfl)) (Z.glo 11) (n := 1) rfl (by decide) (a_cons (e_v 1 (by kernel_rfl)) a_nil))))) ss_nil)
  (ss_cons (s_if (t_cmp (op_pEq hr.units) (e_v 0 (by kernel_rfl)) e_int (nomark _)) (ss_one (s_ret (e_if (t_tru (e_v 3 (by kernel_rfl)) (fun _ => rfl)) (e_mkKw (ks := ["path"]) (perm := [0]) (mkk_45_path Z) (hr.mono (by omega)) (gl_ (by kernel_rfl)) (Z.glo 12) (n := 1) rfl (k_cons (e_v 1 (by kernel_rfl)) k_nil)) (e_mk (mk_45 Z) (hr.mono (by omega)) (gl_ (by kernel_rfl)) (Z.glo 12) (n := 1) rfl (by decide) (a_cons (e_v 1 (by kernel_rfl)) a_nil))))) ss_nil)
  (ss_cons (s_if (t_cmp (op_pEq hr.units) (e_v 0 (by kernel_rfl)) e_int (nomark _)) (ss_one (s_ret (e_mk0 (mk_46 Z) (hr.mono (by omega)) (gl_ (by kernel_rfl)) (Z.glo 13) rfl))) ss_nil)
  (ss_cons (s_if (t_cmp (op_pEq hr.units) (e_v 0 (by kernel_rfl)) e_int (nomark _)) (ss_one (s_ret (e_mk0 (mk_47 Z) (hr.mono (by omega)) (gl_ (by kernel_rfl)) (Z.glo 14) rfl))) ss_nil)
  (ss_cons (s_if (t_cmp (op_pEq hr.units) (e_v 0 (by kernel_rfl)) e_int (nomark _)) (ss_one (s_ret (e_mk0 (mk_48 Z) (hr.mono (by omega)) (gl_ (by kernel_rfl)) (Z.glo 15) rfl))) ss_nil)
  (ss_cons (s_if (t_cmp (op_pEq hr.units) (e_v 0 (by kernel_rfl)) e_int (nomark _)) (ss_one (s_ret (e_if (t_tru (e_v 3 (by kernel_rfl)) (fun _ => rfl)) (e_mkKw (ks := ["count"]) (perm := [0]) (mkk_49_count Z) (hr.mono (by omega)) (gl_ (by kernel_rfl)) (Z.glo 16) (n := 1) rfl (k_cons (e_v 1 (by kernel_rfl)) k_nil)) (e_mk (mk_49 Z) (hr.mono (by omega)) (gl_ (by kernel_rfl)) (Z.glo 16) (n := 1) rfl (by decide) (a_cons (e_v 1 (by kernel_rfl)) a_nil))))) ss_nil)
  (ss_cons (s_if (t_cmp (op_pEq hr.units) (e_v 0 (by kernel_rfl)) e_int (nomark _)) (ss_one (s_ret (e_if (t_tru (e_v 3 (by kernel_rfl)) (fun _ => rfl)) (e_mkKw (ks := ["name"]) (perm := [0]) (mkk_50_name Z) (hr.mono (by omega)) (gl_ (by kernel_rfl)) (Z.glo 17) (n := 1) rfl (k_cons (e_v 1 (by kernel_rfl)) k_nil)) (e_mk (mk_50 Z) (hr.mono (by omega)) (gl_ (by kernel_rfl)) (Z.glo 17) (n := 1) rfl (by decide) (a_cons (e_v 1 (by kernel_rfl)) a_nil))))) ss_nil)
  (ss_cons (s_if (t_cmp (op_pEq hr.units) (e_v 0 (by kernel_rfl)) e_int (nomark _)) (ss_one (s_ret (e_mk0 (mk_51 Z) (hr.mono (by omega)) (gl_ (by kernel_rfl)) (Z.glo 18) rfl))) ss_nil)
  (ss_one (s_ret e_non)))))))))))
theorem sc__law_made_2 : FnScope N__law_made_2 ["k", "one", "other", "by_name"] (defScope st__law_made_2) := ⟨rfl, rfl, rfl, by decide +kernel, rfl, by decide +kernel, by decide +kernel⟩
theorem co__law_made_2 (Z : ZF K mg base) : CO P w K mg base Tb "_law_made_2" 4 ["k", "one", "other", "by_name"] g__law_made_2 := by
  have S := sc__law_made_2
  exact Z.co 7 73 rfl rfl S (fun _ _ _ _ _ _ us hl => match us, hl with | [_, _, _, _], _ => by kernel_rfl) fun cdv A outer s H E hr => (ss_cons (s_if (t_cmp (op_pEq hr.units) (e_v 0 (by kernel_rfl)) e_int (nomark _)) (ss_one (s_ret (e_if (t_tru (e_v 3 (by kernel_rfl)) (fun _ => rfl)) (e_mkKw (ks := ["given"]) (perm := [0]) (mkk_29_given Z) (hr.mono (by omega)) (gl_ (by kernel_rfl)) (Z.glo 19) (n := 1) rfl (k_cons (e_v 1 (by kernel_rfl)) k_nil)) (e_mk (mk_29 Z) (hr.mono (by omega)) (gl_ (by kernel_rfl)) (Z.glo 19) (n := 1) rfl (by decide) (a_cons (e_v 1 (by kernel_rfl)) a_nil))))) ss_nil)
  (ss_cons (s_if (t_cmp (op_pEq hr.units) (e_v 0 (by kernel_rfl)) e_int (nomark _)) (ss_one (s_ret (e_if (t_tru (e_v 3 (by kernel_rfl)) (fun _ => rfl)) (e_mkKw (ks := ["given"]) (perm := [0]) (mkk_30_given Z) (hr.mono (by omega)) (gl_ (by kernel_rfl)) (Z.glo 20) (n := 1) rfl (k_cons (e_v 1 (by kernel_rfl)) k_nil)) (e_mk (mk_30 Z) (hr.mono (by omega)) (gl_ (by kernel_rfl)) (Z.glo 20) (n := 1) rfl (by decide) (a_cons (e_v 1 (by kernel_rfl)) a_nil))))) ss_nil)
  (ss_cons (s_if (t_cmp (op_pEq hr.units) (e_v 0 (by kernel_rfl)) e_int (nomark _)) (ss_one (s_ret (e_if (t_tru (e_v 3 (by kernel_rfl)) (fun _ => rfl)) (e_mkKw (ks := ["given"]) (perm := [0]) (mkk_31_given Z) (hr.mono (by omega)) (gl_ (by kernel_rfl)) (Z.glo 21) (n := 1) rfl (k_cons (e_v 1 (by kernel_rfl)) k_nil)) (e_mk (mk_31 Z) (hr.mono (by omega)) (gl_ (by kernel_rfl)) (Z.glo 21) (n := 1) rfl (by decide) (a_cons (e_v 1 (by kernel_rfl)) a_nil))))) ss_nil)
  (ss_cons (s_if (t_cmp (op_pEq hr.units) (e_v 0 (by kernel_rfl)) e_int (nomark _)) (ss_one (s_ret (e_if (t_tru (e_v 3 (by kernel_rfl)) (fun _ => rfl)) (e_mkKw (ks := ["given"]) (perm := [0]) (mkk_32_given Z) (hr.mono (by omega)) (gl_ (by kernel_rfl)) (Z.glo 22) (n := 1) rfl (k_cons (e_v 1 (by kernel_rfl)) k_nil)) (e_mk (mk_32 Z) (hr.mono (by omega)) (gl_ (by kernel_rfl)) (Z.glo 22) (n := 1) rfl (by decide) (a_cons (e_v 1 (by kernel_rfl)) a_nil))))) ss_nil)
  (ss_cons (s_if (t_cmp (op_pEq hr.units) (e_v 0 (by kernel_rfl)) e_int (nomark _)) (ss_one (s_ret (e_if (t_tru (e_v 3 (by kernel_rfl)) (fun _ => rfl)) (e_mkKw (ks := ["given"]) (perm := [0]) (mkk_33_given Z) (hr.mono (by omega)) (gl_ (by kernel_rfl)) (Z.glo 23) (n := 1) rfl (k_cons (e_v 1 (by kernel_rfl)) k_nil)) (e_mk (mk_33 Z) (hr.mono (by omega)) (gl_ (by kernel_rfl)) (Z.glo 23) (n := 1) rfl (by decide) (a_cons (e_v 1 (by kernel_rfl)) a_nil))))) ss_nil)
  (ss_cons (s_if (t_cmp (op_pEq hr.units) (e_v 0 (by kernel_rfl)) e_int (nomark _)) (ss_one (s_ret (e_if (t_tru (e_v 3 (by kernel_rfl)) (fun _ => rfl)) (e_mkKw (ks := ["given"]) (perm := [0]) (mkk_34_given Z) (hr.mono (by omega)) (gl_ (by kernel_rfl)) (Z.glo 24) (n := 1) rfl (k_cons (e_v 1 (by kernel_rfl)) k_nil)) (e_mk (mk_34 Z) (hr.mono (by omega)) (gl_ (by kernel_rfl)) (Z.glo 24) (n := 1) rfl (by decide) (a_cons (e_v 1 (by kernel_rfl)) a_nil))))) ss_nil)
  (ss_cons (s_if (t_cmp (op_pEq hr.units) (e_v 0 (by kernel_rfl)) e_int (nomark _)) (ss_one (s_ret (e_if (t_tru (e_v 3 (by kernel_rfl)) (fun _ => rfl)) (e_mkKw (ks := ["given"]) (perm := [0]) (mkk_35_given Z) (hr.mono (by omega)) (gl_ (by kernel_rfl)) (Z.glo 25) (n := 1) rfl (k_cons (e_v 1 (by kernel_rfl)) k_nil)) (e_mk (mk_35 Z) (hr.mono (by omega)) (gl_ (by kernel_rfl)) (Z.glo 25) (n := 1) rfl (by decide) (a_cons (e_v 1 (by kernel_rfl)) a_nil))))) ss_nil)
  (ss_cons (s_if (t_cmp (op_pEq hr.units) (e_v 0 (by kernel_rfl)) e_int (nomark _)) (ss_one (s_ret (e_if (t_tru (e_v 3 (by kernel_rfl)) (fun _ => rfl)) (e_mkKw (ks := ["row"]) (perm := [0]) (mkk_36_row Z) (hr.mono (by omega)) (gl_ (by kernel_rfl)) (Z.glo 26) (n := 1) rfl (k_cons (e_v 1 (by kernel_rfl)) k_nil)) (e_mk (mk_36 Z) (hr.mono (by omega)) (gl_ (by kernel_rfl)) (Z.glo 26) (n := 1) rfl (by decide) (a_cons (e_v 1 (by kernel_rfl)) a_nil))))) ss_nil)
  (ss_cons (s_if (t_cmp (op_pEq hr.units) (e_v 0 (by kernel_rfl)) e_int (nomark _)) (ss_one (s_ret (e_mk0 (mk_37 Z) (hr.mono (by omega)) (gl_ (by kernel_rfl)) (Z.glo 27) rfl))) ss_nil)
  (ss_cons (s_if (t_cmp (op_pEq hr.units) (e_v 0 (by kernel_rfl)) e_int (nomark _)) (ss_one (s_ret (e_if (t_tru (e_v 3 (by kernel_rfl)) (fun _ => rfl)) (e_mkKw (ks := ["line"]) (perm := [0]) (mkk_38_line Z) (hr.mono (by omega)) (gl_ (by kernel_rfl)) (Z.glo 28) (n := 1) rfl (k_cons (e_v 1 (by kernel_rfl)) k_nil)) (e_mk (mk_38 Z) (hr.mono (by omega)) (gl_ (by kernel_rfl)) (Z.glo 28) (n := 1) rfl (by decide) (a_cons (e_v 1 (by kernel_rfl)) a_nil))))) ss_nil)
  (ss_cons (s_if (t_cmp (op_pEq hr.units) (e_v 0 (by kernel_rfl)) e_int (nomark _)) (ss_one (s_ret (e_if (t_tru (e_v 3 (by kernel_rfl)) (fun _ => rfl)) (e_mkKw (ks := ["index"]) (perm := [0]) (mkk_39_index Z) (hr.mono (by omega)) (gl_ (by kernel_rfl)) (Z.glo 29) (n := 1) rfl (k_cons (e_v 1 (by kernel_rfl)) k_nil)) (e_mk (mk_39 Z) (hr.mono (by omega)) (gl_ (by kernel_rfl)) (Z.glo 29) (n := 1) rfl (by decide) (a_cons (e_v 1 (by kernel_rfl)) a_nil))))) ss_nil)
  (ss_cons (s_if (t_cmp (op_pEq hr.units) (e_v 0 (by kernel_rfl)) e_int (nomark _)) (ss_one (s_ret (e_if (t_tru (e_v 3 (by kernel_rfl)) (fun _ => rfl)) (e_mkKw (ks := ["name"]) (perm := [0]) (mkk_40_name Z) (hr.mono (by omega)) (gl_ (by kernel_rfl)) (Z.glo 30) (n := 1) rfl (k_cons (e_v 1 (by kernel_rfl)) k_nil)) (e_mk (mk_40 Z) (hr.mono (by omega)) (gl_ (by kernel_rfl)) (Z.glo 30) (n := 1) rfl (by decide) (a_cons (e_v 1 (by kernel_rfl)) a_nil))))) ss_nil)
  (ss_cons (s_if (t_cmp (op_pEq hr.units) (e_v 0 (by kernel_rfl)) e_int (nomark _)) (ss_one (s_ret (e_if (t_tru (e_v 3 (by kernel_rfl)) (fun _ => rfl)) (e_mkKw (ks := ["coming", "going"]) (perm := [1, 0]) (mkk_41_coming_going Z) (hr.mono (by omega)) (gl_ (by kernel_rfl)) (Z.glo 31) (n := 2) rfl (k_cons (e_v 2 (by kernel_rfl)) (k_cons (e_v 1 (by kernel_rfl)) k_nil))) (e_mk (mk_41 Z) (hr.mono (by omega)) (gl_ (by kernel_rfl)) (Z.glo 31) (n := 2) rfl (by decide) (a_cons (e_v 1 (by kernel_rfl)) (a_cons (e_v 2 (by kernel_rfl)) a_nil)))))) ss_nil)
  (ss_cons (s_if (t_cmp (op_pEq hr.units) (e_v 0 (by kernel_rfl)) e_int (nomark _)) (ss_one (s_ret (e_if (t_tru (e_v 3 (by kernel_rfl)) (fun _ => rfl)) (e_mkKw (ks := ["index"]) (perm := [0]) (mkk_42_index Z) (hr.mono (by omega)) (gl_ (by kernel_rfl)) (Z.glo 32) (n := 1) rfl (k_cons (e_v 1 (by kernel_rfl)) k_nil)) (e_mk (mk_42 Z) (hr.mono (by omega)) (gl_ (by kernel_rfl)) (Z.glo 32) (n := 1) rfl (by decide) (a_cons (e_v 1 (by kernel_rfl)) a_nil))))) ss_nil)
  (ss_one (s_ret (e_callZ (co__law_made_3 Z) takesB (hr.mono (by omega)) (gl_ (by kernel_rfl)) (a_cons (e_v 0 (by kernel_rfl)) (a_cons (e_v 1 (by kernel_rfl)) (a_cons (e_v 2 (by kernel_rfl)) (a_cons (e_v 3 (by kernel_rfl)) a_nil)))) rfl)))))))))))))))))
theorem sc__law_made_1 : FnScope N__law_made_1 ["k", "one", "other", "by_name"] (defScope st__law_made_1) := ⟨rfl, rfl, rfl, by decide +kernel, rfl, by decide +kernel, by decide +kernel⟩
theorem co__law_made_1 (Z : ZF K mg base) : CO P w K mg base Tb "_law_made_1" 5 ["k", "one", "other", "by_name"] g__law_made_1 := by
  have S := sc__law_made_1
  exact Z.co 8 74 rfl rfl S (fun _ _ _ _ _ _ us hl => match us, hl with | [_, _, _, _], _ => by kernel_rfl) fun cdv A outer s H E hr => (ss_cons (s_if (t_cmp (op_pEq hr.units) (e_v 0 (by kernel_rfl)) e_int (nomark _)) (ss_one (s_ret (e_if (t_tru (e_v 3 (by kernel_rfl)) (fun _ => rfl)) (e_mkKw (ks := ["given"]) (perm := [0]) (mkk_15_given Z) (hr.mono (by omega)) (gl_ (by kernel_rfl)) (Z.glo 33) (n := 1) rfl (k_cons (e_v 1 (by kernel_rfl)) k_nil)) (e_mk (mk_15 Z) (hr.mono (by omega)) (gl_ (by kernel_rfl)) (Z.glo 33) (n := 1) rfl (by decide) (a_cons (e_v 1 (by kernel_rfl)) a_nil))))) ss_nil)
  (ss_cons (s_if (t_cmp (op_pEq hr.units) (e_v 0 (by kernel_rfl)) e_int (nomark _)) (ss_one (s_ret (e_if (t_tru (e_v 3 (by kernel_rfl)) (fun _ => rfl)) (e_mkKw (ks := ["given"]) (perm := [0]) (mkk_16_given Z) (hr.mono (by omega)) (gl_ (by kernel_rfl)) (Z.glo 34) (n := 1) rfl (k_cons (e_v 1 (by kernel_rfl)) k_nil)) (e_mk (mk_16 Z) (hr.mono (by omega)) (gl_ (by kernel_rfl)) (Z.glo 34) (n := 1) rfl (by decide) (a_cons (e_v 1 (by kernel_rfl)) a_nil))))) ss_nil)
  (ss_cons (s_if (t_cmp (op_pEq hr.units) (e_v 0 (by kernel_rfl)) e_int (nomark _)) (ss_one (s_ret (e_if (t_tru (e_v 3 (by kernel_rfl)) (fun _ => rfl)) (e_mkKw (ks := ["given"]) (perm := [0]) (mkk_17_given Z) (hr.mono (by omega)) (gl_ (by kernel_rfl)) (Z.glo 35) (n := 1) rfl (k_cons (e_v 1 (by kernel_rfl)) k_nil)) (e_mk (mk_17 Z) (hr.mono (by omega)) (gl_ (by kernel_rfl)) (Z.glo 35) (n := 1) rfl (by decide) (a_cons (e_v 1 (by kernel_rfl)) a_nil))))) ss_nil)
  (ss_cons (s_if (t_cmp (op_pEq hr.units) (e_v 0 (by kernel_rfl)) e_int (nomark _)) (ss_one (s_ret (e_if (t_tru (e_v 3 (by kernel_rfl)) (fun _ => rfl)) (e_mkKw (ks := ["given"]) (perm := [0]) (mkk_18_given Z) (hr.mono (by omega)) (gl_ (by kernel_rfl)) (Z.glo 36) (n := 1) rfl (k_cons (e_v 1 (by kernel_rfl)) k_nil)) (e_mk (mk_18 Z) (hr.mono (by omega)) (gl_ (by kernel_rfl)) (Z.glo 36) (n := 1) rfl (by decide) (a_cons (e_v 1 (by kernel_rfl)) a_nil))))) ss_nil)
  (ss_cons (s_if (t_cmp (op_pEq hr.units) (e_v 0 (by kernel_rfl)) e_int (nomark _)) (ss_one (s_ret (e_if (t_tru (e_v 3 (by kernel_rfl)) (fun _ => rfl)) (e_mkKw (ks := ["given"]) (perm := [0]) (mkk_19_given Z) (hr.mono (by omega)) (gl_ (by kernel_rfl)) (Z.glo 37) (n := 1) rfl (k_cons (e_v 1 (by kernel_rfl)) k_nil)) (e_mk (mk_19 Z) (hr.mono (by omega)) (gl_ (by kernel_rfl)) (Z.glo 37) (n := 1) rfl (by decide) (a_cons (e_v 1 (by kernel_rfl)) a_nil))))) ss_nil)
  (ss_cons (s_if (t_cmp (op_pEq hr.units) (e_v 0 (by kernel_rfl)) e_int (nomark _)) (ss_one (s_ret (e_if (t_tru (e_v 3 (by kernel_rfl)) (fun _ => rfl)) (e_mkKw (ks := ["given"]) (perm := [0]) (mkk_20_given Z) (hr.mono (by omega)) (gl_ (by kernel_rfl)) (Z.glo 38) (n := 1) rfl (k_cons (e_v 1 (by kernel_rfl)) k_nil)) (e_mk (mk_20 Z) (hr.mono (by omega)) (gl_ (by kernel_rfl)) (Z.glo 38) (n := 1) rfl (by decide) (a_cons (e_v 1 (by kernel_rfl)) a_nil))))) ss_nil)
  (ss_cons (s_if (t_cmp (op_pEq hr.units) (e_v 0 (by kernel_rfl)) e_int (nomark _)) (ss_one (s_ret (e_if (t_tru (e_v 3 (by kernel_rfl)) (fun _ => rfl)) (e_mkKw (ks := ["given"]) (perm := [0]) (mkk_21_given Z) (hr.mono (by omega)) (gl_ (by kernel_rfl)) (Z.glo 39) (n := 1) rfl (k_cons (e_v 1 (by kernel_rfl)) k_nil)) (e_mk (mk_21 Z) (hr.mono (by omega)) (gl_ (by kernel_rfl)) (Z.glo 39) (n := 1) rfl (by decide) (a_cons (e_v 1 (by kernel_rfl)) a_nil))))) ss_nil)
  (ss_cons (s_if (t_cmp (op_pEq hr.units) (e_v 0 (by kernel_rfl)) e_int (nomark _)) (ss_one (s_ret (e_if (t_tru (e_v 3 (by kernel_rfl)) (fun _ => rfl)) (e_mkKw (ks := ["given"]) (perm := [0]) (mkk_22_given Z) (hr.mono (by omega)) (gl_ (by kernel_rfl)) (Z.glo 40) (n := 1) rfl (k_cons (e_v 1 (by kernel_rfl)) k_nil)) (e_mk (mk_22 Z) (hr.mono (by omega)) (gl_ (by kernel_rfl)) (Z.glo 40) (n := 1) rfl (by decide) (a_cons (e_v 1 (by kernel_rfl)) a_nil))))) ss_nil)
  (ss_cons (s_if (t_cmp (op_pEq hr.units) (e_v 0 (by kernel_rfl)) e_int (nomark _)) (ss_one (s_ret (e_if (t_tru (e_v 3 (by kernel_rfl)) (fun _ => rfl)) (e_mkKw (ks := ["given"]) (perm := [0]) (mkk_23_given Z) (hr.mono (by omega)) (gl_ (by kernel_rfl)) (Z.glo 41) (n := 1) rfl (k_cons (e_v 1 (by kernel_rfl)) k_nil)) (e_mk (mk_23 Z) (hr.mono (by omega)) (gl_ (by kernel_rfl)) (Z.glo 41) (n := 1) rfl (by decide) (a_cons (e_v 1 (by kernel_rfl)) a_nil))))) ss_nil)
  (ss_cons (s_if (t_cmp (op_pEq hr.units) (e_v 0 (by kernel_rfl)) e_int (nomark _)) (ss_one (s_ret (e_if (t_tru (e_v 3 (by kernel_rfl)) (fun _ => rfl)) (e_mkKw (ks := ["given"]) (perm := [0]) (mkk_24_given Z) (hr.mono (by omega)) (gl_ (by kernel_rfl)) (Z.glo 42) (n := 1) rfl (k_cons (e_v 1 (by kernel_rfl)) k_nil)) (e_mk (mk_24 Z) (hr.mono (by omega)) (gl_ (by kernel_rfl)) (Z.glo 42) (n := 1) rfl (by decide) (a_cons (e_v 1 (by kernel_rfl)) a_nil))))) ss_nil)
  (ss_cons (s_if (t_cmp (op_pEq hr.units) (e_v 0 (by kernel_rfl)) e_int (nomark _)) (ss_one (s_ret (e_if (t_tru (e_v 3 (by kernel_rfl)) (fun _ => rfl)) (e_mkKw (ks := ["given"]) (perm := [0]) (mkk_25_given Z) (hr.mono (by omega)) (gl_ (by kernel_rfl)) (Z.glo 43) (n := 1) rfl (k_cons (e_v 1 (by kernel_rfl)) k_nil)) (e_mk (mk_25 Z) (hr.mono (by omega)) (gl_ (by kernel_rfl)) (Z.glo 43) (n := 1) rfl (by decide) (a_cons (e_v 1 (by kernel_rfl)) a_nil))))) ss_nil)
  (ss_cons (s_if (t_cmp (op_pEq hr.units) (e_v 0 (by kernel_rfl)) e_int (nomark _)) (ss_one (s_ret (e_if (t_tru (e_v 3 (by kernel_rfl)) (fun _ => rfl)) (e_mkKw (ks := ["given"]) (perm := [0]) (mkk_26_given Z) (hr.mono (by omega)) (gl_ (by kernel_rfl)) (Z.glo 44) (n := 1) rfl (k_cons (e_v 1 (by kernel_rfl)) k_nil)) (e_mk (mk_26 Z) (hr.mono (by omega)) (gl_ (by kernel_rfl)) (Z.glo 44) (n := 1) rfl (by decide) (a_cons (e_v 1 (by kernel_rfl)) a_nil))))) ss_nil)
  (ss_cons (s_if (t_cmp (op_pEq hr.units) (e_v 0 (by kernel_rfl)) e_int (nomark _)) (ss_one (s_ret (e_if (t_tru (e_v 3 (by kernel_rfl)) (fun _ => rfl)) (e_mkKw (ks := ["given"]) (perm := [0]) (mkk_27_given Z) (hr.mono (by omega)) (gl_ (by kernel_rfl)) (Z.glo 45) (n := 1) rfl (k_cons (e_v 1 (by kernel_rfl)) k_nil)) (e_mk (mk_27 Z) (hr.mono (by omega)) (gl_ (by kernel_rfl)) (Z.glo 45) (n := 1) rfl (by decide) (a_cons (e_v 1 (by kernel_rfl)) a_nil))))) ss_nil)
  (ss_cons (s_if (t_cmp (op_pEq hr.units) (e_v 0 (by kernel_rfl)) e_int (nomark _)) (ss_one (s_ret (e_if (t_tru (e_v 3 (by kernel_rfl)) (fun _ => rfl)) (e_mkKw (ks := ["given"]) (perm := [0]) (mkk_28_given Z) (hr.mono (by omega)) (gl_ (by kernel_rfl)) (Z.glo 46) (n := 1) rfl (k_cons (e_v 1 (by kernel_rfl)) k_nil)) (e_mk (mk_28 Z) (hr.mono (by omega)) (gl_ (by kernel_rfl)) (Z.glo 46) (n := 1) rfl (by decide) (a_cons (e_v 1 (by kernel_rfl)) a_nil))))) ss_nil)
  (ss_one (s_ret (e_callZ (co__law_made_2 Z) takesB (hr.mono (by omega)) (gl_ (by kernel_rfl)) (a_cons (e_v 0 (by kernel_rfl)) (a_cons (e_v 1 (by kernel_rfl)) (a_cons (e_v 2 (by kernel_rfl)) (a_cons (e_v 3 (by kernel_rfl)) a_nil)))) rfl)))))))))))))))))
theorem sc__law_made_0 : FnScope N__law_made_0 ["k", "one", "other", "by_name"] (defScope st__law_made_0) := ⟨rfl, rfl, rfl, by decide +kernel, rfl, by decide +kernel, by decide +kernel⟩
theorem co__law_made_0 (Z : ZF K mg base) : CO P w K mg base Tb "_law_made_0" 6 ["k", "one", "other", "by_name"] g__law_made_0 := by
  have S := sc__law_made_0
  exact Z.co 9 75 rfl rfl S (fun _ _ _ _ _ _ us hl => match us, hl with | [_, _, _, _], _ => by kernel_rfl) fun cdv A outer s H E hr => (ss_cons (s_if (t_cmp (op_pEq hr.units) (e_v 0 (by kernel_rfl)) e_int (nomark _)) (ss_one (s_ret (e_if (t_tru (e_v 3 (by kernel_rfl)) (fun _ => rfl)) (e_mkKw (ks := ["given"]) (perm := [0]) (mkk_1_given Z) (hr.mono (by omega)) (gl_ (by kernel_rfl)) (Z.glo 47) (n := 1) rfl (k_cons (e_v 1 (by kernel_rfl)) k_nil)) (e_mk (mk_1 Z) (hr.mono (by omega)) (gl_ (by kernel_rfl)) (Z.glo 47) (n := 1) rfl (by decide) (a_cons (e_v 1 (by kernel_rfl)) a_nil))))) ss_nil)
  (ss_cons (s_if (t_cmp (op_pEq hr.units) (e_v 0 (by kernel_rfl)) e_int (nomark _)) (ss_one (s_ret (e_if (t_tru (e_v 3 (by kernel_rfl)) (fun _ => rfl)) (e_mkKw (ks := ["given"]) (perm := [0]) (mkk_2_given Z) (hr.mono (by omega)) (gl_ (by kernel_rfl)) (Z.glo 48) (n := 1) rfl (k_cons (e_v 1 (by kernel_rfl)) k_nil)) (e_mk (mk_2 Z) (hr.mono (by omega)) (gl_ (by kernel_rfl)) (Z.glo 48) (n := 1) rfl (by decide) (a_cons (e_v 1 (by kernel_rfl)) a_nil))))) ss_nil)
  (ss_cons (s_if (t_cmp (op_pEq hr.units) (e_v 0 (by kernel_rfl)) e_int (nomark _)) (ss_one (s_ret (e_if (t_tru (e_v 3 (by kernel_rfl)) (fun _ => rfl)) (e_mkKw (ks := ["given"]) (perm := [0]) (mkk_3_given Z) (hr.mono (by omega)) (gl_ (by kernel_rfl)) (Z.glo 49) (n := 1) rfl (k_cons (e_v 1 (by kernel_rfl)) k_nil)) (e_mk (mk_3 Z) (hr.mono (by omega)) (gl_ (by kernel_rfl)) (Z.glo 49) (n := 1) rfl (by decide) (a_cons (e_v 1 (by kernel_rfl)) a_nil))))) ss_nil)
  (ss_cons (s_if (t_cmp (op_pEq hr.units) (e_v 0 (by kernel_rfl)) e_int (nomark _)) (ss_one (s_ret (e_if (t_tru (e_v 3 (by kernel_rfl)) (fun _ => rfl)) (e_mkKw (ks := ["given"]) (perm := [0]) (mkk_4_given Z) (hr.mono (by omega)) (gl_ (by kernel_rfl)) (Z.glo 50) (n := 1) rfl (k_cons (e_v 1 (by kernel_rfl)) k_nil)) (e_mk (mk_4 Z) (hr.mono (by omega)) (gl_ (by kernel_rfl)) (Z.glo 50) (n := 1) rfl (by decide) (a_cons (e_v 1 (by kernel_rfl)) a_nil))))) ss_nil)
  (ss_cons (s_if (t_cmp (op_pEq hr.units) (e_v 0 (by kernel_rfl)) e_int (nomark _)) (ss_one (s_ret (e_if (t_tru (e_v 3 (by kernel_rfl)) (fun _ => rfl)) (e_mkKw (ks := ["given"]) (perm := [0]) (mkk_5_given Z) (hr.mono (by omega)) (gl_ (by kernel_rfl)) (Z.glo 51) (n := 1) rfl (k_cons (e_v 1 (by kernel_rfl)) k_nil)) (e_mk (mk_5 Z) (hr.mono (by omega)) (gl_ (by kernel_rfl)) (Z.glo 51) (n := 1) rfl (by decide) (a_cons (e_v 1 (by kernel_rfl)) a_nil))))) ss_nil)
  (ss_cons (s_if (t_cmp (op_pEq hr.units) (e_v 0 (by kernel_rfl)) e_int (nomark _)) (ss_one (s_ret (e_if (t_tru (e_v 3 (by kernel_rfl)) (fun _ => rfl)) (e_mkKw (ks := ["given"]) (perm := [0]) (mkk_6_given Z) (hr.mono (by omega)) (gl_ (by kernel_rfl)) (Z.glo 52) (n := 1) rfl (k_cons (e_v 1 (by kernel_rfl)) k_nil)) (e_mk (mk_6 Z) (hr.mono (by omega)) (gl_ (by kernel_rfl)) (Z.glo 52) (n := 1) rfl (by decide) (a_cons (e_v 1 (by kernel_rfl)) a_nil))))) ss_nil)
  (ss_cons (s_if (t_cmp (op_pEq hr.units) (e_v 0 (by kernel_rfl)) e_int (nomark _)) (ss_one (s_ret (e_if (t_tru (e_v 3 (by kernel_rfl)) (fun _ => rfl)) (e_mkKw (ks := ["given"]) (perm := [0]) (mkk_7_given Z) (hr.mono (by omega)) (gl_ (by kernel_rfl)) (Z.glo 53) (n := 1) rfl (k_cons (e_v 1 (by kernel_rfl)) k_nil)) (e_mk (mk_7 Z) (hr.mono (by omega)) (gl_ (by kernel_rfl)) (Z.glo 53) (n := 1) rfl (by decide) (a_cons (e_v 1 (by kernel_rfl)) a_nil))))) ss_nil)
  (ss_cons (s_if (t_cmp (op_pEq hr.units) (e_v 0 (by kernel_rfl)) e_int (nomark _)) (ss_one (s_ret (e_if (t_tru (e_v 3 (by kernel_rfl)) (fun _ => rfl)) (e_mkKw (ks := ["given"]) (perm := [0]) (mkk_8_given Z) (hr.mono (by omega)) (gl_ (by kernel_rfl)) (Z.glo 54) (n := 1) rfl (k_cons (e_v 1 (by kernel_rfl)) k_nil)) (e_mk (mk_8 Z) (hr.mono (by omega)) (gl_ (by kernel_rfl)) (Z.glo 54) (n := 1) rfl (by decide) (a_cons (e_v 1 (by kernel_rfl)) a_nil))))) ss_nil)
  (ss_cons (s_if (t_cmp (op_pEq hr.units) (e_v 0 (by kernel_rfl)) e_int (nomark _)) (ss_one (s_ret (e_if (t_tru (e_v 3 (by kernel_rfl)) (fun _ => rfl)) (e_mkKw (ks := ["given"]) (perm := [0]) (mkk_9_given Z) (hr.mono (by omega)) (gl_ (by kernel_rfl)) (Z.glo 55) (n := 1) rfl (k_cons (e_v 1 (by kernel_rfl)) k_nil)) (e_mk (mk_9 Z) (hr.mono (by omega)) (gl_ (by kernel_rfl)) (Z.glo 55) (n := 1) rfl (by decide) (a_cons (e_v 1 (by kernel_rfl)) a_nil))))) ss_nil)
  (ss_cons (s_if (t_cmp (op_pEq hr.units) (e_v 0 (by kernel_rfl)) e_int (nomark _)) (ss_one (s_ret (e_if (t_tru (e_v 3 (by kernel_rfl)) (fun _ => rfl)) (e_mkKw (ks := ["given"]) (perm := [0]) (mkk_10_given Z) (hr.mono (by omega)) (gl_ (by kernel_rfl)) (Z.glo 56) (n := 1) rfl (k_cons (e_v 1 (by kernel_rfl)) k_nil)) (e_mk (mk_10 Z) (hr.mono (by omega)) (gl_ (by kernel_rfl)) (Z.glo 56) (n := 1) rfl (by decide) (a_cons (e_v 1 (by kernel_rfl)) a_nil))))) ss_nil)
  (ss_cons (s_if (t_cmp (op_pEq hr.units) (e_v 0 (by kernel_rfl)) e_int (nomark _)) (ss_one (s_ret (e_if (t_tru (e_v 3 (by kernel_rfl)) (fun _ => rfl)) (e_mkKw (ks := ["given"]) (perm := [0]) (mkk_11_given Z) (hr.mono (by omega)) (gl_ (by kernel_rfl)) (Z.glo 57) (n := 1) rfl (k_cons (e_v 1 (by kernel_rfl)) k_nil)) (e_mk (mk_11 Z) (hr.mono (by omega)) (gl_ (by kernel_rfl)) (Z.glo 57) (n := 1) rfl (by decide) (a_cons (e_v 1 (by kernel_rfl)) a_nil))))) ss_nil)
  (ss_cons (s_if (t_cmp (op_pEq hr.units) (e_v 0 (by kernel_rfl)) e_int (nomark _)) (ss_one (s_ret (e_if (t_tru (e_v 3 (by kernel_rfl)) (fun _ => rfl)) (e_mkKw (ks := ["given"]) (perm := [0]) (mkk_12_given Z) (hr.mono (by omega)) (gl_ (by kernel_rfl)) (Z.glo 58) (n := 1) rfl (k_cons (e_v 1 (by kernel_rfl)) k_nil)) (e_mk (mk_12 Z) (hr.mono (by omega)) (gl_ (by kernel_rfl)) (Z.glo 58) (n := 1) rfl (by decide) (a_cons (e_v 1 (by kernel_rfl)) a_nil))))) ss_nil)
  (ss_cons (s_if (t_cmp (op_pEq hr.units) (e_v 0 (by kernel_rfl)) e_int (nomark _)) (ss_one (s_ret (e_if (t_tru (e_v 3 (by kernel_rfl)) (fun _ => rfl)) (e_mkKw (ks := ["given"]) (perm := [0]) (mkk_13_given Z) (hr.mono (by omega)) (gl_ (by kernel_rfl)) (Z.glo 59) (n := 1) rfl (k_cons (e_v 1 (by kernel_rfl)) k_nil)) (e_mk (mk_13 Z) (hr.mono (by omega)) (gl_ (by kernel_rfl)) (Z.glo 59) (n := 1) rfl (by decide) (a_cons (e_v 1 (by kernel_rfl)) a_nil))))) ss_nil)
  (ss_cons (s_if (t_cmp (op_pEq hr.units) (e_v 0 (by kernel_rfl)) e_int (nomark _)) (ss_one (s_ret (e_if (t_tru (e_v 3 (by kernel_rfl)) (fun _ => rfl)) (e_mkKw (ks := ["given"]) (perm := [0]) (mkk_14_given Z) (hr.mono (by omega)) (gl_ (by kernel_rfl)) (Z.glo 60) (n := 1) rfl (k_cons (e_v 1 (by kernel_rfl)) k_nil)) (e_mk (mk_14 Z) (hr.mono (by omega)) (gl_ (by kernel_rfl)) (Z.glo 60) (n := 1) rfl (by decide) (a_cons (e_v 1 (by kernel_rfl)) a_nil))))) ss_nil)
  (ss_one (s_ret (e_callZ (co__law_made_1 Z) takesB (hr.mono (by omega)) (gl_ (by kernel_rfl)) (a_cons (e_v 0 (by kernel_rfl)) (a_cons (e_v 1 (by kernel_rfl)) (a_cons (e_v 2 (by kernel_rfl)) (a_cons (e_v 3 (by kernel_rfl)) a_nil)))) rfl)))))))))))))))))
theorem sc__law_is_2 : FnScope N__law_is_2 ["k", "error"] (defScope st__law_is_2) := ⟨rfl, rfl, rfl, by decide +kernel, rfl, by decide +kernel, by decide +kernel⟩
theorem co__law_is_2 (Z : ZF K mg base) : CO P w K mg base Tb "_law_is_2" 1 ["k", "error"] g__law_is_2 := by
  have S := sc__law_is_2
  exact Z.co 10 76 rfl rfl S (fun _ _ _ _ _ _ us hl => match us, hl with | [_, _], _ => by kernel_rfl) fun cdv A outer s H E hr => (ss_cons (s_if (t_cmp (op_pEq hr.units) (e_v 0 (by kernel_rfl)) e_int (nomark _)) (ss_one (s_ret (e_isi1 (t := .own 51) (xc Z) (isi_5 Z) (gl_ (by kernel_rfl)) (Z.free 4) (e_v 1 (by kernel_rfl)) (n_own (c := 51) (gl_ (by kernel_rfl)) (Z.glo 18))))) ss_nil)
  (ss_one (s_ret e_bl)))
theorem sc__law_is_1 : FnScope N__law_is_1 ["k", "error"] (defScope st__law_is_1) := ⟨rfl, rfl, rfl, by decide +kernel, rfl, by decide +kernel, by decide +kernel⟩
theorem co__law_is_1 (Z : ZF K mg base) : CO P w K mg base Tb "_law_is_1" 2 ["k", "error"] g__law_is_1 := by
  have S := sc__law_is_1
  exact Z.co 11 77 rfl rfl S (fun _ _ _ _ _ _ us hl => match us, hl with | [_, _], _ => by kernel_rfl) fun cdv A outer s H E hr => (ss_cons (s_if (t_cmp (op_pEq hr.units) (e_v 0 (by kernel_rfl)) e_int (nomark _)) (ss_one (s_ret (e_isi1 (t := .own 26) (xc Z) (isi_6 Z) (gl_ (by kernel_rfl)) (Z.free 4) (e_v 1 (by kernel_rfl)) (n_own (c := 26) (gl_ (by kernel_rfl)) (Z.glo 44))))) ss_nil)
  (ss_cons (s_if (t_cmp (op_pEq hr.units) (e_v 0 (by kernel_rfl)) e_int (nomark _)) (ss_one (s_ret (e_isi1 (t := .own 27) (xc Z) (isi_7 Z) (gl_ (by kernel_rfl)) (Z.free 4) (e_v 1 (by kernel_rfl)) (n_own (c := 27) (gl_ (by kernel_rfl)) (Z.glo 45))))) ss_nil)
  (ss_cons (s_if (t_cmp (op_pEq hr.units) (e_v 0 (by kernel_rfl)) e_int (nomark _)) (ss_one (s_ret (e_isi1 (t := .own 28) (xc Z) (isi_8 Z) (gl_ (by kernel_rfl)) (Z.free 4) (e_v 1 (by kernel_rfl)) (n_own (c := 28) (gl_ (by kernel_rfl)) (Z.glo 46))))) ss_nil)
  (ss_cons (s_if (t_cmp (op_pEq hr.units) (e_v 0 (by kernel_rfl)) e_int (nomark _)) (ss_one (s_ret (e_isi1 (t := .own 29) (xc Z) (isi_9 Z) (gl_ (by kernel_rfl)) (Z.free 4) (e_v 1 (by kernel_rfl)) (n_own (c := 29) (gl_ (by kernel_rfl)) (Z.glo 19))))) ss_nil)
  (ss_cons (s_if (t_cmp (op_pEq hr.units) (e_v 0 (by kernel_rfl)) e_int (nomark _)) (ss_one (s_ret (e_isi1 (t := .own 30) (xc Z) (isi_10 Z) (gl_ (by kernel_rfl)) (Z.free 4) (e_v 1 (by kernel_rfl)) (n_own (c := 30) (gl_ (by kernel_rfl)) (Z.glo 20))))) ss_nil)
  (ss_cons (s_if (t_cmp (op_pEq hr.units) (e_v 0 (by kernel_rfl)) e_int (nomark _)) (ss_one (s_ret (e_isi1 (t := .own 31) (xc Z) (isi_11 Z) (gl_ (by kernel_rfl)) (Z.free 4) (e_v 1 (by kernel_rfl)) (n_own (c := 31) (gl_ (by kernel_rfl)) (Z.glo 21))))) ss_nil)
  (ss_cons (s_if (t_cmp (op_pEq hr.units) (e_v 0 (by kernel_rfl)) e_int (nomark _)) (ss_one (s_ret (e_isi1 (t := .own 32) (xc Z) (isi_12 Z) (gl_ (by kernel_rfl)) (Z.free 4) (e_v 1 (by kernel_rfl)) (n_own (c := 32) (gl_ (by kernel_rfl)) (Z.glo 22))))) ss_nil)
  (ss_cons (s_if (t_cmp (op_pEq hr.units) (e_v 0 (by kernel_rfl)) e_int (nomark _)) (ss_one (s_ret (e_isi1 (t := .own 33) (xc Z) (isi_13 Z) (gl_ (by kernel_rfl)) (Z.free 4) (e_v 1 (by kernel_rfl)) (n_own (c := 33) (gl_ (by kernel_rfl)) (Z.glo 23))))) ss_nil)
  (ss_cons (s_if (t_cmp (op_pEq hr.units) (e_v 0 (by kernel_rfl)) e_int (nomark _)) (ss_one (s_ret (e_isi1 (t := .own 34) (xc Z) (isi_14 Z) (gl_ (by kernel_rfl)) (Z.free 4) (e_v 1 (by kernel_rfl)) (n_own (c := 34) (gl_ (by kernel_rfl)) (Z.glo 24))))) ss_nil)
  (ss_cons (s_if (t_cmp (op_pEq hr.units) (e_v 0 (by kernel_rfl)) e_int (nomark _)) (ss_one (s_ret (e_isi1 (t := .own 35) (xc Z) (isi_15 Z) (gl_ (by kernel_rfl)) (Z.free 4) (e_v 1 (by kernel_rfl)) (n_own (c := 35) (gl_ (by kernel_rfl)) (Z.glo 25))))) ss_nil)
  (ss_cons (s_if (t_cmp (op_pEq hr.units) (e_v 0 (by kernel_rfl)) e_int (nomark _)) (ss_one (s_ret (e_isi1 (t := .own 36) (xc Z) (isi_16 Z) (gl_ (by kernel_rfl)) (Z.free 4) (e_v 1 (by kernel_rfl)) (n_own (c := 36) (gl_ (by kernel_rfl)) (Z.glo 26))))) ss_nil)
  (ss_cons (s_if (t_cmp (op_pEq hr.units) (e_v 0 (by kernel_rfl)) e_int (nomark _)) (ss_one (s_ret (e_isi1 (t := .own 37) (xc Z) (isi_17 Z) (gl_ (by kernel_rfl)) (Z.free 4) (e_v 1 (by kernel_rfl)) (n_own (c := 37) (gl_ (by kernel_rfl)) (Z.glo 27))))) ss_nil)
  (ss_cons (s_if (t_cmp (op_pEq hr.units) (e_v 0 (by kernel_rfl)) e_int (nomark _)) (ss_one (s_ret (e_isi1 (t := .own 38) (xc Z) (isi_18 Z) (gl_ (by kernel_rfl)) (Z.free 4) (e_v 1 (by kernel_rfl)) (n_own (c := 38) (gl_ (by kernel_rfl)) (Z.glo 28))))) ss_nil)
  (ss_cons (s_if (t_cmp (op_pEq hr.units) (e_v 0 (by kernel_rfl)) e_int (nomark _)) (ss_one (s_ret (e_isi1 (t := .own 39) (xc Z) (isi_19 Z) (gl_ (by kernel_rfl)) (Z.free 4) (e_v 1 (by kernel_rfl)) (n_own (c := 39) (gl_ (by kernel_rfl)) (Z.glo 29))))) ss_nil)
  (ss_cons (s_if (t_cmp (op_pEq hr.units) (e_v 0 (by kernel_rfl)) e_int (nomark _)) (ss_one (s_ret (e_isi1 (t := .own 40) (xc Z) (isi_20 Z) (gl_ (by kernel_rfl)) (Z.free 4) (e_v 1 (by kernel_rfl)) (n_own (c := 40) (gl_ (by kernel_rfl)) (Z.glo 30))))) ss_nil)
  (ss_cons (s_if (t_cmp (op_pEq hr.units) (e_v 0 (by kernel_rfl)) e_int (nomark _)) (ss_one (s_ret (e_isi1 (t := .own 41) (xc Z) (isi_21 Z) (gl_ (by kernel_rfl)) (Z.free 4) (e_v 1 (by kernel_rfl)) (n_own (c := 41) (gl_ (by kernel_rfl)) (Z.glo 31))))) ss_nil)
  (ss_cons (s_if (t_cmp (op_pEq hr.units) (e_v 0 (by kernel_rfl)) e_int (nomark _)) (ss_one (s_ret (e_isi1 (t := .own 42) (xc Z) (isi_22 Z) (gl_ (by kernel_rfl)) (Z.free 4) (e_v 1 (by kernel_rfl)) (n_own (c := 42) (gl_ (by kernel_rfl)) (Z.glo 32))))) ss_nil)
  (ss_cons (s_if (t_cmp (op_pEq hr.units) (e_v 0 (by kernel_rfl)) e_int (nomark _)) (ss_one (s_ret (e_isi1 (t := .own 43) (xc Z) (isi_23 Z) (gl_ (by kernel_rfl)) (Z.free 4) (e_v 1 (by kernel_rfl)) (n_own (c := 43) (gl_ (by kernel_rfl)) (Z.glo 10))))) ss_nil)
  (ss_cons (s_if (t_cmp (op_pEq hr.units) (e_v 0 (by kernel_rfl)) e_int (nomark _)) (ss_one (s_ret (e_isi1 (t := .own 44) (xc Z) (isi_24 Z) (gl_ (by kernel_rfl)) (Z.free 4) (e_v 1 (by kernel_rfl)) (n_own (c := 44) (gl_ (by kernel_rfl)) (Z.glo 11))))) ss_nil)
  (ss_cons (s_if (t_cmp (op_pEq hr.units) (e_v 0 (by kernel_rfl)) e_int (nomark _)) (ss_one (s_ret (e_isi1 (t := .own 45) (xc Z) (isi_25 Z) (gl_ (by kernel_rfl)) (Z.free 4) (e_v 1 (by kernel_rfl)) (n_own (c := 45) (gl_ (by kernel_rfl)) (Z.glo 12))))) ss_nil)
  (ss_cons (s_if (t_cmp (op_pEq hr.units) (e_v 0 (by kernel_rfl)) e_int (nomark _)) (ss_one (s_ret (e_isi1 (t := .own 46) (xc Z) (isi_26 Z) (gl_ (by kernel_rfl)) (Z.free 4) (e_v 1 (by kernel_rfl)) (n_own (c := 46) (gl_ (by kernel_rfl)) (Z.glo 13))))) ss_nil)
  (ss_cons (s_if (t_cmp (op_pEq hr.units) (e_v 0 (by kernel_rfl)) e_int (nomark _)) (ss_one (s_ret (e_isi1 (t := .own 47) (xc Z) (isi_27 Z) (gl_ (by kernel_rfl)) (Z.free 4) (e_v 1 (by kernel_rfl)) (n_own (c := 47) (gl_ (by kernel_rfl)) (Z.glo 14))))) ss_nil)
  (ss_cons (s_if (t_cmp (op_pEq hr.units) (e_v 0 (by kernel_rfl)) e_int (nomark _)) (ss_one (s_ret (e_isi1 (t := .own 48) (xc Z) (isi_28 Z) (gl_ (by kernel_rfl)) (Z.free 4) (e_v 1 (by kernel_rfl)) (n_own (c := 48) (gl_ (by kernel_rfl)) (Z.glo 15))))) ss_nil)
  (ss_cons (s_if (t_cmp (op_pEq hr.units) (e_v 0 (by kernel_rfl)) e_int (nomark _)) (ss_one (s_ret (e_isi1 (t := .own 49) (xc Z) (isi_29 Z) (gl_ (by kernel_rfl)) (Z.free 4) (e_v 1 (by kernel_rfl)) (n_own (c := 49) (gl_ (by kernel_rfl)) (Z.glo 16))))) ss_nil)
  (ss_cons (s_if (t_cmp (op_pEq hr.units) (e_v 0 (by kernel_rfl)) e_int (nomark _)) (ss_one (s_ret (e_isi1 (t := .own 50) (xc Z) (isi_30 Z) (gl_ (by kernel_rfl)) (Z.free 4) (e_v 1 (by kernel_rfl)) (n_own (c := 50) (gl_ (by kernel_rfl)) (Z.glo 17))))) ss_nil)
  (ss_one (s_ret (e_callZ (co__law_is_2 Z) takesB (hr.mono (by omega)) (gl_ (by kernel_rfl)) (a_cons (e_v 0 (by kernel_rfl)) (a_cons (e_v 1 (by kernel_rfl)) a_nil)) rfl))))))))))))))))))))))))))))
theorem sc__law_is_0 : FnScope N__law_is_0 ["k", "error"] (defScope st__law_is_0) := ⟨rfl, rfl, rfl, by decide +kernel, rfl, by decide +kernel, by decide +kernel⟩
theorem co__law_is_0 (Z : ZF K mg base) : CO P w K mg base Tb "_law_is_0" 3 ["k", "error"] g__law_is_0 := by
  have S := sc__law_is_0
  exact Z.co 12 78 rfl rfl S (fun _ _ _ _ _ _ us hl => match us, hl with | [_, _], _ => by kernel_rfl) fun cdv A outer s H E hr => (ss_cons (s_if (t_cmp (op_pEq hr.units) (e_v 0 (by kernel_rfl)) e_int (nomark _)) (ss_one (s_ret (e_isi1 (t := .own 1) (xc Z) (isi_31 Z) (gl_ (by kernel_rfl)) (Z.free 4) (e_v 1 (by kernel_rfl)) (n_own (c := 1) (gl_ (by kernel_rfl)) (Z.glo 47))))) ss_nil)
  (ss_cons (s_if (t_cmp (op_pEq hr.units) (e_v 0 (by kernel_rfl)) e_int (nomark _)) (ss_one (s_ret (e_isi1 (t := .own 2) (xc Z) (isi_32 Z) (gl_ (by kernel_rfl)) (Z.free 4) (e_v 1 (by kernel_rfl)) (n_own (c := 2) (gl_ (by kernel_rfl)) (Z.glo 48))))) ss_nil)
  (ss_cons (s_if (t_cmp (op_pEq hr.units) (e_v 0 (by kernel_rfl)) e_int (nomark _)) (ss_one (s_ret (e_isi1 (t := .own 3) (xc Z) (isi_33 Z) (gl_ (by kernel_rfl)) (Z.free 4) (e_v 1 (by kernel_rfl)) (n_own (c := 3) (gl_ (by kernel_rfl)) (Z.glo 49))))) ss_nil)
  (ss_cons (s_if (t_cmp (op_pEq hr.units) (e_v 0 (by kernel_rfl)) e_int (nomark _)) (ss_one (s_ret (e_isi1 (t := .own 4) (xc Z) (isi_34 Z) (gl_ (by kernel_rfl)) (Z.free 4) (e_v 1 (by kernel_rfl)) (n_own (c := 4) (gl_ (by kernel_rfl)) (Z.glo 50))))) ss_nil)
  (ss_cons (s_if (t_cmp (op_pEq hr.units) (e_v 0 (by kernel_rfl)) e_int (nomark _)) (ss_one (s_ret (e_isi1 (t := .own 5) (xc Z) (isi_35 Z) (gl_ (by kernel_rfl)) (Z.free 4) (e_v 1 (by kernel_rfl)) (n_own (c := 5) (gl_ (by kernel_rfl)) (Z.glo 51))))) ss_nil)
  (ss_cons (s_if (t_cmp (op_pEq hr.units) (e_v 0 (by kernel_rfl)) e_int (nomark _)) (ss_one (s_ret (e_isi1 (t := .own 6) (xc Z) (isi_36 Z) (gl_ (by kernel_rfl)) (Z.free 4) (e_v 1 (by kernel_rfl)) (n_own (c := 6) (gl_ (by kernel_rfl)) (Z.glo 52))))) ss_nil)
  (ss_cons (s_if (t_cmp (op_pEq hr.units) (e_v 0 (by kernel_rfl)) e_int (nomark _)) (ss_one (s_ret (e_isi1 (t := .own 7) (xc Z) (isi_37 Z) (gl_ (by kernel_rfl)) (Z.free 4) (e_v 1 (by kernel_rfl)) (n_own (c := 7) (gl_ (by kernel_rfl)) (Z.glo 53))))) ss_nil)
  (ss_cons (s_if (t_cmp (op_pEq hr.units) (e_v 0 (by kernel_rfl)) e_int (nomark _)) (ss_one (s_ret (e_isi1 (t := .own 8) (xc Z) (isi_38 Z) (gl_ (by kernel_rfl)) (Z.free 4) (e_v 1 (by kernel_rfl)) (n_own (c := 8) (gl_ (by kernel_rfl)) (Z.glo 54))))) ss_nil)
  (ss_cons (s_if (t_cmp (op_pEq hr.units) (e_v 0 (by kernel_rfl)) e_int (nomark _)) (ss_one (s_ret (e_isi1 (t := .own 9) (xc Z) (isi_39 Z) (gl_ (by kernel_rfl)) (Z.free 4) (e_v 1 (by kernel_rfl)) (n_own (c := 9) (gl_ (by kernel_rfl)) (Z.glo 55))))) ss_nil)
  (ss_cons (s_if (t_cmp (op_pEq hr.units) (e_v 0 (by kernel_rfl)) e_int (nomark _)) (ss_one (s_ret (e_isi1 (t := .own 10) (xc Z) (isi_40 Z) (gl_ (by kernel_rfl)) (Z.free 4) (e_v 1 (by kernel_rfl)) (n_own (c := 10) (gl_ (by kernel_rfl)) (Z.glo 56))))) ss_nil)
  (ss_cons (s_if (t_cmp (op_pEq hr.units) (e_v 0 (by kernel_rfl)) e_int (nomark _)) (ss_one (s_ret (e_isi1 (t := .own 11) (xc Z) (isi_41 Z) (gl_ (by kernel_rfl)) (Z.free 4) (e_v 1 (by kernel_rfl)) (n_own (c := 11) (gl_ (by kernel_rfl)) (Z.glo 57))))) ss_nil)
  (ss_cons (s_if (t_cmp (op_pEq hr.units) (e_v 0 (by kernel_rfl)) e_int (nomark _)) (ss_one (s_ret (e_isi1 (t := .own 12) (xc Z) (isi_42 Z) (gl_ (by kernel_rfl)) (Z.free 4) (e_v 1 (by kernel_rfl)) (n_own (c := 12) (gl_ (by kernel_rfl)) (Z.glo 58))))) ss_nil)
  (ss_cons (s_if (t_cmp (op_pEq hr.units) (e_v 0 (by kernel_rfl)) e_int (nomark _)) (ss_one (s_ret (e_isi1 (t := .own 13) (xc Z) (isi_43 Z) (gl_ (by kernel_rfl)) (Z.free 4) (e_v 1 (by kernel_rfl)) (n_own (c := 13) (gl_ (by kernel_rfl)) (Z.glo 59))))) ss_nil)
  (ss_cons (s_if (t_cmp (op_pEq hr.units) (e_v 0 (by kernel_rfl)) e_int (nomark _)) (ss_one (s_ret (e_isi1 (t := .own 14) (xc Z) (isi_44 Z) (gl_ (by kernel_rfl)) (Z.free 4) (e_v 1 (by kernel_rfl)) (n_own (c := 14) (gl_ (by kernel_rfl)) (Z.glo 60))))) ss_nil)
  (ss_cons (s_if (t_cmp (op_pEq hr.units) (e_v 0 (by kernel_rfl)) e_int (nomark _)) (ss_one (s_ret (e_isi1 (t := .own 15) (xc Z) (isi_45 Z) (gl_ (by kernel_rfl)) (Z.free 4) (e_v 1 (by kernel_rfl)) (n_own (c := 15) (gl_ (by kernel_rfl)) (Z.glo 33))))) ss_nil)
  (ss_cons (s_if (t_cmp (op_pEq hr.units) (e_v 0 (by kernel_rfl)) e_int (nomark _)) (ss_one (s_ret (e_isi1 (t := .own 16) (xc Z) (isi_46 Z) (gl_ (by kernel_rfl)) (Z.free 4) (e_v 1 (by kernel_rfl)) (n_own (c := 16) (gl_ (by kernel_rfl)) (Z.glo 34))))) ss_nil)
  (ss_cons (s_if (t_cmp (op_pEq hr.units) (e_v 0 (by kernel_rfl)) e_int (nomark _)) (ss_one (s_ret (e_isi1 (t := .own 17) (xc Z) (isi_47 Z) (gl_ (by kernel_rfl)) (Z.free 4) (e_v 1 (by kernel_rfl)) (n_own (c := 17) (gl_ (by kernel_rfl)) (Z.glo 35))))) ss_nil)
  (ss_cons (s_if (t_cmp (op_pEq hr.units) (e_v 0 (by kernel_rfl)) e_int (nomark _)) (ss_one (s_ret (e_isi1 (t := .own 18) (xc Z) (isi_48 Z) (gl_ (by kernel_rfl)) (Z.free 4) (e_v 1 (by kernel_rfl)) (n_own (c := 18) (gl_ (by kernel_rfl)) (Z.glo 36))))) ss_nil)
  (ss_cons (s_if (t_cmp (op_pEq hr.units) (e_v 0 (by kernel_rfl)) e_int (nomark _)) (ss_one (s_ret (e_isi1 (t := .own 19) (xc Z) (isi_49 Z) (gl_ (by kernel_rfl)) (Z.free 4) (e_v 1 (by kernel_rfl)) (n_own (c := 19) (gl_ (by kernel_rfl)) (Z.glo 37))))) ss_nil)
  (ss_cons (s_if (t_cmp (op_pEq hr.units) (e_v 0 (by kernel_rfl)) e_int (nomark _)) (ss_one (s_ret (e_isi1 (t := .own 20) (xc Z) (isi_50 Z) (gl_ (by kernel_rfl)) (Z.free 4) (e_v 1 (by kernel_rfl)) (n_own (c := 20) (gl_ (by kernel_rfl)) (Z.glo 38))))) ss_nil)
  (ss_cons (s_if (t_cmp (op_pEq hr.units) (e_v 0 (by kernel_rfl)) e_int (nomark _)) (ss_one (s_ret (e_isi1 (t := .own 21) (xc Z) (isi_51 Z) (gl_ (by kernel_rfl)) (Z.free 4) (e_v 1 (by kernel_rfl)) (n_own (c := 21) (gl_ (by kernel_rfl)) (Z.glo 39))))) ss_nil)
  (ss_cons (s_if (t_cmp (op_pEq hr.units) (e_v 0 (by kernel_rfl)) e_int (nomark _)) (ss_one (s_ret (e_isi1 (t := .own 22) (xc Z) (isi_52 Z) (gl_ (by kernel_rfl)) (Z.free 4) (e_v 1 (by kernel_rfl)) (n_own (c := 22) (gl_ (by kernel_rfl)) (Z.glo 40))))) ss_nil)
  (ss_cons (s_if (t_cmp (op_pEq hr.units) (e_v 0 (by kernel_rfl)) e_int (nomark _)) (ss_one (s_ret (e_isi1 (t := .own 23) (xc Z) (isi_53 Z) (gl_ (by kernel_rfl)) (Z.free 4) (e_v 1 (by kernel_rfl)) (n_own (c := 23) (gl_ (by kernel_rfl)) (Z.glo 41))))) ss_nil)
  (ss_cons (s_if (t_cmp (op_pEq hr.units) (e_v 0 (by kernel_rfl)) e_int (nomark _)) (ss_one (s_ret (e_isi1 (t := .own 24) (xc Z) (isi_54 Z) (gl_ (by kernel_rfl)) (Z.free 4) (e_v 1 (by kernel_rfl)) (n_own (c := 24) (gl_ (by kernel_rfl)) (Z.glo 42))))) ss_nil)
  (ss_cons (s_if (t_cmp (op_pEq hr.units) (e_v 0 (by kernel_rfl)) e_int (nomark _)) (ss_one (s_ret (e_isi1 (t := .own 25) (xc Z) (isi_55 Z) (gl_ (by kernel_rfl)) (Z.free 4) (e_v 1 (by kernel_rfl)) (n_own (c := 25) (gl_ (by kernel_rfl)) (Z.glo 43))))) ss_nil)
  (ss_one (s_ret (e_callZ (co__law_is_1 Z) takesB (hr.mono (by omega)) (gl_ (by kernel_rfl)) (a_cons (e_v 0 (by kernel_rfl)) (a_cons (e_v 1 (by kernel_rfl)) a_nil)) rfl))))))))))))))))))))))))))))
theorem sc__law_fields : FnScope N__law_fields ["k", "error"] (defScope st__law_fields) := ⟨rfl, rfl, rfl, by decide +kernel, rfl, by decide +kernel, by decide +kernel⟩
theorem co__law_fields (Z : ZF K mg base) : CO P w K mg base Tb "_law_fields" 1 ["k", "error"] g__law_fields := by
  have S := sc__law_fields
  exact Z.co 13 79 rfl rfl S (fun _ _ _ _ _ _ us hl => match us, hl with | [_, _], _ => by kernel_rfl) fun cdv A outer s H E hr => (ss_cons (s_if (t_cmp (op_pIn (neg := false) rfl (hu_of hr)) (e_v 0 (by kernel_rfl)) (e_tup (a_cons e_int a_nil)) (by with_unfolding_all rfl)) (ss_one (s_ret (e_lst (a_cons (e_att (xc Z) (fld Z) (e_v 1 (by kernel_rfl))) a_nil)))) ss_nil)
  (ss_cons (s_if (t_cmp (op_pIn (neg := false) rfl (hu_of hr)) (e_v 0 (by kernel_rfl)) (e_tup (a_cons e_int (a_cons e_int (a_cons e_int (a_cons e_int (a_cons e_int a_nil)))))) (by with_unfolding_all rfl)) (ss_one (s_ret (e_lst a_nil))) ss_nil)
  (ss_cons (s_if (t_cmp (op_pIn (neg := false) rfl (hu_of hr)) (e_v 0 (by kernel_rfl)) (e_tup (a_cons e_int a_nil)) (by with_unfolding_all rfl)) (ss_one (s_ret (e_lst (a_cons (e_att (xc Z) (fld Z) (e_v 1 (by kernel_rfl))) a_nil)))) ss_nil)
  (ss_cons (s_if (t_cmp (op_pIn (neg := false) rfl (hu_of hr)) (e_v 0 (by kernel_rfl)) (e_tup (a_cons e_int (a_cons e_int (a_cons e_int a_nil)))) (by with_unfolding_all rfl)) (ss_one (s_ret (e_lst (a_cons (e_att (xc Z) (fld Z) (e_v 1 (by kernel_rfl))) a_nil)))) ss_nil)
  (ss_cons (s_if (t_cmp (op_pIn (neg := false) rfl (hu_of hr)) (e_v 0 (by kernel_rfl)) (e_tup (a_cons e_int (a_cons e_int a_nil))) (by with_unfolding_all rfl)) (ss_one (s_ret (e_lst (a_cons (e_att (xc Z) (fld Z) (e_v 1 (by kernel_rfl))) a_nil)))) ss_nil)
  (ss_cons (s_if (t_cmp (op_pIn (neg := false) rfl (hu_of hr)) (e_v 0 (by kernel_rfl)) (e_tup (a_cons e_int a_nil)) (by with_unfolding_all rfl)) (ss_one (s_ret (e_lst (a_cons (e_att (xc Z) (fld Z) (e_v 1 (by kernel_rfl))) (a_cons (e_att (xc Z) (fld Z) (e_v 1 (by kernel_rfl))) a_nil))))) ss_nil)
  (ss_cons (s_if (t_cmp (op_pIn (neg := false) rfl (hu_of hr)) (e_v 0 (by kernel_rfl)) (e_tup (a_cons e_int a_nil)) (by with_unfolding_all rfl)) (ss_one (s_ret (e_lst (a_cons (e_att (xc Z) (fld Z) (e_v 1 (by kernel_rfl))) a_nil)))) ss_nil)
  (ss_cons (s_if (t_cmp (op_pIn (neg := false) rfl (hu_of hr)) (e_v 0 (by kernel_rfl)) (e_tup (a_cons e_int a_nil)) (by with_unfolding_all rfl)) (ss_one (s_ret (e_lst (a_cons (e_att (xc Z) (fld Z) (e_v 1 (by kernel_rfl))) a_nil)))) ss_nil)
  (ss_cons (s_if (t_cmp (op_pIn (neg := false) rfl (hu_of hr)) (e_v 0 (by kernel_rfl)) (e_tup (a_cons e_int a_nil)) (by with_unfolding_all rfl)) (ss_one (s_ret (e_lst (a_cons (e_att (xc Z) (fld Z) (e_v 1 (by kernel_rfl))) a_nil)))) ss_nil)
  (ss_one (s_ret (e_lst (a_cons (e_att (xc Z) (fld Z) (e_v 1 (by kernel_rfl))) a_nil)))))))))))))
theorem sc__law_raised : FnScope N__law_raised ["k", "one", "other"] (defScope st__law_raised) := ⟨rfl, rfl, rfl, by decide +kernel, rfl, by decide +kernel, by decide +kernel⟩
theorem co__law_raised (Z : ZF K mg base) : CO P w K mg base Tb "_law_raised" 3 ["k", "one", "other"] g__law_raised := by
  have S := sc__law_raised
  exact Z.co 14 80 rfl rfl S (fun _ _ _ _ _ _ us hl => match us, hl with | [_, _, _], _ => by kernel_rfl) fun cdv A outer s H E hr => (ss_cons (s_if (t_cmp (op_pEq hr.units) (e_v 0 (by kernel_rfl)) e_int (nomark _)) (ss_one (s_raise rfl takesB (mk_3 Z) (hr.mono (by omega)) (gl_ (by kernel_rfl)) (Z.glo 49) (n := 0) rfl (by decide) (a_cons (e_v 1 (by kernel_rfl)) a_nil))) ss_nil)
  (ss_cons (s_if (t_cmp (op_pEq hr.units) (e_v 0 (by kernel_rfl)) e_int (nomark _)) (ss_one (s_raise rfl takesB (mk_6 Z) (hr.mono (by omega)) (gl_ (by kernel_rfl)) (Z.glo 52) (n := 0) rfl (by decide) (a_cons (e_v 1 (by kernel_rfl)) a_nil))) ss_nil)
  (ss_cons (s_if (t_cmp (op_pEq hr.units) (e_v 0 (by kernel_rfl)) e_int (nomark _)) (ss_one (s_raise rfl takesB (mk_9 Z) (hr.mono (by omega)) (gl_ (by kernel_rfl)) (Z.glo 55) (n := 0) rfl (by decide) (a_cons (e_v 1 (by kernel_rfl)) a_nil))) ss_nil)
  (ss_cons (s_if (t_cmp (op_pEq hr.units) (e_v 0 (by kernel_rfl)) e_int (nomark _)) (ss_one (s_raise rfl takesB (mk_12 Z) (hr.mono (by omega)) (gl_ (by kernel_rfl)) (Z.glo 58) (n := 0) rfl (by decide) (a_cons (e_v 1 (by kernel_rfl)) a_nil))) ss_nil)
  (ss_cons (s_if (t_cmp (op_pEq hr.units) (e_v 0 (by kernel_rfl)) e_int (nomark _)) (ss_one (s_raise rfl takesB (mk_15 Z) (hr.mono (by omega)) (gl_ (by kernel_rfl)) (Z.glo 33) (n := 0) rfl (by decide) (a_cons (e_v 1 (by kernel_rfl)) a_nil))) ss_nil)
  (ss_cons (s_if (t_cmp (op_pEq hr.units) (e_v 0 (by kernel_rfl)) e_int (nomark _)) (ss_one (s_raise rfl takesB (mk_18 Z) (hr.mono (by omega)) (gl_ (by kernel_rfl)) (Z.glo 36) (n := 0) rfl (by decide) (a_cons (e_v 1 (by kernel_rfl)) a_nil))) ss_nil)
  (ss_cons (s_if (t_cmp (op_pEq hr.units) (e_v 0 (by kernel_rfl)) e_int (nomark _)) (ss_one (s_raise rfl takesB (mk_21 Z) (hr.mono (by omega)) (gl_ (by kernel_rfl)) (Z.glo 39) (n := 0) rfl (by decide) (a_cons (e_v 1 (by kernel_rfl)) a_nil))) ss_nil)
  (ss_cons (s_if (t_cmp (op_pEq hr.units) (e_v 0 (by kernel_rfl)) e_int (nomark _)) (ss_one (s_raise rfl takesB (mk_24 Z) (hr.mono (by omega)) (gl_ (by kernel_rfl)) (Z.glo 42) (n := 0) rfl (by decide) (a_cons (e_v 1 (by kernel_rfl)) a_nil))) ss_nil)
  (ss_cons (s_if (t_cmp (op_pEq hr.units) (e_v 0 (by kernel_rfl)) e_int (nomark _)) (ss_one (s_raise rfl takesB (mk_27 Z) (hr.mono (by omega)) (gl_ (by kernel_rfl)) (Z.glo 45) (n := 0) rfl (by decide) (a_cons (e_v 1 (by kernel_rfl)) a_nil))) ss_nil)
  (ss_cons (s_if (t_cmp (op_pEq hr.units) (e_v 0 (by kernel_rfl)) e_int (nomark _)) (ss_one (s_raise rfl takesB (mk_30 Z) (hr.mono (by omega)) (gl_ (by kernel_rfl)) (Z.glo 20) (n := 0) rfl (by decide) (a_cons (e_v 1 (by kernel_rfl)) a_nil))) ss_nil)
  (ss_cons (s_if (t_cmp (op_pEq hr.units) (e_v 0 (by kernel_rfl)) e_int (nomark _)) (ss_one (s_raise rfl takesB (mk_33 Z) (hr.mono (by omega)) (gl_ (by kernel_rfl)) (Z.glo 23) (n := 0) rfl (by decide) (a_cons (e_v 1 (by kernel_rfl)) a_nil))) ss_nil)
  (ss_cons (s_if (t_cmp (op_pEq hr.units) (e_v 0 (by kernel_rfl)) e_int (nomark _)) (ss_one (s_raise rfl takesB (mk_36 Z) (hr.mono (by omega)) (gl_ (by kernel_rfl)) (Z.glo 26) (n := 0) rfl (by decide) (a_cons (e_v 1 (by kernel_rfl)) a_nil))) ss_nil)
  (ss_cons (s_if (t_cmp (op_pEq hr.units) (e_v 0 (by kernel_rfl)) e_int (nomark _)) (ss_one (s_raise rfl takesB (mk_39 Z) (hr.mono (by omega)) (gl_ (by kernel_rfl)) (Z.glo 29) (n := 0) rfl (by decide) (a_cons (e_v 1 (by kernel_rfl)) a_nil))) ss_nil)
  (ss_cons (s_if (t_cmp (op_pEq hr.units) (e_v 0 (by kernel_rfl)) e_int (nomark _)) (ss_one (s_raise rfl takesB (mk_42 Z) (hr.mono (by omega)) (gl_ (by kernel_rfl)) (Z.glo 32) (n := 0) rfl (by decide) (a_cons (e_v 1 (by kernel_rfl)) a_nil))) ss_nil)
  (ss_cons (s_if (t_cmp (op_pEq hr.units) (e_v 0 (by kernel_rfl)) e_int (nomark _)) (ss_one (s_raise rfl takesB (mk_45 Z) (hr.mono (by omega)) (gl_ (by kernel_rfl)) (Z.glo 12) (n := 0) rfl (by decide) (a_cons (e_v 1 (by kernel_rfl)) a_nil))) ss_nil)
  (ss_cons (s_if (t_cmp (op_pEq hr.units) (e_v 0 (by kernel_rfl)) e_int (nomark _)) (ss_one (s_raise0 rfl takesB (mk_48 Z) (hr.mono (by omega)) (gl_ (by kernel_rfl)) (Z.glo 15) rfl)) ss_nil)
  (ss_cons (s_if (t_cmp (op_pEq hr.units) (e_v 0 (by kernel_rfl)) e_int (nomark _)) (ss_one (s_raise0 rfl takesB (mk_51 Z) (hr.mono (by omega)) (gl_ (by kernel_rfl)) (Z.glo 18) rfl)) ss_nil)
  (ss_one (s_raise rfl takesB (mk_1 Z) (hr.mono (by omega)) (gl_ (by kernel_rfl)) (Z.glo 47) (n := 0) rfl (by decide) (a_cons (e_v 1 (by kernel_rfl)) a_nil))))))))))))))))))))
theorem sc__law_caught_right : FnScope N__law_caught_right ["box"] (defScope st__law_caught_right) := ⟨rfl, rfl, rfl, by decide +kernel, rfl, by decide +kernel, by decide +kernel⟩
theorem co__law_caught_right (Z : ZF K mg base) : CO P w K mg base Tb "_law_caught_right" 4 ["box"] g__law_caught_right := by
  have S := sc__law_caught_right
  exact Z.co 15 81 rfl rfl S (fun _ _ _ _ _ _ us hl => match us, hl with | [_], _ => by kernel_rfl) fun cdv A outer s H E hr => (ss_cons (s_par3 (i := 2) (j := 3) (l := 4) rfl S.nd rfl rfl rfl (by decide) (by decide) (by decide) (by kernel_rfl) (by kernel_rfl) (by kernel_rfl) (a_cons (e_callZ (co__law_take Z) takesB (hr.mono (by omega)) (gl_ (by kernel_rfl)) (a_cons (e_v 0 (by kernel_rfl)) (a_cons e_int a_nil)) rfl) (a_cons (e_callZ (co__law_value Z) takesB (hr.mono (by omega)) (gl_ (by kernel_rfl)) (a_cons (e_v 0 (by kernel_rfl)) a_nil) rfl) (a_cons (e_callZ (co__law_value Z) takesB (hr.mono (by omega)) (gl_ (by kernel_rfl)) (a_cons (e_v 0 (by kernel_rfl)) a_nil) rfl) a_nil))) (by rfl))
  (ss_cons (s_for passB rfl (i_range1 (gl_ (by kernel_rfl)) (Z.free 9) (a_cons e_int a_nil)) (g_nameV 1 S.nd (by kernel_rfl) (.inl rfl)) (ss_cons (s_setV 5 S.nd (by kernel_rfl) e_non rfl)
  (ss_cons (s_try rfl rfl S.nd rfl takesB (exm_of Z) (fun _ _ _ tk => (ss_one (s_expr (e_callZ (co__law_raised Z) tk (hr.mono (by omega)) (gl_ (by kernel_rfl)) (a_cons (e_v 2 (by kernel_rfl)) (a_cons (e_v 3 (by kernel_rfl)) (a_cons (e_v 4 (by kernel_rfl)) a_nil))) rfl)))) (.cons (gl_ (by kernel_rfl)) (Z.glo 61) rfl rfl (by kernel_rfl) (fun _ => (ss_one (s_setV 5 S.nd (by kernel_rfl) (e_v 6 (by kernel_rfl)) rfl))) .nil))
  (ss_cons (s_if (PW.pt (t_or (t_cmp op_pIs (e_v 5 (by kernel_rfl)) e_non (nomark _)) (pw_or1 (t_not (t_tru (e_isi1 (t := .ty "ValueError") (xc Z) (isi_56 Z) (gl_ (by kernel_rfl)) (Z.free 4) (e_v 5 (by kernel_rfl)) (n_ty (gl_ (by kernel_rfl)) (Z.free 62) PyProof.Rows.Boot.«ValueError»)) (fun _ => rfl)))))) (ss_one (s_ret e_bl)) ss_nil)
  (ss_cons (s_setLc (i := 7) (own := [(("at" : Str), 8)]) rfl S.nd rfl (by kernel_rfl) (by rfl) (i_range1 (gl_ (by kernel_rfl)) (Z.free 9) (a_cons e_int a_nil)) (blk_of (by kernel_rfl)) (fun _ _ _ _ _ => (g_nameV 8 S.nd (by kernel_rfl) (by first | exact .inl rfl | exact .inr rfl))) (fun _ _ _ _ _ => (ts_one (t_tru (e_callZ (co__law_is_0 Z) takesN (hr.mono (by omega)) (gl_ (by kernel_rfl)) (a_cons (e_v 8 (by kernel_rfl)) (a_cons (e_v 5 (by kernel_rfl)) a_nil)) rfl) (fun _ => rfl)))) (fun _ _ _ _ _ => (e_v 8 (by kernel_rfl))))
  (ss_one (s_if (PW.pt (t_or (t_cmp (op_pNe hr.units) (e_callB call_pLen (gl_ (by kernel_rfl)) (Z.free 0) PyProof.Rows.Boot.«len» (a_cons (e_v 7 (by kernel_rfl)) a_nil)) e_int (nomark _)) (pw_or1 (PW.pt (t_and (t_cmp (op_pNe hr.units) (e_v 7 (by kernel_rfl)) (e_lst (a_cons (e_v 2 (by kernel_rfl)) a_nil)) (nomark _)) (pw_and1 (t_cmp (op_pNe hr.units) (e_v 7 (by kernel_rfl)) (e_lst (a_cons e_int a_nil)) (nomark _)))))))) (ss_one (s_ret e_bl)) ss_nil)))))))
  (ss_one (s_ret e_bl))))
theorem sc__law_deep : FnScope N__law_deep ["value"] (defScope st__law_deep) := ⟨rfl, rfl, rfl, by decide +kernel, rfl, by decide +kernel, by decide +kernel⟩
theorem co__law_deep (Z : ZF K mg base) : CO P w K mg base Tb "_law_deep" 1 ["value"] g__law_deep := by
  have S := sc__law_deep
  exact Z.co 16 82 rfl rfl S (fun _ _ _ _ _ _ us hl => match us, hl with | [_], _ => by kernel_rfl) fun cdv A outer s H E hr => (ss_one (s_ret (e_if (t_tru (e_isi1 (t := .ty "list") (xc Z) (isi_4 Z) (gl_ (by kernel_rfl)) (Z.free 4) (e_v 0 (by kernel_rfl)) (n_ty (gl_ (by kernel_rfl)) (Z.free 8) PyProof.Rows.Boot.«list»)) (fun _ => rfl)) (e_callTy call_pList (gl_ (by kernel_rfl)) (Z.free 8) PyProof.Rows.Boot.«list» (a_cons (e_v 0 (by kernel_rfl)) a_nil)) (e_v 0 (by kernel_rfl)))))
theorem sc__law_class_right : FnScope N__law_class_right ["box", "k"] (defScope st__law_class_right) := ⟨rfl, rfl, rfl, by decide +kernel, rfl, by decide +kernel, by decide +kernel⟩
theorem co__law_class_right (Z : ZF K mg base) : CO P w K mg base Tb "_law_class_right" 15 ["box", "k"] g__law_class_right := by
  have S := sc__law_class_right
  exact Z.co 17 83 rfl rfl S (fun _ _ _ _ _ _ us hl => match us, hl with | [_, _], _ => by kernel_rfl) fun cdv A outer s H E hr => (ss_cons (s_par3 (i := 5) (j := 6) (l := 7) rfl S.nd rfl rfl rfl (by decide) (by decide) (by decide) (by kernel_rfl) (by kernel_rfl) (by kernel_rfl) (a_cons (e_callZ (co__law_value Z) takesB (hr.mono (by omega)) (gl_ (by kernel_rfl)) (a_cons (e_v 0 (by kernel_rfl)) a_nil) rfl) (a_cons (e_callZ (co__law_value Z) takesB (hr.mono (by omega)) (gl_ (by kernel_rfl)) (a_cons (e_v 0 (by kernel_rfl)) a_nil) rfl) (a_cons (e_callZ (co__law_take Z) takesB (hr.mono (by omega)) (gl_ (by kernel_rfl)) (a_cons (e_v 0 (by kernel_rfl)) (a_cons e_int a_nil)) rfl) a_nil))) (by rfl))
  (ss_cons (s_asg (e_lst (a_cons (e_callZ (co__law_deep Z) takesB (hr.mono (by omega)) (gl_ (by kernel_rfl)) (a_cons (e_v 5 (by kernel_rfl)) a_nil) rfl) (a_cons (e_callZ (co__law_deep Z) takesB (hr.mono (by omega)) (gl_ (by kernel_rfl)) (a_cons (e_v 6 (by kernel_rfl)) a_nil) rfl) a_nil))) (g_tupZ rfl (gs_cons (g_nameV 5 S.nd (by kernel_rfl) (.inl rfl)) (gs_cons (g_nameV 6 S.nd (by kernel_rfl) (.inl rfl)) gs_nil))))
  (ss_cons (s_setV 2 S.nd (by kernel_rfl) (e_ix (e_lst (a_cons (e_callZ (co__law_made_0 Z) takesB (hr.mono (by omega)) (gl_ (by kernel_rfl)) (a_cons (e_v 1 (by kernel_rfl)) (a_cons (e_v 5 (by kernel_rfl)) (a_cons (e_v 6 (by kernel_rfl)) (a_cons (e_cmp (op_pEq hr.units) (e_v 7 (by kernel_rfl)) e_int (nomark _)) a_nil)))) rfl) (a_cons (e_callZ (co__law_made_0 Z) takesB (hr.mono (by omega)) (gl_ (by kernel_rfl)) (a_cons (e_v 1 (by kernel_rfl)) (a_cons e_int (a_cons e_str (a_cons (e_cmp (op_pEq hr.units) (e_v 7 (by kernel_rfl)) e_int (nomark _)) a_nil)))) rfl) a_nil))) e_int (fun _ _ => rfl)) rfl)
  (ss_cons (s_if (PW.pt (t_or (t_not (t_tru (e_isi1 (t := .own 0) (xc Z) (isi_57 Z) (gl_ (by kernel_rfl)) (Z.free 4) (e_v 2 (by kernel_rfl)) (n_own (c := 0) (gl_ (by kernel_rfl)) (Z.glo 61))) (fun _ => rfl))) (pw_or1 (t_not (t_tru (e_isi1 (t := .ty "ValueError") (xc Z) (isi_56 Z) (gl_ (by kernel_rfl)) (Z.free 4) (e_v 2 (by kernel_rfl)) (n_ty (gl_ (by kernel_rfl)) (Z.free 62) PyProof.Rows.Boot.«ValueError»)) (fun _ => rfl)))))) (ss_one (s_ret e_bl)) ss_nil)
  (ss_cons (s_if (t_cmp (op_pNe hr.units) (e_lc (own := [(("at" : Str), 10)]) rfl S.nd (i_range1 (gl_ (by kernel_rfl)) (Z.free 9) (a_cons e_int a_nil)) (blk_of (by kernel_rfl)) (fun _ _ _ _ _ => (g_nameV 10 S.nd (by kernel_rfl) (by first | exact .inl rfl | exact .inr rfl))) (fun _ _ _ _ _ => (ts_one (t_cmp (op_pNe hr.units) (e_callZ (co__law_is_0 Z) takesN (hr.mono (by omega)) (gl_ (by kernel_rfl)) (a_cons (e_v 10 (by kernel_rfl)) (a_cons (e_v 2 (by kernel_rfl)) a_nil)) rfl) (e_cmp (op_pEq hr.units) (e_v 10 (by kernel_rfl)) (e_v 1 (by kernel_rfl)) (nomark _)) (nomark _)))) (fun _ _ _ _ _ => (e_v 10 (by kernel_rfl)))) (e_lst a_nil) (nomark _)) (ss_one (s_ret e_bl)) ss_nil)
  (ss_cons (s_setV 3 S.nd (by kernel_rfl) (e_callZ (co__law_fields Z) takesB (hr.mono (by omega)) (gl_ (by kernel_rfl)) (a_cons (e_v 1 (by kernel_rfl)) (a_cons (e_v 2 (by kernel_rfl)) a_nil)) rfl) rfl)
  (ss_cons (s_if (t_not (t_tru (e_callZ (co__law_same Z 12) takesB (hr.mono (by omega)) (gl_ (by kernel_rfl)) (a_cons (e_v 3 (by kernel_rfl)) (a_cons (e_sl (e_lst (a_cons (e_v 5 (by kernel_rfl)) (a_cons (e_v 6 (by kernel_rfl)) a_nil))) o_none (o_some (e_callB call_pLen (gl_ (by kernel_rfl)) (Z.free 0) PyProof.Rows.Boot.«len» (a_cons (e_v 3 (by kernel_rfl)) a_nil)))) a_nil)) rfl) (fun _ => rfl))) (ss_one (s_ret e_bl)) ss_nil)
  (ss_cons (s_for passB rfl (i_zip (gl_ (by kernel_rfl)) (Z.free 63) (a_cons (e_lst (a_cons (e_v 5 (by kernel_rfl)) (a_cons (e_v 6 (by kernel_rfl)) a_nil))) (a_cons (e_v 3 (by kernel_rfl)) a_nil))) (g_tupZ rfl (gs_cons (g_nameV 8 S.nd (by kernel_rfl) (.inl rfl)) (gs_cons (g_nameV 9 S.nd (by kernel_rfl) (.inl rfl)) gs_nil))) (ss_one (s_if (t_not (t_tru (e_callZ (co__law_blamed Z) takesB (hr.mono (by omega)) (gl_ (by kernel_rfl)) (a_cons (e_v 9 (by kernel_rfl)) (a_cons (e_v 8 (by kernel_rfl)) a_nil)) rfl) (fun _ => rfl))) (ss_one (s_ret e_bl)) ss_nil)))
  (ss_cons (s_setV 4 S.nd (by kernel_rfl) (e_callZ (co__law_made_0 Z) takesB (hr.mono (by omega)) (gl_ (by kernel_rfl)) (a_cons (e_v 1 (by kernel_rfl)) (a_cons e_int (a_cons e_str (a_cons (e_cmp (op_pEq hr.units) (e_v 7 (by kernel_rfl)) e_int (nomark _)) a_nil)))) rfl) rfl)
  (ss_one (s_ret (e_and (e_callZ (co__law_same Z 12) takesB (hr.mono (by omega)) (gl_ (by kernel_rfl)) (a_cons (e_callZ (co__law_fields Z) takesB (hr.mono (by omega)) (gl_ (by kernel_rfl)) (a_cons (e_v 1 (by kernel_rfl)) (a_cons (e_v 4 (by kernel_rfl)) a_nil)) rfl) (a_cons (e_sl (e_lst (a_cons e_int (a_cons e_str a_nil))) o_none (o_some (e_callB call_pLen (gl_ (by kernel_rfl)) (Z.free 0) PyProof.Rows.Boot.«len» (a_cons (e_v 3 (by kernel_rfl)) a_nil)))) a_nil)) rfl) (pe_one (e_callZ (co__law_same Z 12) takesB (hr.mono (by omega)) (gl_ (by kernel_rfl)) (a_cons (e_callZ (co__law_fields Z) takesB (hr.mono (by omega)) (gl_ (by kernel_rfl)) (a_cons (e_v 1 (by kernel_rfl)) (a_cons (e_v 2 (by kernel_rfl)) a_nil)) rfl) (a_cons (e_sl (e_lst (a_cons (e_v 5 (by kernel_rfl)) (a_cons (e_v 6 (by kernel_rfl)) a_nil))) o_none (o_some (e_callB call_pLen (gl_ (by kernel_rfl)) (Z.free 0) PyProof.Rows.Boot.«len» (a_cons (e_v 3 (by kernel_rfl)) a_nil)))) a_nil)) rfl))))))))))))))
theorem sc_law : FnScope N_law ["script"] (defScope st_law) := ⟨rfl, rfl, rfl, by decide +kernel, rfl, by decide +kernel, by decide +kernel⟩
theorem co_law (Z : ZF K mg base) : CO P w K mg base Tb "law" 16 ["script"] g_law := by
  have S := sc_law
  exact Z.co 18 84 rfl rfl S (fun _ _ _ _ _ _ us hl => match us, hl with | [_], _ => by kernel_rfl) fun cdv A outer s H E hr => (ss_cons (s_for passB rfl (i_range1 (gl_ (by kernel_rfl)) (Z.free 9) (a_cons (e_callB (call_pMax2 rfl) (gl_ (by kernel_rfl)) (Z.free 65) PyProof.Rows.Boot.«max» (a_cons e_int (a_cons (e_callB (call_pMin2 rfl) (gl_ (by kernel_rfl)) (Z.free 64) PyProof.Rows.Boot.«min» (a_cons (e_callB call_pLen (gl_ (by kernel_rfl)) (Z.free 0) PyProof.Rows.Boot.«len» (a_cons (e_v 0 (by kernel_rfl)) a_nil)) (a_cons e_int a_nil))) a_nil))) a_nil)) (g_nameV 1 S.nd (by kernel_rfl) (.inl rfl)) (ss_cons (s_setV 2 S.nd (by kernel_rfl) (e_callZ (co__law_box Z) takesB (hr.mono (by omega)) (gl_ (by kernel_rfl)) (a_cons (e_callZ (co__law_cell Z) takesB (hr.mono (by omega)) (gl_ (by kernel_rfl)) (a_cons (e_v 0 (by kernel_rfl)) (a_cons (e_v 1 (by kernel_rfl)) a_nil)) rfl) a_nil) rfl) rfl)
  (ss_cons (s_setV 3 S.nd (by kernel_rfl) (e_callZ (co__law_take Z) takesB (hr.mono (by omega)) (gl_ (by kernel_rfl)) (a_cons (e_v 2 (by kernel_rfl)) (a_cons e_int a_nil)) rfl) rfl)
  (ss_cons (s_for passB rfl (i_range1 (gl_ (by kernel_rfl)) (Z.free 9) (a_cons e_int a_nil)) (g_nameV 4 S.nd (by kernel_rfl) (.inl rfl)) (ss_one (s_if (t_not (t_tru (e_callZ (co__law_class_right Z) takesB (hr.mono (by omega)) (gl_ (by kernel_rfl)) (a_cons (e_v 2 (by kernel_rfl)) (a_cons (e_bin op_pMod (e_callTy call_pInt (gl_ (by kernel_rfl)) (Z.free 2) PyProof.Rows.Boot.«int» (a_cons (e_bin op_pAdd (e_v 3 (by kernel_rfl)) (e_v 4 (by kernel_rfl))) a_nil)) e_int) a_nil)) rfl) (fun _ => rfl))) (ss_one (s_ret e_bl)) ss_nil)))
  (ss_one (s_if (PW.pt (t_or (t_not (t_tru (e_callZ (co__law_caught_right Z) takesB (hr.mono (by omega)) (gl_ (by kernel_rfl)) (a_cons (e_v 2 (by kernel_rfl)) a_nil) rfl) (fun _ => rfl))) (pw_or1 (t_not (t_tru (e_callZ (co__law_caught_right Z) takesB (hr.mono (by omega)) (gl_ (by kernel_rfl)) (a_cons (e_v 2 (by kernel_rfl)) a_nil) rfl) (fun _ => rfl)))))) (ss_one (s_ret e_bl)) ss_nil))))))
  (ss_one (s_ret e_bl)))
end
end Kk99
end Lay

set_option Elab.async false
set_option linter.all false
set_option maxRecDepth 100000
set_option maxHeartbeats 4000000
/-! the head -/
namespace Lay
namespace Kk99
open PySem PySem.Spec PyProof.Rows L2
theorem holds_of (hD : ∀ ns : List Int, ns.length ≤ 63 → ∃ S', g_law [.ref 0] [.ro (ns.map D.int)] = .ok (.bl true) S') : PySem.Challenge.rw_wiresay_k99_errors.Holds := by
  w_on; o_law
  refine HandSHeadRun.head_any (r := R) (q := PySem.W.view R.prog [73]) (H := hk) (ob := ob) (M := 40000) (loose := loose) (d := HandSHeadRun.topDef R.prog 73) (kwd := []) ob_eq
    (by kernel_rfl) (fun s => by kernel_rfl) run (by kernel_rfl) (by kernel_rfl) (by kernel_rfl) (by rfl) (by first | assumption | decide +kernel) (by decide +kernel) ⟨rfl, rfl, rfl, rfl, rfl, by decide +kernel⟩ ?hw ?hc
  case hw => w_witness2
  case hc =>
    refine walkL (n := 63) (k := 16) (T := Tb) (g := g_law) rfl (by decide) (by kernel_rfl) ⟨rfl, by decide, by decide⟩ (by kernel_rfl) (fun w K mg base Z => ⟨co_law Z, fun s us hl => ?_⟩) hD
    exact (Z.fun_ 18 (p := ("law", none)) (qual := "law") (st := st_law) rfl).bindsA (ps := ["script"]) (fun _ _ _ _ _ _ us hl => match us, hl with | [_], _ => by kernel_rfl) s us hl

end Kk99
end Lay

set_option Elab.async false
set_option linter.all false
set_option maxRecDepth 100000
set_option maxHeartbeats 4000000
/-! L12: reasoning about the functions. -/
namespace Lay
open PySem PySem.Spec PyProof.Rows L2
open Classical
theorem nr {α : Sort _} {a b : α} (h : a = b) : a = b := h
/-! ### what a result must be -/
def wpR {α : Type} (r : Res α) (Q : α → Store → Prop) (E : Ex → Store → Prop) : Prop := match r with
  | .ok a S => Q a S
  | .exc e S => E e S
  | .bad => False
structure Ps where
  n : SD → Store → Prop
  r : D → Store → Prop
  b : SD → Store → Prop := fun _ _ => False
  c : SD → Store → Prop := fun _ _ => False
  e : Ex → SD → Store → Prop := fun _ _ _ => False
def wpS (r : SRes) (P : Ps) : Prop := match r with
  | .nx sd S => P.n sd S
  | .rt d S => P.r d S
  | .bk sd S => P.b sd S
  | .ct sd S => P.c sd S
  | .exc e sd S => P.e e sd S
  | .bad => False
def wpP {α : Type} (p : Pr α) (Q : α → Store → Prop) : Prop := match p with
  | some z => Q z.1 z.2
  | none => False
section
variable {α β : Type} {Q : α → Store → Prop} {E : Ex → Store → Prop} {sd : SD} {S : Store}
@[simp] theorem wpR_ok (a : α) (S : Store) : wpR (.ok a S) Q E = Q a S := nr rfl
@[simp] theorem wpR_exc (e : Ex) (S : Store) : wpR (.exc e S) Q E = E e S := nr rfl
@[simp] theorem wpR_bad : wpR (.bad : Res α) Q E = False := nr rfl
@[simp] theorem wpR_ofO (p : Pr α) : wpR (.ofO p) Q E = wpP p Q := by cases p <;> rfl
theorem wpR_bind (m : SD → Store → Res β) (f : β → SD → Store → Res α) (sd : SD) (S : Store) : wpR (eBind m f sd S) Q E = wpR (m sd S) (fun a S' => wpR (f a sd S') Q E) E := by
  unfold eBind
  cases m sd S <;> rfl
theorem wpR_mono {r : Res α} {Q Q' : α → Store → Prop} {E E' : Ex → Store → Prop} (h : wpR r Q E) (hq : ∀ a S, Q a S → Q' a S) (he : ∀ e S, E e S → E' e S) : wpR r Q' E' := by
  cases r with
  | ok a S => exact hq a S h
  | exc e S => exact he e S h
  | bad => exact h
theorem wpR_eq {r : Res α} {a : α} {S : Store} (h : r = .ok a S) (q : Q a S) : wpR r Q E := by rw [h]; exact q
theorem wpR_ex {r : Res α} (h : wpR r Q fun _ _ => False) : ∃ a S, r = .ok a S ∧ Q a S := by
  cases r with
  | ok a S => exact ⟨a, S, rfl, h⟩
  | exc e S => exact h.elim
  | bad => exact h.elim
theorem wpR_var (i : Nat) {Q : D → Store → Prop} : wpR (eVar i sd S) Q E = ∃ d, sd[i]? = some (some d) ∧ Q d S := by
  unfold eVar
  cases h : sd[i]? with
  | none => simp
  | some o => cases o <;> simp
theorem wpR_c (d : D) {Q : D → Store → Prop} : wpR (eC d sd S) Q E = Q d S := nr rfl
@[simp] theorem wpP_some (a : α) (S : Store) : wpP (some (a, S)) Q = Q a S := nr rfl
@[simp] theorem wpP_none : wpP (none : Pr α) Q = False := nr rfl
@[simp] theorem wpP_ite (c : Prop) [Decidable c] (a b : Pr α) : wpP (if c then a else b) Q = if c then wpP a Q else wpP b Q := by split <;> rfl
@[simp] theorem wpR_ite (c : Prop) [Decidable c] (a b : Res α) : wpR (if c then a else b) Q E = if c then wpR a Q E else wpR b Q E := by split <;> rfl
end
/-! ### operations on ints -/
section
variable {Q : D → Store → Prop} {S : Store} {i j : Int}
@[simp] theorem wp_add : wpP (pAdd (.int i) (.int j) S) Q = Q (.int (i + j)) S := nr rfl
@[simp] theorem wp_sub : wpP (pSub (.int i) (.int j) S) Q = Q (.int (i - j)) S := nr rfl
@[simp] theorem wp_mul : wpP (pMul (.int i) (.int j) S) Q = (mulFits i j = true ∧ Q (.int (i * j)) S) := by
  unfold pMul onInts; simp
@[simp] theorem wp_div : wpP (pDiv (.int i) (.int j) S) Q = (divFits i j = true ∧ Q (.int (i / j)) S) := by
  unfold pDiv onInts; simp
@[simp] theorem wp_mod : wpP (pMod (.int i) (.int j) S) Q = (0 < j ∧ Q (.int (i % j)) S) := by
  unfold pMod onInts modFits; simp
@[simp] theorem wp_pow : wpP (pPow (.int i) (.int j) S) Q = (powFits i j = true ∧ Q (.int (i ^ j.toNat)) S) := by
  unfold pPow onInts; simp
@[simp] theorem wp_lt : wpP (pLt (.int i) (.int j) S) Q = Q (.bl (decide (i < j))) S := nr rfl
@[simp] theorem wp_le : wpP (pLe (.int i) (.int j) S) Q = Q (.bl (decide (i ≤ j))) S := nr rfl
@[simp] theorem wp_gt : wpP (pGt (.int i) (.int j) S) Q = Q (.bl (decide (j < i))) S := nr rfl
@[simp] theorem wp_ge : wpP (pGe (.int i) (.int j) S) Q = Q (.bl (decide (j ≤ i))) S := nr rfl
theorem pEqB_int : pEqB (.int i) (.int j) S = some (decide (i = j)) := by
  unfold pEqB
  simp only [toPy]
  rw [if_pos (by rfl)]
  congr 1
theorem pEqB_bl {a b : Bool} : pEqB (.bl a) (.bl b) S = some (a == b) := by
  unfold pEqB
  simp only [toPy]
  rw [if_pos (by rfl)]
  cases a <;> cases b <;> rfl
def okS (a : Str) : Bool := SeqAt.shaped (.str a)
theorem pEqB_str {a b : Str} (ha : okS a = true) (hb : okS b = true) : pEqB (.str a) (.str b) S = some (decide (a = b)) := by
  unfold pEqB
  unfold okS at ha hb
  simp only [toPy]
  rw [if_pos (by rw [ha, hb]; rfl)]
  congr 1
@[simp] theorem wp_eq : wpP (pEq (.int i) (.int j) S) Q = Q (.bl (decide (i = j))) S := by unfold pEq; rw [pEqB_int]; rfl
@[simp] theorem wp_ne : wpP (pNe (.int i) (.int j) S) Q = Q (.bl (!decide (i = j))) S := by unfold pNe; rw [pEqB_int]; rfl
@[simp] theorem wp_eqb {a b : Bool} : wpP (pEq (.bl a) (.bl b) S) Q = Q (.bl (a == b)) S := by unfold pEq; rw [pEqB_bl]; rfl
@[simp] theorem wp_neb {a b : Bool} : wpP (pNe (.bl a) (.bl b) S) Q = Q (.bl (!(a == b))) S := by unfold pNe; rw [pEqB_bl]; rfl
theorem wp_eqs {a b : Str} (ha : okS a = true) (hb : okS b = true) : wpP (pEq (.str a) (.str b) S) Q = Q (.bl (decide (a = b))) S := by unfold pEq; rw [pEqB_str ha hb]; rfl
theorem wp_nes {a b : Str} (ha : okS a = true) (hb : okS b = true) : wpP (pNe (.str a) (.str b) S) Q = Q (.bl (!decide (a = b))) S := by unfold pNe; rw [pEqB_str ha hb]; rfl
end
/-! ### statements -/
section
variable {P : Ps} {sd : SD} {S : Store} {α : Type}
@[simp] theorem wpS_nx (sd : SD) (S : Store) : wpS (.nx sd S) P = P.n sd S := nr rfl
@[simp] theorem wpS_rt (d : D) (S : Store) : wpS (.rt d S) P = P.r d S := nr rfl
@[simp] theorem wpS_bk (sd : SD) (S : Store) : wpS (.bk sd S) P = P.b sd S := nr rfl
@[simp] theorem wpS_ct (sd : SD) (S : Store) : wpS (.ct sd S) P = P.c sd S := nr rfl
@[simp] theorem wpS_exc (e : Ex) (sd : SD) (S : Store) : wpS (.exc e sd S) P = P.e e sd S := nr rfl
@[simp] theorem wpS_bad : wpS .bad P = False := nr rfl
@[simp] theorem wpS_ite (c : Prop) [Decidable c] (a b : SRes) : wpS (if c then a else b) P = if c then wpS a P else wpS b P := by split <;> rfl
theorem wpS_bind (m : SD → Store → Res α) (k : α → FF) : wpS (sBind m k sd S) P = wpR (m sd S) (fun a S' => wpS (k a sd S') P) (fun x S' => P.e x sd S') := by
  unfold sBind
  cases m sd S <;> rfl
theorem wpS_seq (F G : FF) : wpS (sSeq F G sd S) P = wpS (F sd S) { P with n := fun sd' S' => wpS (G sd' S') P } := by
  unfold sSeq
  cases F sd S <;> rfl
theorem wpS_next : wpS (sNext sd S) P = P.n sd S := nr rfl
theorem wpS_if (t : EB) (F G : FF) : wpS (sIf t F G sd S) P = wpR (t sd S) (fun b S' => if b then wpS (F sd S') P else wpS (G sd S') P) (fun x S' => P.e x sd S') := by
  unfold sIf
  rw [wpS_bind]
  congr 1
  funext b S'
  cases b <;> rfl
theorem wpS_mono {r : SRes} {P P' : Ps} (h : wpS r P) (hn : ∀ a S, P.n a S → P'.n a S) (hr : ∀ a S, P.r a S → P'.r a S) (hb : ∀ a S, P.b a S → P'.b a S) (hc : ∀ a S, P.c a S → P'.c a S) (he : ∀ a sd S, P.e a sd S → P'.e a sd S) : wpS r P' := by
  cases r with
  | nx a S => exact hn a S h
  | rt a S => exact hr a S h
  | bk a S => exact hb a S h
  | ct a S => exact hc a S h
  | exc e a S => exact he e a S h
  | bad => exact h
/-- a def's result -/
theorem wp_fn {n np : Nat} {F : FF} {ds : List D} {Q : D → Store → Prop} {E : Ex → Store → Prop} (hl : ds.length = np) (h : wpS (F (startD n ds) S) { n := fun _ S' => Q .non S', r := Q, e := fun x _ S' => E x S' }) : wpR (fnD n np F ds S) Q E := by
  unfold fnD
  rw [if_pos hl]
  cases e : F (startD n ds) S with
  | nx a S' => rw [e] at h; exact h
  | rt d S' => rw [e] at h; exact h
  | exc x a S' => rw [e] at h; exact h
  | bk a S' => rw [e] at h; exact h.elim
  | ct a S' => rw [e] at h; exact h.elim
  | bad => rw [e] at h; exact h.elim
/-- while: an invariant that goes down -/
theorem wp_while {t : EB} {F : FF} {P : Ps} (Inv : Nat → SD → Store → Prop)
    (step : ∀ n sd S, Inv n sd S → wpR (t sd S) (fun b S1 => if b then wpS (F sd S1) { P with n := fun sd' S' => ∃ m, m < n ∧ Inv m sd' S', c := fun sd' S' => ∃ m, m < n ∧ Inv m sd' S', b := P.n } else P.n sd S1) fun x S1 => P.e x sd S1) :
    ∀ n sd S, Inv n sd S → wpS (sWhile t F sd S) P := by
  intro n
  induction n using Nat.strongRecOn with
  | _ n ih =>
    intro sd S hi
    have st := step n sd S hi
    unfold sWhile
    rw [loopFix_eq]
    unfold whStep
    cases et : t sd S with
    | bad => rw [et] at st; exact st.elim
    | exc e S1 => rw [et] at st; exact st
    | ok b S1 =>
      rw [et] at st
      cases b with
      | false => exact st
      | true =>
        simp only [wpR_ok, if_true] at st
        dsimp only
        cases ef : F sd S1 with
        | nx sd' S' => rw [ef] at st; obtain ⟨m, hm, hi'⟩ := st; exact ih m hm sd' S' hi'
        | ct sd' S' => rw [ef] at st; obtain ⟨m, hm, hi'⟩ := st; exact ih m hm sd' S' hi'
        | bk sd' S' => rw [ef] at st; exact st
        | rt d S' => rw [ef] at st; exact st
        | exc e sd' S' => rw [ef] at st; exact st
        | bad => rw [ef] at st; exact st.elim
/-- for: an invariant by the number of turns -/
theorem wp_for {g : GD} {F : FF} {chk : Store → Prop} {P : Ps} (Inv : Nat → SD → Store → Prop) : ∀ (ds : List D) (i : Nat) (sd : SD) (S : Store), Inv i sd S →
    (∀ j d sd S, ds[j]? = some d → Inv (i + j) sd S → chk S ∧ ∃ z, g d sd S = some z ∧ wpS (F z.1 z.2) { P with n := Inv (i + j + 1), c := Inv (i + j + 1), b := P.n }) →
    (∀ sd S, Inv (i + ds.length) sd S → chk S ∧ P.n sd S) → wpS (forD g F chk ds sd S) P
  | [], i, sd, S, hi, _, fin => by
    obtain ⟨c, q⟩ := fin sd S hi
    unfold forD
    rw [if_pos c]
    exact q
  | d :: ds, i, sd, S, hi, step, fin => by
    obtain ⟨c, z, e, st⟩ := step 0 d sd S rfl hi
    unfold forD
    rw [if_pos c, e]
    have next : ∀ sd' S', Inv (i + 1) sd' S' → wpS (forD g F chk ds sd' S') P := fun sd' S' h => wp_for Inv ds (i + 1) sd' S' h
      (fun j d' sd S e2 hi2 => by
        have w := step (j + 1) d' sd S (by simpa using e2) (by have : i + (j + 1) = i + 1 + j := by omega
                                                               rw [this]; exact hi2)
        have q : i + (j + 1) + 1 = i + 1 + j + 1 := by omega
        rw [q] at w
        exact w)
      fun sd S hi2 => fin sd S (by rw [List.length_cons]; have : i + (ds.length + 1) = i + 1 + ds.length := by omega
                                   rw [this]; exact hi2)
    dsimp only
    cases ef : F z.1 z.2 with
    | nx sd' S' => rw [ef] at st; exact next sd' S' st
    | ct sd' S' => rw [ef] at st; exact next sd' S' st
    | bk sd' S' => rw [ef] at st; exact st
    | rt d S' => rw [ef] at st; exact st
    | exc e sd' S' => rw [ef] at st; exact st
    | bad => rw [ef] at st; exact st.elim
/-- a comprehension: what it has gathered -/
theorem wp_lc {n : Nat} {g : GD} {tt : EB} {te : EE} {vs : List Nat} {chk : Store → Prop} {sd : SD} (Inv : Nat → Store → Prop) : ∀ (ds : List D) (i : Nat) (S : Store), Inv i S →
    (∀ j d S, ds[j]? = some d → Inv (i + j) S → chk S ∧ ∃ z, g d (wipeD sd vs) S = some z ∧ wpR (tt z.1 z.2) (fun b S2 => if b then wpR (te z.1 S2) (fun y S3 => ∃ acc, S3[n]? = some (.lst acc) ∧ fits (acc.length + 1) = true ∧ Inv (i + j + 1) (S3.set n (.lst (acc ++ [y])))) fun _ _ => False
      else Inv (i + j + 1) S2) fun _ _ => False) →
    (∀ S, Inv (i + ds.length) S → chk S) → ∃ S', lcD n g tt te vs chk sd ds S = some S' ∧ Inv (i + ds.length) S'
  | [], i, S, hi, _, fin => ⟨S, by unfold lcD; rw [if_pos (fin S hi)], hi⟩
  | d :: ds, i, S, hi, step, fin => by
    obtain ⟨c, z, e, st⟩ := step 0 d S rfl hi
    have next : ∀ S', Inv (i + 1) S' → ∃ S'', lcD n g tt te vs chk sd ds S' = some S'' ∧ Inv (i + (d :: ds).length) S'' := fun S' h => by
      obtain ⟨S'', e1, e2⟩ := wp_lc Inv ds (i + 1) S' h
        (fun j d' S e2 hi2 => by
          have w := step (j + 1) d' S (by simpa using e2) (by have : i + (j + 1) = i + 1 + j := by omega
                                                              rw [this]; exact hi2)
          have q : i + (j + 1) + 1 = i + 1 + j + 1 := by omega
          rw [q] at w
          exact w)
        fun S hi2 => fin S (by rw [List.length_cons]; have : i + (ds.length + 1) = i + 1 + ds.length := by omega
                               rw [this]; exact hi2)
      exact ⟨S'', e1, by rw [List.length_cons]; have : i + (ds.length + 1) = i + 1 + ds.length := by omega
                         rw [this]; exact e2⟩
    unfold lcD
    rw [if_pos c, e]
    dsimp only
    cases et : tt z.1 z.2 with
    | bad => rw [et] at st; exact st.elim
    | exc x S1 => rw [et] at st; exact st.elim
    | ok b S2 =>
      rw [et] at st
      cases b with
      | false => exact next S2 st
      | true =>
        simp only [wpR_ok, if_true] at st
        dsimp only
        cases ee : te z.1 S2 with
        | bad => rw [ee] at st; exact st.elim
        | exc x S1 => rw [ee] at st; exact st.elim
        | ok y S3 =>
          rw [ee] at st
          obtain ⟨acc, q1, q2, q3⟩ := st
          dsimp only
          rw [q1]
          dsimp only
          rw [if_pos q2]
          exact next _ q3
theorem wp_eLc {it : EI} {g : GD} {tt : EB} {te : EE} {vs : List Nat} {Q : D → Store → Prop} {E : Ex → Store → Prop} (h : wpR (it sd S) (fun t S1 => ∃ S', lcD S1.length g tt te vs t.chk sd t.ds (S1 ++ [.lst []]) = some S' ∧ Q (.ref S1.length) S') E) : wpR (eLc it g tt te vs sd S) Q E := by
  unfold eLc
  rw [wpR_bind]
  refine wpR_mono h (fun t S1 ⟨S', e, q⟩ => ?_) fun _ _ z => z
  rw [e]
  exact q
end
/-! ### the store grows -/
/-- all that stood stands -/
def Fr (S S' : Store) : Prop := ∀ n, n < S.length → S'[n]? = S[n]?
/-- .. but for b -/
def FrB (b : Nat) (S S' : Store) : Prop := S.length ≤ S'.length ∧ ∀ n, n < S.length → n ≠ b → S'[n]? = S[n]?
theorem Fr.refl {S : Store} : Fr S S := fun _ _ => rfl
theorem Fr.le {S S' : Store} (h : Fr S S') : S.length ≤ S'.length := by
  by_cases e : S.length = 0
  · omega
  · have q := h (S.length - 1) (by omega)
    rw [List.getElem?_eq_getElem (by omega : S.length - 1 < S.length)] at q
    have := (List.getElem?_eq_some_iff.mp q).1
    omega
theorem Fr.trans {S S' S'' : Store} (h : Fr S S') (h' : Fr S' S'') : Fr S S'' := fun n hn => (h' n (Nat.lt_of_lt_of_le hn h.le)).trans (h n hn)
theorem Fr.app {S : Store} (T : Store) : Fr S (S ++ T) := fun n hn => List.getElem?_append_left hn
theorem Fr.at {S S' : Store} (h : Fr S S') {n : Nat} {o : SO} (e : S[n]? = some o) : S'[n]? = some o := by
  rw [h n (List.getElem?_eq_some_iff.mp e).1]; exact e
theorem Fr.b {S S' : Store} (h : Fr S S') (b : Nat) : FrB b S S' := ⟨h.le, fun n hn _ => h n hn⟩
theorem FrB.refl {b : Nat} {S : Store} : FrB b S S := ⟨Nat.le_refl _, fun _ _ _ => rfl⟩
theorem FrB.trans {b : Nat} {S S' S'' : Store} (h : FrB b S S') (h' : FrB b S' S'') : FrB b S S'' := ⟨Nat.le_trans h.1 h'.1, fun n hn hb => (h'.2 n (Nat.lt_of_lt_of_le hn h.1) hb).trans (h.2 n hn hb)⟩
theorem FrB.set {b : Nat} {S : Store} (o : SO) : FrB b S (S.set b o) := ⟨by simp, fun n hn hb => List.getElem?_set_ne (Ne.symm hb)⟩
theorem FrB.at {b : Nat} {S S' : Store} (h : FrB b S S') {n : Nat} {o : SO} (e : S[n]? = some o) (hb : n ≠ b) : S'[n]? = some o := by
  rw [h.2 n (List.getElem?_eq_some_iff.mp e).1 hb]; exact e
/-- a later object is written: the older ones stand -/
theorem Fr.set {S S' : Store} (h : Fr S S') {n : Nat} (o : SO) (hn : S.length ≤ n) : Fr S (S'.set n o) := fun m hm => by
  rw [List.getElem?_set_ne (by omega)]; exact h m hm
theorem FrB.setB {b : Nat} {S S' : Store} (h : FrB b S S') {n : Nat} (o : SO) (hn : S.length ≤ n) : FrB b S (S'.set n o) := ⟨by simp [h.1], fun m hm hb => by
  rw [List.getElem?_set_ne (by omega)]; exact h.2 m hm hb⟩
theorem last_at (S : Store) (o : SO) : (S ++ [o])[S.length]? = some o := by simp
end Lay

set_option Elab.async false
set_option linter.all false
set_option maxRecDepth 100000
set_option maxHeartbeats 4000000
/-! L13: the readings of the combinators. -/
namespace Lay
open PySem PySem.Spec PyProof.Rows L2
open Classical
section
variable {Q : D → Store → Prop} {QB : Bool → Store → Prop} {QL : List D → Store → Prop} {QO : Option Int → Store → Prop} {QI : ITd → Store → Prop} {E : Ex → Store → Prop} {sd : SD} {S : Store} {a b c m fa : EE} {t u : EB} {aa : EA} {g : P2} {P : Ps} {T : List Cls}
@[simp] theorem v_var (i : Nat) : wpR (eVar i sd S) Q E = ∃ d, sd[i]? = some (some d) ∧ Q d S := wpR_var i
@[simp] theorem v_c (d : D) : wpR (eC d sd S) Q E = Q d S := nr rfl
@[simp] theorem v_bin : wpR (eBin g a b sd S) Q E = wpR (a sd S) (fun x S1 => wpR (b sd S1) (fun y S2 => wpP (g x y S2) Q) E) E := by
  unfold eBin; simp only [wpR_bind, wpR_ofO]
@[simp] theorem v_chain {g' : P2} : wpR (eChain g g' a b c sd S) Q E = wpR (a sd S) (fun x S1 => wpR (b sd S1) (fun y S2 => wpP (g x y S2) fun z S3 => match z with
    | .bl true => wpR (c sd S3) (fun w S4 => wpP (g' y w S4) Q) E
    | .bl false => Q (.bl false) S3
    | _ => False) E) E := by
  unfold eChain
  simp only [wpR_bind, wpR_ofO]
  congr 1; funext x S1; congr 1; funext y S2; congr 1; funext z S3
  split <;> simp only [wpR_bind, wpR_ofO, wpR_ok, wpR_bad]
@[simp] theorem v_neg : wpR (eNeg a sd S) Q E = wpR (a sd S) (fun x S1 => ∃ i, x = .int i ∧ Q (.int (-i)) S1) E := by
  unfold eNeg; simp only [wpR_bind]
  congr 1; funext x S1
  cases x <;> simp
@[simp] theorem v_asB : wpR (asB m sd S) QB E = wpR (m sd S) (fun x S1 => ∃ k, x = .bl k ∧ QB k S1) E := by
  unfold asB; simp only [wpR_bind]
  congr 1; funext x S1
  cases x <;> simp
@[simp] theorem v_tru : wpR (eTru m sd S) QB E = wpR (m sd S) (fun x S1 => ∃ k, pTru x S1 = some k ∧ QB k S1) E := by
  unfold eTru; simp only [wpR_bind, wpR_ofO]
  congr 1; funext x S1
  cases pTru x S1 <;> simp
@[simp] theorem v_bnot : wpR (bNot t sd S) QB E = wpR (t sd S) (fun k S1 => QB (!k) S1) E := by
  unfold bNot; simp only [wpR_bind, wpR_ok]
@[simp] theorem v_band : wpR (bAnd t u sd S) QB E = wpR (t sd S) (fun k S1 => if k then wpR (u sd S1) QB E else QB false S1) E := by
  unfold bAnd; simp only [wpR_bind]
  congr 1; funext x S1
  cases x <;> rfl
@[simp] theorem v_bor : wpR (bOr t u sd S) QB E = wpR (t sd S) (fun k S1 => if k then QB true S1 else wpR (u sd S1) QB E) E := by
  unfold bOr; simp only [wpR_bind]
  congr 1; funext x S1
  cases x <;> rfl
@[simp] theorem v_not : wpR (eNot a sd S) Q E = wpR (a sd S) (fun x S1 => ∃ k, pTru x S1 = some k ∧ Q (.bl (!k)) S1) E := by
  unfold eNot; simp only [wpR_bind, v_tru, wpR_ok]
@[simp] theorem v_and : wpR (eAnd a b sd S) Q E = wpR (a sd S) (fun x S1 => ∃ k, pTru x S1 = some k ∧ if k then wpR (b sd S1) Q E else Q x S1) E := by
  unfold eAnd; simp only [wpR_bind, wpR_ofO]
  congr 1; funext x S1
  cases pTru x S1 with
  | none => simp
  | some k => cases k <;> simp
@[simp] theorem v_or : wpR (eOr a b sd S) Q E = wpR (a sd S) (fun x S1 => ∃ k, pTru x S1 = some k ∧ if k then Q x S1 else wpR (b sd S1) Q E) E := by
  unfold eOr; simp only [wpR_bind, wpR_ofO]
  congr 1; funext x S1
  cases pTru x S1 with
  | none => simp
  | some k => cases k <;> simp
@[simp] theorem v_if : wpR (eIf t a b sd S) Q E = wpR (t sd S) (fun k S1 => if k then wpR (a sd S1) Q E else wpR (b sd S1) Q E) E := by
  unfold eIf; simp only [wpR_bind]
  congr 1; funext x S1
  cases x <;> rfl
@[simp] theorem v_nil : wpR (aNil sd S) QL E = QL [] S := nr rfl
@[simp] theorem v_cons : wpR (aCons a aa sd S) QL E = wpR (a sd S) (fun x S1 => wpR (aa sd S1) (fun xs S2 => QL (x :: xs) S2) E) E := by
  unfold aCons; simp only [wpR_bind, wpR_ok]
@[simp] theorem v_tup : wpR (eTup aa sd S) Q E = wpR (aa sd S) (fun xs S1 => fits xs.length = true ∧ Q (.tup xs) S1) E := by
  unfold eTup; simp only [wpR_bind, wpR_ite, wpR_ok, wpR_bad]
  congr 1; funext x S1
  simp
@[simp] theorem v_lst : wpR (eLst aa sd S) Q E = wpR (aa sd S) (fun xs S1 => fits xs.length = true ∧ Q (.ref S1.length) (S1 ++ [.lst xs])) E := by
  unfold eLst; simp only [wpR_bind, wpR_ite, wpR_ok, wpR_bad]
  congr 1; funext x S1
  simp
@[simp] theorem v_callB {g : PN} : wpR (eCallB g aa sd S) Q E = wpR (aa sd S) (fun xs S1 => wpP (g xs S1) Q) E := by
  unfold eCallB; simp only [wpR_bind, wpR_ofO]
@[simp] theorem v_call {g : List D → M D} : wpR (eCall g aa sd S) Q E = wpR (aa sd S) (fun xs S1 => wpR (g xs S1) Q E) E := by
  unfold eCall; simp only [wpR_bind]
@[simp] theorem v_callKw {g : List D → M D} {perm : List Nat} : wpR (eCallKw g perm aa sd S) Q E = wpR (aa sd S) (fun xs S1 => wpR (g (permA perm xs) S1) Q E) E := by
  unfold eCallKw; simp only [wpR_bind]
@[simp] theorem v_isi {ts : List Kd} : wpR (eIsi T ts a sd S) Q E = wpR (a sd S) (fun x S1 => ∃ k, kd x S1 = some k ∧ Q (.bl (ts.any (subD T k))) S1) E := by
  unfold eIsi; simp only [wpR_bind]
  congr 1; funext x S1
  cases kd x S1 <;> simp
@[simp] theorem v_mk (c n : Nat) : wpR (eMk c n aa sd S) Q E = wpR (aa sd S) (fun xs S1 => xs.length = n ∧ Q (.exn c xs) S1) E := by
  unfold eMk; simp only [wpR_bind, wpR_ite, wpR_ok, wpR_bad]
  congr 1; funext x S1
  simp
@[simp] theorem v_mthL {g : PM} : wpR (eMthL g a aa sd S) Q E = wpR (a sd S) (fun x S1 => isL x S1 = true ∧ wpR (aa sd S1) (fun xs S2 => wpP (g x xs S2) Q) E) E := by
  unfold eMthL; simp only [wpR_bind, wpR_ite, wpR_ofO, wpR_ok, wpR_bad]
  congr 1; funext x S1
  simp
@[simp] theorem v_onone : wpR (oNone sd S) QO E = QO none S := nr rfl
@[simp] theorem v_osome : wpR (oSome a sd S) QO E = wpR (a sd S) (fun x S1 => ∃ i, x = .int i ∧ QO (some i) S1) E := by
  unfold oSome; simp only [wpR_bind]
  congr 1; funext x S1
  cases x <;> simp
@[simp] theorem v_sl {lo hi : EO} : wpR (eSl a lo hi sd S) Q E = wpR (a sd S) (fun x S1 => wpR (lo sd S1) (fun l S2 => wpR (hi sd S2) (fun h S3 => wpP (pSl x l h S3) Q) E) E) E := by
  unfold eSl; simp only [wpR_bind, wpR_ofO]
@[simp] theorem v_dct0 : wpR (eDct0 sd S) Q E = Q (.ref S.length) (S ++ [.dct []]) := nr rfl
def attD (T : List Cls) (f : Str) : D → Option D
  | .exn c ds => (fldIx T c f).bind fun i => ds[i]?
  | _ => none
@[simp] theorem v_att {f : Str} : wpR (eAtt T f a sd S) Q E = wpR (a sd S) (fun x S1 => ∃ d, attD T f x = some d ∧ Q d S1) E := by
  unfold eAtt; simp only [wpR_bind]
  congr 1; funext x S1
  cases x with
  | exn c ds =>
    unfold attD
    dsimp only
    cases h : fldIx T c f with
    | none => simp
    | some i =>
      dsimp only
      rw [Option.bind_some]
      cases h2 : ds[i]? with
      | none => simp
      | some d => simp
  | _ => simp [attD]
def rgB (i : Int) : Bool := decide (-(2 ^ 62) ≤ i ∧ i ≤ 16777216)
@[simp] theorem v_listRg : wpR (eListRg a sd S) Q E = wpR (a sd S) (fun x S1 => ∃ i, x = .int i ∧ rgB i = true ∧ Q (.ref S1.length) (S1 ++ [.lst (rngD 0 i.toNat)])) E := by
  unfold eListRg; simp only [wpR_bind]
  congr 1; funext x S1
  cases x with
  | int i =>
    show wpR (if rgB i = true then _ else _) Q E = _
    rw [wpR_ite]
    by_cases h : rgB i = true <;> simp [h]
  | _ => simp
/-! ### statements -/
@[simp] theorem w_seq (F G : FF) : wpS (sSeq F G sd S) P = wpS (F sd S) { P with n := fun sd' S' => wpS (G sd' S') P } := wpS_seq F G
@[simp] theorem w_next : wpS (sNext sd S) P = P.n sd S := nr rfl
@[simp] theorem w_if (F G : FF) : wpS (sIf t F G sd S) P = wpR (t sd S) (fun b S' => if b then wpS (F sd S') P else wpS (G sd S') P) (fun x S' => P.e x sd S') := wpS_if t F G
@[simp] theorem w_ret : wpS (sRet m sd S) P = wpR (m sd S) P.r (fun x S' => P.e x sd S') := by unfold sRet; rw [wpS_bind]; rfl
@[simp] theorem w_retN : wpS (sRetN sd S) P = P.r .non S := nr rfl
@[simp] theorem w_expr : wpS (sExpr m sd S) P = wpR (m sd S) (fun _ S' => P.n sd S') (fun x S' => P.e x sd S') := by unfold sExpr; rw [wpS_bind]; rfl
@[simp] theorem w_set (i : Nat) : wpS (sSet i m sd S) P = wpR (m sd S) (fun d S' => P.n (sd.set i (some d)) S') (fun x S' => P.e x sd S') := by unfold sSet; rw [wpS_bind]; rfl
def two {α : Type} (Q : α → α → Prop) : List α → Prop
  | [x, y] => Q x y
  | _ => False
def three {α : Type} (Q : α → α → α → Prop) : List α → Prop
  | [x, y, z] => Q x y z
  | _ => False
@[simp] theorem two_of {α : Type} {Q : α → α → Prop} (x y : α) : two Q [x, y] = Q x y := nr rfl
@[simp] theorem three_of {α : Type} {Q : α → α → α → Prop} (x y z : α) : three Q [x, y, z] = Q x y z := nr rfl
@[simp] theorem w_par (i j : Nat) : wpS (sPar i j aa sd S) P = wpR (aa sd S) (fun xs S' => two (fun x y => P.n ((sd.set i (some x)).set j (some y)) S') xs) (fun x S' => P.e x sd S') := by
  unfold sPar; rw [wpS_bind]
  congr 1; funext xs S'
  rcases xs with _ | ⟨x, _ | ⟨y, _ | ⟨z, r⟩⟩⟩ <;> rfl
@[simp] theorem w_par3 (i j l : Nat) : wpS (sPar3 i j l aa sd S) P = wpR (aa sd S) (fun xs S' => three (fun x y z => P.n (((sd.set i (some x)).set j (some y)).set l (some z)) S') xs) (fun x S' => P.e x sd S') := by
  unfold sPar3; rw [wpS_bind]
  congr 1; funext xs S'
  rcases xs with _ | ⟨x, _ | ⟨y, _ | ⟨z, _ | ⟨u, r⟩⟩⟩⟩ <;> rfl
@[simp] theorem w_asg {gg : GD} : wpS (sAsg m gg sd S) P = wpR (m sd S) (fun d S' => wpP (gg d sd S') P.n) (fun x S' => P.e x sd S') := by
  unfold sAsg; rw [wpS_bind]
  congr 1; funext d S'
  cases gg d sd S' <;> rfl
@[simp] theorem w_raise (c n : Nat) : wpS (sRaise c n aa sd S) P = wpR (aa sd S) (fun xs S' => xs.length = n ∧ P.e ⟨c, xs⟩ sd S') (fun x S' => P.e x sd S') := by
  unfold sRaise; rw [wpS_bind]
  congr 1; funext xs S'
  simp
end
/-! ### items, lengths, built-ins -/
section
variable {Q : D → Store → Prop} {S : Store}
theorem rdL_lst {n : Nat} {ds : List D} (h : S[n]? = some (.lst ds)) : rdL S n = some ds := by unfold rdL; rw [h]
theorem rdL_ro {n : Nat} {ds : List D} (h : S[n]? = some (.ro ds)) : rdL S n = some ds := by unfold rdL; rw [h]
theorem atI_of {ds : List D} {i : Nat} {d : D} (h : ds[i]? = some d) : atI ds (i : Int) = some d := by
  have hl := (List.getElem?_eq_some_iff.mp h).1
  unfold atI ixN
  rw [if_pos (by omega), if_pos (by omega)]
  simpa using h
@[simp] theorem atI_0 (x : D) (l : List D) : atI (x :: l) 0 = some x := atI_of (i := 0) rfl
@[simp] theorem atI_1 (x y : D) (l : List D) : atI (x :: y :: l) 1 = some y := atI_of (i := 1) rfl
@[simp] theorem atI_2 (x y z : D) (l : List D) : atI (x :: y :: z :: l) 2 = some z := atI_of (i := 2) rfl
@[simp] theorem atI_3 (x y z u : D) (l : List D) : atI (x :: y :: z :: u :: l) 3 = some u := atI_of (i := 3) rfl
theorem atI_nat {ds : List D} {i : Nat} (h : i < ds.length) : atI ds (i : Int) = ds[i]? := by
  unfold atI ixN
  simp [h]
@[simp] theorem wp_ixT {ds : List D} {i : Int} : wpP (pIx (.tup ds) (.int i) S) Q = ∃ d, atI ds i = some d ∧ Q d S := by
  unfold pIx
  dsimp only
  cases atI ds i <;> simp
@[simp] theorem wp_ixR {n : Nat} {i : Int} : wpP (pIx (.ref n) (.int i) S) Q = ∃ ds, rdL S n = some ds ∧ ∃ d, atI ds i = some d ∧ Q d S := by
  unfold pIx
  dsimp only
  cases h : rdL S n with
  | none => simp
  | some ds => dsimp only; cases h2 : atI ds i <;> simp [h2]
@[simp] theorem wp_len {x : D} : wpP (pLen [x] S) Q = ∃ n, lenD x S = some n ∧ Q (.int n) S := by
  unfold pLen
  dsimp only
  cases lenD x S <;> simp
@[simp] theorem wp_abs {i : Int} : wpP (pAbs [.int i] S) Q = Q (.int (if i < 0 then -i else i)) S := nr rfl
@[simp] theorem wp_int {i : Int} : wpP (pInt [.int i] S) Q = Q (.int i) S := nr rfl
@[simp] theorem wp_max {i j : Int} : wpP (pMax2 [.int i, .int j] S) Q = Q (.int (if j > i then j else i)) S := nr rfl
@[simp] theorem wp_min {i j : Int} : wpP (pMin2 [.int i, .int j] S) Q = Q (.int (if j < i then j else i)) S := nr rfl
@[simp] theorem tru_bl (b : Bool) : pTru (.bl b) S = some b := nr rfl
@[simp] theorem kd_int (i : Int) : kd (.int i) S = some (.ty "int") := nr rfl
@[simp] theorem kd_bl (b : Bool) : kd (.bl b) S = some (.ty "bool") := nr rfl
@[simp] theorem kd_non : kd .non S = some (.ty "NoneType") := nr rfl
@[simp] theorem kd_str (x : Str) : kd (.str x) S = some (.ty "str") := nr rfl
@[simp] theorem kd_tup (ds : List D) : kd (.tup ds) S = some (.ty "tuple") := nr rfl
@[simp] theorem kd_exn (c : Nat) (ds : List D) : kd (.exn c ds) S = some (.own c) := nr rfl
@[simp] theorem len_tup (ds : List D) : lenD (.tup ds) S = some ds.length := nr rfl
end
/-! ### bounds -/
def Bd (n : Nat) (x : Int) : Prop := x.natAbs < 2 ^ n
theorem Bd.mono {n m : Nat} {x : Int} (h : Bd n x) (hm : n ≤ m) : Bd m x := Nat.lt_of_lt_of_le h (Nat.pow_le_pow_right (by decide) hm)
theorem Bd.log {n : Nat} {x : Int} (h : Bd n x) (hn : n ≠ 0) : x.natAbs.log2 < n := by
  by_cases h0 : x.natAbs = 0
  · rw [h0]; simp; omega
  · exact (Nat.log2_lt h0).mpr h
theorem Bd.mul {n m : Nat} {x y : Int} (hx : Bd n x) (hy : Bd m y) : Bd (n + m) (x * y) := by
  unfold Bd at *
  rw [Int.natAbs_mul, Nat.pow_add]
  exact Nat.mul_lt_mul'' hx hy
theorem Bd.add {n : Nat} {x y : Int} (hx : Bd n x) (hy : Bd n y) : Bd (n + 1) (x + y) := by
  unfold Bd at *
  have := Int.natAbs_add_le x y
  rw [Nat.pow_succ]
  omega
theorem Bd.neg {n : Nat} {x : Int} (hx : Bd n x) : Bd n (-x) := by
  unfold Bd at *
  rw [Int.natAbs_neg]; exact hx
theorem Bd.sub {n : Nat} {x y : Int} (hx : Bd n x) (hy : Bd n y) : Bd (n + 1) (x - y) := by
  rw [Int.sub_eq_add_neg]; exact hx.add hy.neg
theorem mulFits_of {n m : Nat} {x y : Int} (hx : Bd n x) (hy : Bd m y) (hn : n ≠ 0 := by decide) (hm : m ≠ 0 := by decide) (h : n + m < 1000000 := by decide) : mulFits x y = true := by
  unfold mulFits
  have h1 := hx.log hn
  have h2 := hy.log hm
  exact decide_eq_true (by omega)
theorem divFits_of {n : Nat} {x y : Int} (hy : Bd n y) (h0 : 0 < y) (hn : n ≠ 0 := by decide) (h : n ≤ 9000 := by decide) : divFits x y = true := by
  unfold divFits
  have h2 := hy.log hn
  exact decide_eq_true ⟨h0, by omega⟩
/-! ### what is walked -/
section
variable {QI : ITd → Store → Prop} {E : Ex → Store → Prop} {sd : SD} {S : Store} {m : EE} {aa : EA} {P : Ps} {it : EI} {g : GD} {F : FF} {chk : Store → Prop}
@[simp] theorem w_for : wpS (sFor it g F sd S) P = wpR (it sd S) (fun t S' => wpS (forD g F t.chk t.ds sd S') P) (fun x S' => P.e x sd S') := by unfold sFor; rw [wpS_bind]
@[simp] theorem w_forNil : wpS (forD g F chk [] sd S) P = (chk S ∧ P.n sd S) := by
  unfold forD
  by_cases h : chk S
  · rw [if_pos h]; simp [h]
  · rw [if_neg h]; simp [h]
theorem w_forCons (d : D) (ds : List D) : wpS (forD g F chk (d :: ds) sd S) P = (chk S ∧ ∃ z, g d sd S = some z ∧ wpS (F z.1 z.2) { P with n := fun sd' S' => wpS (forD g F chk ds sd' S') P, c := fun sd' S' => wpS (forD g F chk ds sd' S') P, b := P.n }) := by
  show wpS (if chk S then _ else _) P = _
  by_cases h : chk S
  · rw [if_pos h]
    cases e : g d sd S with
    | none => simp
    | some z =>
      have : (chk S ∧ ∃ z_1, some z = some z_1 ∧ wpS (F z_1.1 z_1.2) { P with n := fun sd' S' => wpS (forD g F chk ds sd' S') P, c := fun sd' S' => wpS (forD g F chk ds sd' S') P, b := P.n }) =
          wpS (F z.1 z.2) { P with n := fun sd' S' => wpS (forD g F chk ds sd' S') P, c := fun sd' S' => wpS (forD g F chk ds sd' S') P, b := P.n } := by simp [h]
      rw [this]
      dsimp only
      cases F z.1 z.2 <;> rfl
  · rw [if_neg h]; simp [h]
@[simp] theorem gNm_of (i : Nat) (d : D) : gNm i d sd S = some (sd.set i (some d), S) := nr rfl
def seqQ (QI : ITd → Store → Prop) (S : Store) : D → Prop
  | .tup ds => QI ⟨ds, fun _ => True⟩ S
  | .ref n => ∃ ds, rdL S n = some ds ∧ QI ⟨ds, fun S' => rdL S' n = some ds⟩ S
  | .str z => QI ⟨signs z, fun _ => True⟩ S
  | _ => False
@[simp] theorem seqQ_tup (ds : List D) : seqQ QI S (.tup ds) = QI ⟨ds, fun _ => True⟩ S := nr rfl
@[simp] theorem seqQ_ref (n : Nat) : seqQ QI S (.ref n) = ∃ ds, rdL S n = some ds ∧ QI ⟨ds, fun S' => rdL S' n = some ds⟩ S := nr rfl
@[simp] theorem v_itSeq : wpR (itSeq m sd S) QI E = wpR (m sd S) (fun d S1 => seqQ QI S1 d) E := by
  unfold itSeq; rw [wpR_bind]
  congr 1; funext d S1
  cases d with
  | ref n =>
    dsimp only [seqQ]
    cases h : rdL S1 n <;> simp
  | _ => rfl
def one {α : Type} (Q : α → Prop) : List α → Prop
  | [x] => Q x
  | _ => False
@[simp] theorem one_of {α : Type} {Q : α → Prop} (x : α) : one Q [x] = Q x := nr rfl
def rgQ (QI : ITd → Store → Prop) (S : Store) : D → Prop
  | .int j => inR j = true ∧ QI ⟨rngD 0 j.toNat, fun _ => True⟩ S
  | _ => False
def rgQ2 (QI : ITd → Store → Prop) (S : Store) : D → D → Prop
  | .int i, .int j => (inR i && inR j) = true ∧ QI ⟨rngD i (j - i).toNat, fun _ => True⟩ S
  | _, _ => False
@[simp] theorem rgQ_int (j : Int) : rgQ QI S (.int j) = (inR j = true ∧ QI ⟨rngD 0 j.toNat, fun _ => True⟩ S) := nr rfl
@[simp] theorem rgQ2_int (i j : Int) : rgQ2 QI S (.int i) (.int j) = ((inR i && inR j) = true ∧ QI ⟨rngD i (j - i).toNat, fun _ => True⟩ S) := nr rfl
@[simp] theorem v_itRange : wpR (itRange aa sd S) QI E = wpR (aa sd S) (fun xs S1 => one (rgQ QI S1) xs) E := by
  unfold itRange; rw [wpR_bind]
  congr 1; funext xs S1
  rcases xs with _ | ⟨x, _ | ⟨y, r⟩⟩
  · rfl
  · cases x with
    | int j =>
      dsimp only [one, rgQ]
      rw [wpR_ite]
      by_cases h : inR j = true <;> simp [h]
    | _ => rfl
  · cases x <;> rfl
@[simp] theorem v_itRange2 : wpR (itRange2 aa sd S) QI E = wpR (aa sd S) (fun xs S1 => two (rgQ2 QI S1) xs) E := by
  unfold itRange2; rw [wpR_bind]
  congr 1; funext xs S1
  rcases xs with _ | ⟨x, _ | ⟨y, _ | ⟨z, r⟩⟩⟩
  · rfl
  · cases x <;> rfl
  · cases x with
    | int i =>
      cases y with
      | int j =>
        dsimp only [two, rgQ2]
        rw [wpR_ite]
        by_cases h : (inR i && inR j) = true <;> simp [h]
      | _ => rfl
    | _ => cases y <;> rfl
  · cases x <;> cases y <;> rfl
end
/-! ### targets -/
section
variable {sd : SD} {S : Store} {Q : SD → Store → Prop}
@[simp] theorem wp_gnm (i : Nat) (d : D) : wpP (gNm i d sd S) Q = Q (sd.set i (some d)) S := nr rfl
@[simp] theorem wp_gtup2 (i j : Nat) (x y : D) : wpP (gTupD 2 (gsCons (gNm i) (gsCons (gNm j) gsNil)) (.tup [x, y]) sd S) Q = Q ((sd.set i (some x)).set j (some y)) S := nr rfl
theorem wp_gtup2r {i j n : Nat} {x y : D} (h : rdL S n = some [x, y]) : wpP (gTupD 2 (gsCons (gNm i) (gsCons (gNm j) gsNil)) (.ref n) sd S) Q = Q ((sd.set i (some x)).set j (some y)) S := by
  unfold gTupD
  dsimp only
  rw [h]
  rfl
end
/-! ### try -/
@[simp] theorem w_try {T : List Cls} {F : FF} {hs : List HdD} {sd : SD} {S : Store} {P : Ps} : wpS (sTry T F hs sd S) P = wpS (F sd S) { P with e := fun x sd' S' => wpS (tryH T hs x sd' S') P } := by
  unfold sTry
  cases F sd S <;> rfl
@[simp] theorem w_tryNil {T : List Cls} {e : Ex} {sd : SD} {S : Store} {P : Ps} : wpS (tryH T [] e sd S) P = P.e e sd S := nr rfl
@[simp] theorem w_tryCons {T : List Cls} {h : HdD} {r : List HdD} {e : Ex} {sd : SD} {S : Store} {P : Ps} : wpS (tryH T (h :: r) e sd S) P = if subD T (.own e.c) (.own h.c) = true then wpS (h.F (sd.set h.i (some (.exn e.c e.ds))) S) { n := fun sd' S' => P.n (sd'.set h.i none) S', r := P.r, b := fun sd' S' => P.b (sd'.set h.i none) S', c := fun sd' S' => P.c (sd'.set h.i none) S' }
    else wpS (tryH T r e sd S) P := by
  show wpS ((if subD T (.own e.c) (.own h.c) then fun sd S => cutR h.i (h.F (sd.set h.i (some (.exn e.c e.ds))) S) else tryH T r e) sd S) P = _
  by_cases q : subD T (.own e.c) (.own h.c) = true
  · rw [if_pos q, if_pos q]
    cases h.F (sd.set h.i (some (.exn e.c e.ds))) S <;> rfl
  · rw [if_neg q, if_neg q]
/-! ### methods -/
section
variable {Q : D → Store → Prop} {S : Store}
@[simp] theorem isL_ref (n : Nat) : isL (.ref n) S = (rdL S n).isSome := nr rfl
theorem wp_append {n : Nat} {ds : List D} {y : D} (h : S[n]? = some (.lst ds)) (hf : ds.length + 1 ≤ 16777216) : wpP (pAppend (.ref n) [y] S) Q = Q .non (S.set n (.lst (ds ++ [y]))) := by
  unfold pAppend
  dsimp only
  rw [h]
  dsimp only
  rw [if_pos (show fits (ds.length + 1) = true from decide_eq_true hf)]
  rfl
end
theorem fits_of {n : Nat} (h : n ≤ 16777216) : fits n = true := decide_eq_true h
end Lay

set_option Elab.async false
set_option linter.all false
set_option maxRecDepth 100000
set_option maxHeartbeats 4000000
/-! L14: the laws' own function 'same'. -/
namespace Lay
open PySem PySem.Spec PyProof.Rows L2
open Classical
noncomputable def sameB (T : List Cls) (g : List D → M D) : List D → M D := fnD 4 2 (sSeq (sIf (bOr (asB (eBin pIs (eVar 1) (eC .non))) (eTru (eIsi T [.ty "bool"] (eVar 1)))) (sRet (eIf (asB (eBin pIs (eVar 1) (eC .non))) (eBin pIs (eVar 0) (eC .non)) (eAnd (eIsi T [.ty "bool"] (eVar 0)) (eBin pEq (eBin pIs (eVar 0) (eC (.bl true))) (eBin pIs (eVar 1) (eC (.bl true))))))) sNext)
  (sSeq (sIf (eTru (eIsi T [.ty "int"] (eVar 1))) (sRet (eAnd (eIsi T [.ty "int"] (eVar 0)) (eAnd (eNot (eIsi T [.ty "bool"] (eVar 0))) (eBin pEq (eVar 0) (eVar 1))))) sNext)
  (sSeq (sIf (eTru (eIsi T [.ty "str"] (eVar 1))) (sRet (eAnd (eIsi T [.ty "str"] (eVar 0)) (eBin pEq (eVar 0) (eVar 1)))) sNext)
  (sSeq (sIf (eTru (eIsi T [.ty "dict"] (eVar 1))) (sSeq (sIf (bOr (bNot (eTru (eIsi T [.ty "dict"] (eVar 0)))) (asB (eBin pNe (eCallB pLen (aCons (eVar 0) aNil)) (eCallB pLen (aCons (eVar 1) aNil))))) (sRet (eC (.bl false))) sNext)
  (sRet (eBin pEq (lockE 1 (eLc (itSeqK (eVar 1)) (gNm 2) (bOr (asB (eBin (pIn true) (eVar 2) (eVar 0))) (bNot (eTru (eCall g (aCons (eBin pIxA (eVar 0) (eVar 2)) (aCons (eBin pIxA (eVar 1) (eVar 2)) aNil)))))) (eVar 2) [2])) (eLst aNil)))) sNext)
  (sSeq (sIf (eTru (eIsi T [.ty "list", .ty "tuple"] (eVar 1))) (sSeq (sIf (bOr (bNot (eTru (eIsi T [.ty "list", .ty "tuple"] (eVar 0)))) (bOr (asB (eBin pNe (eIsi T [.ty "list"] (eVar 0)) (eIsi T [.ty "list"] (eVar 1)))) (asB (eBin pNe (eCallB pLen (aCons (eVar 0) aNil)) (eCallB pLen (aCons (eVar 1) aNil)))))) (sRet (eC (.bl false))) sNext)
  (sRet (eBin pEq (eLc (itRange (aCons (eCallB pLen (aCons (eVar 1) aNil)) aNil)) (gNm 3) (bNot (eTru (eCall g (aCons (eBin pIx (eVar 0) (eVar 3)) (aCons (eBin pIx (eVar 1) (eVar 3)) aNil))))) (eVar 3) [3]) (eLst aNil)))) sNext)
  (sRet (eAnd (eBin pIsNot (eVar 0) (eC .non)) (eNot (eIsi T [.ty "int", .ty "str", .ty "list", .ty "tuple", .ty "dict"] (eVar 0))))))))))
noncomputable def sameF (T : List Cls) : Nat → List D → M D
  | 0 => fun _ _ => .bad
  | n + 1 => sameB T (sameF T n)
/-- two values are alike -/
inductive Sim : Store → Nat → D → D → Prop
  | non {S k} : Sim S k .non .non
  | bl {S k} (b : Bool) : Sim S k (.bl b) (.bl b)
  | int {S k} (i : Int) : Sim S k (.int i) (.int i)
  | str {S k} (x : Str) (h : okS x = true) : Sim S k (.str x) (.str x)
  | exn {S k} (c ds c' ds') : Sim S k (.exn c ds) (.exn c' ds')
  | tup {S k ds es} (hl : ds.length = es.length) (hf : es.length ≤ 1000000) (h : ∀ (i : Nat) (a b : D), ds[i]? = some a → es[i]? = some b → Sim S k a b) : Sim S (k + 1) (.tup ds) (.tup es)
  | lst {S k n m ds es} (h1 : S[n]? = some (.lst ds)) (h2 : S[m]? = some (.lst es)) (hl : ds.length = es.length) (hf : es.length ≤ 1000000) (h : ∀ (i : Nat) (a b : D), ds[i]? = some a → es[i]? = some b → Sim S k a b) : Sim S (k + 1) (.ref n) (.ref m)
  | dct {S k n m ds es} (h1 : S[n]? = some (.dct ds)) (h2 : S[m]? = some (.dct es)) (hl : ds.length = es.length) (hn : (es.map (·.1)).Nodup)
      (hk : ∀ p ∈ es, (valD ds p.1).isSome = true) (h : ∀ (p : Key × D) (d : D), p ∈ es → valD ds p.1 = some d → Sim (S.set m (.dlk es)) k d p.2) : Sim S (k + 1) (.ref n) (.ref m)
theorem fr_set {S S' : Store} (f : Fr S S') {m : Nat} (o : SO) (hm : m < S.length) : Fr (S.set m o) (S'.set m o) := fun n hn => by
  rw [List.length_set] at hn
  by_cases e : m = n
  · subst e
    rw [List.getElem?_set_self hn, List.getElem?_set_self (Nat.lt_of_lt_of_le hn f.le)]
  · rw [List.getElem?_set_ne e, List.getElem?_set_ne e]; exact f n hn
theorem Sim.fr {S S' : Store} {k : Nat} {x y : D} (h : Sim S k x y) : Fr S S' → Sim S' k x y := by
  induction h generalizing S' with
  | non => intro _; exact .non
  | bl b => intro _; exact .bl b
  | int i => intro _; exact .int i
  | str x h => intro _; exact .str x h
  | exn c ds c' ds' => intro _; exact .exn c ds c' ds'
  | tup hl hf h ih => intro f; exact .tup hl hf fun i a b e1 e2 => ih i a b e1 e2 f
  | lst h1 h2 hl hf h ih => intro f; exact .lst (f.at h1) (f.at h2) hl hf fun i a b e1 e2 => ih i a b e1 e2 f
  | dct h1 h2 hl hn hk h ih =>
    intro f
    exact .dct (f.at h1) (f.at h2) hl hn hk fun p d hp e => ih p d hp e (fr_set f _ (List.getElem?_eq_some_iff.mp h2).1)
theorem pEqB_nil {S : Store} {n m : Nat} {xs : List D} (h1 : rdL S n = some []) (h2 : rdL S m = some []) : pEqB (.ref n) (.ref m) S = some true := by
  unfold pEqB
  have e1 : toPy S 140 (.ref n) = some (.list []) := by
    simp only [toPy]
    rw [h1]
    simp [toPys]
  have e2 : toPy S 140 (.ref m) = some (.list []) := by
    simp only [toPy]
    rw [h2]
    simp [toPys]
  rw [e1, e2]
  rfl
theorem sameF_succ (T : List Cls) (n : Nat) : sameF T (n + 1) = sameB T (sameF T n) := rfl
@[simp] theorem lenL {S : Store} {n : Nat} : lenD (.ref n) S = match S[n]? with
    | some (.lst ds) => some ds.length
    | some (.ro ds) => some ds.length
    | some (.dct kvs) => some kvs.length
    | _ => none := rfl
theorem kd_lst {S : Store} {n : Nat} {ds : List D} (h : S[n]? = some (.lst ds)) : kd (.ref n) S = some (.ty "list") := by simp [kd, h]
theorem kd_dct {S : Store} {n : Nat} {ds : List (Key × D)} (h : S[n]? = some (.dct ds)) : kd (.ref n) S = some (.ty "dict") := by simp [kd, h]
@[simp] theorem wp_is {x y : D} {S : Store} {Q : D → Store → Prop} : wpP (pIs x y S) Q = ∃ b, pIsB x y = some b ∧ Q (.bl b) S := by
  unfold pIs; cases pIsB x y <;> simp
@[simp] theorem wp_isnot {x y : D} {S : Store} {Q : D → Store → Prop} : wpP (pIsNot x y S) Q = ∃ b, pIsB x y = some b ∧ Q (.bl (!b)) S := by
  unfold pIsNot; cases pIsB x y <;> simp
@[simp] theorem is_non (x : D) : pIsB x .non = some (isNon x) := nr rfl
@[simp] theorem is_bl (a b : Bool) : pIsB (.bl a) (.bl b) = some (a == b) := nr rfl
theorem wp_eqR {S : Store} {n m : Nat} {Q : D → Store → Prop} (h1 : rdL S n = some []) (h2 : rdL S m = some []) : wpP (pEq (.ref n) (.ref m) S) Q = Q (.bl true) S := by
  unfold pEq; rw [pEqB_nil (xs := []) h1 h2]; rfl
section
variable {T : List Cls} {g : List D → M D} {S : Store} {Q : D → Store → Prop}
theorem same_non : sameB T g [.non, .non] S = .ok (.bl true) S := by
  obtain ⟨a, S', e, h1, h2⟩ := wpR_ex (r := sameB T g [.non, .non] S) (Q := fun d S' => d = .bl true ∧ S' = S) (by
    refine wp_fn rfl ?_
    simp [startD, isNon])
  rw [e, h1, h2]
theorem same_bl (b : Bool) : sameB T g [.bl b, .bl b] S = .ok (.bl true) S := by
  obtain ⟨a, S', e, h1, h2⟩ := wpR_ex (r := sameB T g [.bl b, .bl b] S) (Q := fun d S' => d = .bl true ∧ S' = S) (by
    refine wp_fn rfl ?_
    cases b <;> simp [startD, isNon, subD])
  rw [e, h1, h2]
theorem same_int (i : Int) : sameB T g [.int i, .int i] S = .ok (.bl true) S := by
  obtain ⟨a, S', e, h1, h2⟩ := wpR_ex (r := sameB T g [.int i, .int i] S) (Q := fun d S' => d = .bl true ∧ S' = S) (by
    refine wp_fn rfl ?_
    simp [startD, isNon, subD])
  rw [e, h1, h2]
theorem same_str (x : Str) (h : okS x = true) : sameB T g [.str x, .str x] S = .ok (.bl true) S := by
  obtain ⟨a, S', e, h1, h2⟩ := wpR_ex (r := sameB T g [.str x, .str x] S) (Q := fun d S' => d = .bl true ∧ S' = S) (by
    refine wp_fn rfl ?_
    simp [startD, isNon, subD, wp_eqs h h])
  rw [e, h1, h2]
theorem same_exn (c c' : Nat) (ds ds' : List D) : sameB T g [.exn c ds, .exn c' ds'] S = .ok (.bl true) S := by
  obtain ⟨a, S', e, h1, h2⟩ := wpR_ex (r := sameB T g [.exn c ds, .exn c' ds'] S) (Q := fun d S' => d = .bl true ∧ S' = S) (by
    refine wp_fn rfl ?_
    simp [startD, isNon, subD])
  rw [e, h1, h2]
/-- the loop over two sequences alike gathers nothing -/
theorem same_loop {x y : D} {ds es : List D} {sd : SD} (hl : ds.length = es.length) (hf : es.length ≤ 1000000) (hx : ∀ (S' : Store) (i : Nat) (a : D), Fr S S' → ds[i]? = some a → ∀ Q, Q a S' → wpP (pIx x (.int i) S') Q)
    (hy : ∀ (S' : Store) (i : Nat) (a : D), Fr S S' → es[i]? = some a → ∀ Q, Q a S' → wpP (pIx y (.int i) S') Q)
    (hg : ∀ (i : Nat) a b S', ds[i]? = some a → es[i]? = some b → Fr S S' → ∃ S'', g [a, b] S' = .ok (.bl true) S'' ∧ Fr S' S'') (hs : sd = [some x, some y, none, none]) :
    ∃ S', lcD S.length (gNm 3) (bNot (eTru (eCall g (aCons (eBin pIx (eVar 0) (eVar 3)) (aCons (eBin pIx (eVar 1) (eVar 3)) aNil))))) (eVar 3) [3] (fun _ => True) sd (rngD 0 es.length) (S ++ [.lst []]) = some S' ∧ Fr S S' ∧ S'[S.length]? = some (.lst []) := by
  subst hs
  have hlen : (rngD 0 es.length).length = es.length := by simp [rngD]
  obtain ⟨S', e, f⟩ := wp_lc (n := S.length) (g := gNm 3) (tt := bNot (eTru (eCall g (aCons (eBin pIx (eVar 0) (eVar 3)) (aCons (eBin pIx (eVar 1) (eVar 3)) aNil))))) (te := eVar 3) (vs := [3]) (chk := fun _ => True) (sd := [some x, some y, none, none])
    (fun _ S' => Fr (S ++ [.lst []]) S') (rngD 0 es.length) 0 (S ++ [.lst []]) Fr.refl (fun j d S1 e hi => by
      refine ⟨trivial, _, rfl, ?_⟩
      have hj : j < es.length := by rw [← hlen]; exact (List.getElem?_eq_some_iff.mp e).1
      have ed : d = .int (j : Int) := by
        simp [rngD, List.getElem?_map, hj] at e
        rw [← e]
      subst ed
      have f1 : Fr S S1 := (Fr.app [.lst []]).trans hi
      obtain ⟨S2, e2, f2⟩ := hg j ds[j] es[j] S1 (by simp [hl, hj]) (by simp [hj]) f1
      simp [wipeD]
      refine hx S1 j ds[j] f1 (by simp [hl, hj]) _ ?_
      refine hy S1 j es[j] f1 (by simp [hj]) _ ?_
      rw [e2]
      simp
      exact hi.trans f2) (fun _ _ => trivial)
  exact ⟨S', e, (Fr.app _).trans f, f.at (last_at S _)⟩
end
theorem res_of {r : Res D} {S : Store} (q : wpR r (fun d S' => d = .bl true ∧ Fr S S') fun _ _ => False) : ∃ S', r = .ok (.bl true) S' ∧ Fr S S' := by
  obtain ⟨d, S', e, rfl, f⟩ := wpR_ex q
  exact ⟨S', e, f⟩
theorem same_seq {T : List Cls} {g : List D → M D} {S : Store} {x y : D} {ds es : List D} {kx : String} (hkx : kd x S = some (.ty kx)) (hky : kd y S = some (.ty kx)) (hk : kx = "list" ∨ kx = "tuple") (hlx : lenD x S = some ds.length) (hly : lenD y S = some es.length)
    (hnx : isNon y = false) (hl : ds.length = es.length) (hf : es.length ≤ 1000000) (hx : ∀ (S' : Store) (i : Nat) (a : D), Fr S S' → ds[i]? = some a → ∀ Q : D → Store → Prop, Q a S' → wpP (pIx x (.int i) S') Q)
    (hy : ∀ (S' : Store) (i : Nat) (a : D), Fr S S' → es[i]? = some a → ∀ Q : D → Store → Prop, Q a S' → wpP (pIx y (.int i) S') Q)
    (hg : ∀ (i : Nat) a b S', ds[i]? = some a → es[i]? = some b → Fr S S' → ∃ S'', g [a, b] S' = .ok (.bl true) S'' ∧ Fr S' S'') : ∃ S', sameB T g [x, y] S = .ok (.bl true) S' ∧ Fr S S' := by
  refine res_of (wp_fn rfl ?_)
  have hin : inR (es.length : Int) = true := inR_of (by omega) (by omega)
  have go : wpR (eLc (itRange (aCons (eCallB pLen (aCons (eVar 1) aNil)) aNil)) (gNm 3) (bNot (eTru (eCall g (aCons (eBin pIx (eVar 0) (eVar 3)) (aCons (eBin pIx (eVar 1) (eVar 3)) aNil))))) (eVar 3) [3] [some x, some y, none, none] S)
      (fun x S1 => fits 0 = true ∧ wpP (pEq x (.ref S1.length) (S1 ++ [.lst []])) fun d S' => d = .bl true ∧ Fr S S') fun _ _ => False := by
    refine wp_eLc ?_
    obtain ⟨S', e, f, fl⟩ := same_loop (g := g) (S := S) (x := x) (y := y) (sd := [some x, some y, none, none]) hl hf hx hy hg rfl
    simp [hin, -lenL, hly]
    refine ⟨S', e, by decide, ?_⟩
    rw [wp_eqR (rdL_lst ((Fr.app _).at fl)) (rdL_lst (last_at _ _))]
    exact ⟨rfl, f.trans (Fr.app _)⟩
  rcases hk with rfl | rfl
  · simp [startD, hnx, subD, hkx, hky, -lenL, hlx, hly, hl]
    exact go
  · simp [startD, hnx, subD, hkx, hky, -lenL, hlx, hly, hl]
    exact go
theorem wp_lock {i n : Nat} {kvs : List (Key × D)} {m : EE} {sd : SD} {S : Store} {Q : D → Store → Prop} {E : Ex → Store → Prop} (h1 : sd[i]? = some (some (.ref n))) (h2 : S[n]? = some (.dct kvs))
    (h : wpR (m sd (S.set n (.dlk kvs))) (fun d S' => ∃ ks, S'[n]? = some (.dlk ks) ∧ Q d (S'.set n (.dct ks))) fun _ _ => False) : wpR (lockE i m sd S) Q E := by
  obtain ⟨d, S', e, ks, e2, q⟩ := wpR_ex h
  unfold lockE
  rw [h1]
  dsimp only
  rw [h2]
  dsimp only
  rw [e]
  dsimp only
  rw [e2]
  exact q
theorem wp_keys {i n : Nat} {kvs : List (Key × D)} {sd : SD} {S : Store} {QI : ITd → Store → Prop} {E : Ex → Store → Prop} (h1 : sd[i]? = some (some (.ref n))) (h2 : S[n]? = some (.dlk kvs)) (h : QI ⟨kvs.map fun kv => kD kv.1, fun _ => True⟩ S) : wpR (itSeqK (eVar i) sd S) QI E := by
  unfold itSeqK
  rw [wpR_bind, wpR_var]
  refine ⟨_, h1, ?_⟩
  have e : rdL S n = none := by unfold rdL; rw [h2]
  dsimp only
  rw [e]
  dsimp only
  rw [h2]
  exact h
theorem keyD_kD (k : Key) : keyD (kD k) = some k := by cases k <;> rfl
theorem valD_mem : ∀ {es : List (Key × D)} {p : Key × D}, (es.map (·.1)).Nodup → p ∈ es → valD es p.1 = some p.2
  | [], p, _, h => by cases h
  | q :: es, p, nd, h => by
    rw [List.map_cons, List.nodup_cons] at nd
    rcases List.mem_cons.mp h with rfl | h
    · simp [valD]
    · have ne : q.1 ≠ p.1 := fun e => nd.1 (List.mem_map.mpr ⟨p, h, e.symm⟩)
      have e2 : valD (q :: es) p.1 = valD es p.1 := by simp [valD, ne]
      rw [e2]
      exact valD_mem nd.2 h
theorem wp_inK {S : Store} {n : Nat} {ds : List (Key × D)} {k : Key} {d : D} {Q : D → Store → Prop} (hl : rdL S n = none) (hk : rdK S n = some ds) (hv : valD ds k = some d) (q : Q (.bl false) S) : wpP (pIn true (kD k) (.ref n) S) Q := by
  unfold pIn
  dsimp only
  rw [hl, hk, keyD_kD]
  dsimp only
  rw [hv]
  exact q
theorem wp_ixK {S : Store} {n : Nat} {ds : List (Key × D)} {k : Key} {d : D} {Q : D → Store → Prop} (hk : rdK S n = some ds) (hv : valD ds k = some d) (q : Q d S) : wpP (pIxA (.ref n) (kD k) S) Q := by
  unfold pIxA
  dsimp only
  rw [hk, keyD_kD]
  dsimp only
  rw [hv]
  exact q
theorem same_dct {T : List Cls} {g : List D → M D} {S : Store} {n m : Nat} {ds es : List (Key × D)} (h1 : S[n]? = some (.dct ds)) (h2 : S[m]? = some (.dct es)) (hl : ds.length = es.length) (hn : (es.map (·.1)).Nodup) (hk : ∀ p ∈ es, (valD ds p.1).isSome = true)
    (hg : ∀ (p : Key × D) (d : D) S', p ∈ es → valD ds p.1 = some d → Fr (S.set m (.dlk es)) S' → ∃ S'', g [d, p.2] S' = .ok (.bl true) S'' ∧ Fr S' S'') : ∃ S', sameB T g [.ref n, .ref m] S = .ok (.bl true) S' ∧ Fr S S' := by
  refine res_of (wp_fn rfl ?_)
  have hm : m < S.length := (List.getElem?_eq_some_iff.mp h2).1
  have hn' : n < S.length := (List.getElem?_eq_some_iff.mp h1).1
  have atm : ∀ S', Fr (S.set m (.dlk es)) S' → S'[m]? = some (.dlk es) := fun S' f => f.at (by rw [List.getElem?_set_self hm])
  have atn : ∀ S', Fr (S.set m (.dlk es)) S' → rdL S' n = none ∧ rdK S' n = some ds := fun S' f => by
    by_cases e : n = m
    · subst e
      rw [h1] at h2
      cases h2
      have := atm S' f
      exact ⟨by unfold rdL; rw [this], by unfold rdK; rw [this]⟩
    · have : S'[n]? = some (.dct ds) := f.at (by rw [List.getElem?_set_ne (Ne.symm e)]; exact h1)
      exact ⟨by unfold rdL; rw [this], by unfold rdK; rw [this]⟩
  have go : wpR (lockE 1 (eLc (itSeqK (eVar 1)) (gNm 2) (bOr (asB (eBin (pIn true) (eVar 2) (eVar 0))) (bNot (eTru (eCall g (aCons (eBin pIxA (eVar 0) (eVar 2)) (aCons (eBin pIxA (eVar 1) (eVar 2)) aNil)))))) (eVar 2) [2]) [some (.ref n), some (.ref m), none, none] S)
      (fun x S1 => fits 0 = true ∧ wpP (pEq x (.ref S1.length) (S1 ++ [.lst []])) fun d S' => d = .bl true ∧ Fr S S') fun _ _ => False := by
    refine wp_lock (n := m) rfl h2 (wp_eLc (wp_keys (n := m) rfl (by rw [List.getElem?_set_self hm]) ?_))
    obtain ⟨S', e, f⟩ := wp_lc (n := (S.set m (.dlk es)).length) (g := gNm 2) (tt := bOr (asB (eBin (pIn true) (eVar 2) (eVar 0))) (bNot (eTru (eCall g (aCons (eBin pIxA (eVar 0) (eVar 2)) (aCons (eBin pIxA (eVar 1) (eVar 2)) aNil)))))) (te := eVar 2) (vs := [2]) (chk := fun _ => True)
      (sd := [some (.ref n), some (.ref m), none, none]) (fun _ S' => Fr (S.set m (.dlk es) ++ [.lst []]) S') (es.map fun kv => kD kv.1) 0 (S.set m (.dlk es) ++ [.lst []]) Fr.refl (fun j d S1 e hi => by
        refine ⟨trivial, _, rfl, ?_⟩
        rw [List.getElem?_map] at e
        obtain ⟨p, e1, rfl⟩ := Option.map_eq_some_iff.mp e
        have hp := List.mem_of_getElem? e1
        have f1 : Fr (S.set m (.dlk es)) S1 := (Fr.app [.lst []]).trans hi
        obtain ⟨dv, ev⟩ := Option.isSome_iff_exists.mp (hk p hp)
        obtain ⟨a1, a2⟩ := atn S1 f1
        have a3 : rdK S1 m = some es := by unfold rdK; rw [atm S1 f1]
        obtain ⟨S2, e2, f2⟩ := hg p dv S1 hp ev f1
        simp [wipeD]
        refine wp_inK a1 a2 ev ?_
        simp
        refine wp_ixK a2 ev (wp_ixK a3 (valD_mem hn hp) ?_)
        rw [e2]
        simp
        exact hi.trans f2) (fun _ _ => trivial)
    refine ⟨S', e, ?_⟩
    have f1 : Fr (S.set m (.dlk es)) S' := (Fr.app _).trans f
    have flen : S.length < S'.length := by
      have := f.le
      simp at this
      omega
    have f3 : Fr S (S'.set m (.dct es)) := fun i hi => by
      by_cases e : m = i
      · subst e; rw [List.getElem?_set_self (by omega), h2]
      · rw [List.getElem?_set_ne e, f1 i (by simpa using hi), List.getElem?_set_ne e]
    refine ⟨es, atm S' f1, by decide, ?_⟩
    have fl : (S'.set m (.dct es))[(S.set m (.dlk es)).length]? = some (.lst []) := by
      rw [List.getElem?_set_ne (by rw [List.length_set]; omega)]
      exact f.at (last_at _ _)
    rw [wp_eqR (rdL_lst ((Fr.app _).at fl)) (rdL_lst (last_at _ _))]
    exact ⟨rfl, f3.trans (Fr.app _)⟩
  simp [startD, isNon, subD, kd_dct h1, kd_dct h2, h1, h2, hl]
  exact go
theorem same_ok {T : List Cls} : ∀ (k : Nat) {S : Store} {x y : D}, Sim S k x y → ∃ S', sameF T (k + 1) [x, y] S = .ok (.bl true) S' ∧ Fr S S' := by
  intro k
  induction k with
  | zero =>
    intro S x y h
    cases h with
    | non => exact ⟨_, same_non, Fr.refl⟩
    | bl b => exact ⟨_, same_bl b, Fr.refl⟩
    | int i => exact ⟨_, same_int i, Fr.refl⟩
    | str x h => exact ⟨_, same_str x h, Fr.refl⟩
    | exn c ds c' ds' => exact ⟨_, same_exn .., Fr.refl⟩
  | succ k ih =>
    intro S x y h
    cases h with
    | non => exact ⟨_, same_non, Fr.refl⟩
    | bl b => exact ⟨_, same_bl b, Fr.refl⟩
    | int i => exact ⟨_, same_int i, Fr.refl⟩
    | str x h => exact ⟨_, same_str x h, Fr.refl⟩
    | exn c ds c' ds' => exact ⟨_, same_exn .., Fr.refl⟩
    | @tup _ _ ds es hl hf h =>
      exact same_seq (kx := "tuple") rfl rfl (.inr rfl) rfl rfl rfl hl hf (fun S' i a f e Q q => by rw [wp_ixT]; exact ⟨a, atI_of e, q⟩) (fun S' i a f e Q q => by rw [wp_ixT]; exact ⟨a, atI_of e, q⟩)
        fun i a b S' e1 e2 f => ih ((h i a b e1 e2).fr f)
    | @lst _ _ n m ds es h1 h2 hl hf h =>
      exact same_seq (kx := "list") (ds := ds) (es := es) (kd_lst h1) (kd_lst h2) (.inl rfl) (by rw [lenL, h1]) (by rw [lenL, h2]) rfl hl hf (fun S' i a f e Q q => by rw [wp_ixR]; exact ⟨ds, rdL_lst (f.at h1), a, atI_of e, q⟩)
        (fun S' i a f e Q q => by rw [wp_ixR]; exact ⟨es, rdL_lst (f.at h2), a, atI_of e, q⟩) fun i a b S' e1 e2 f => ih ((h i a b e1 e2).fr f)
    | @dct _ _ n m ds es h1 h2 hl hn hk h => exact same_dct h1 h2 hl hn hk fun p d S' hp e f => ih ((h p d hp e).fr f)
end Lay


set_option Elab.async false
set_option linter.all false
set_option maxRecDepth 100000
set_option maxHeartbeats 4000000
/-! L16: what the laws' own helpers do: copies, blame, boxes and digits, displays of values. -/
namespace Lay
open PySem PySem.Spec PyProof.Rows L2
open Classical
abbrev NoE : Ex → Store → Prop := fun _ _ => False
theorem eq_of {α : Type} {r : Res α} {v : α} {S0 : Store} (h : wpR r (fun d S' => d = v ∧ S' = S0) fun _ _ => False) : r = .ok v S0 := by
  obtain ⟨a, S, e, rfl, rfl⟩ := wpR_ex h
  exact e
theorem exc_of {α : Type} {r : Res α} {x : Ex} {S0 : Store} (h : wpR r (fun _ _ => False) fun e S' => e = x ∧ S' = S0) : r = .exc x S0 := by
  cases r with
  | ok a S => exact h.elim
  | exc e S => obtain ⟨rfl, rfl⟩ := h; rfl
  | bad => exact h.elim

theorem abs_nat (i : Int) : (if i < 0 then -i else i) = (i.natAbs : Int) := by split <;> omega

theorem bd1 : Bd 1 1 := by unfold Bd; decide
theorem bdm1 : Bd 1 (-1) := by unfold Bd; decide

def isI : D → Bool
  | .int _ => true
  | _ => false
theorem kd_ref {n : Nat} {S : Store} {k : Kd} (h : kd (.ref n) S = some k) : k = .ty "list" ∨ k = .ty "dict" := by
  simp only [kd] at h
  split at h <;> first
    | (cases h; exact .inl rfl)
    | (cases h; exact .inr rfl)
    | cases h

/-- data without lists and dicts -/
def plain : Nat → D → Prop
  | _, .non => True
  | _, .bl _ => True
  | _, .int i => Bd 1000 i
  | _, .str x => okS x = true
  | _, .exn _ _ => True
  | 0, _ => False
  | k + 1, .tup ds => ds.length ≤ 400 ∧ ∀ d ∈ ds, plain k d
  | _ + 1, .ref _ => False
/-- what may stand: bounded ints; lists and dicts stand in the store -/
def good (S : Store) : Nat → D → Prop
  | _, .non => True
  | _, .bl _ => True
  | _, .int i => Bd 1000 i
  | _, .str x => okS x = true
  | _, .exn _ _ => True
  | 0, _ => False
  | k + 1, .tup ds => ds.length ≤ 400 ∧ ∀ d ∈ ds, good S k d
  | k + 1, .ref n => (∃ ds, S[n]? = some (.lst ds) ∧ ds.length ≤ 400 ∧ ∀ d ∈ ds, good S k d) ∨ (∃ kvs, S[n]? = some (.dct kvs) ∧ kvs.length ≤ 400 ∧ (kvs.map (·.1)).Nodup ∧ ∀ p ∈ kvs, plain k p.2)
theorem good_kd {S : Store} {k : Nat} {d : D} (h : good S k d) : (kd d S).isSome = true := by
  cases d with
  | ref n =>
    cases k with
    | zero => simp [good] at h
    | succ k =>
      simp only [good] at h
      rcases h with ⟨ds, e, _⟩ | ⟨kvs, e, _⟩ <;> simp [kd, e]
  | _ => rfl
theorem good_fr {S S' : Store} (f : Fr S S') : ∀ {k : Nat} {d : D}, good S k d → good S' k d := by
  intro k
  induction k with
  | zero => intro d h; cases d <;> simpa [good] using h
  | succ k ih =>
    intro d h
    cases d with
    | tup ds =>
      simp only [good] at h ⊢
      exact ⟨h.1, fun d hd => ih (h.2 d hd)⟩
    | ref n =>
      simp only [good] at h ⊢
      rcases h with ⟨ds, e, hl, h⟩ | ⟨kvs, e, hl, hn, h⟩
      · exact .inl ⟨ds, f.at e, hl, fun d hd => ih (h d hd)⟩
      · exact .inr ⟨kvs, f.at e, hl, hn, h⟩
    | _ => simpa [good] using h

theorem permA2 {α : Type} (x y : α) : permA [1, 0] [x, y] = [y, x] := rfl
theorem permA1 {α : Type} (x : α) : permA [0] [x] = [x] := rfl

theorem plain_sim {S : Store} : ∀ {k : Nat} {d : D}, plain k d → Sim S k d d := by
  intro k
  induction k with
  | zero =>
    intro d h
    cases d <;> first
      | exact .non
      | exact .bl _
      | exact .int _
      | exact .exn ..
      | exact .str _ (by simpa [plain] using h)
      | simp [plain] at h
  | succ k ih =>
    intro d h
    cases d with
    | tup ds =>
      simp only [plain] at h
      refine .tup rfl (by omega) fun i a b e1 e2 => ?_
      rw [e1] at e2
      cases e2
      exact ih (h.2 a (List.mem_of_getElem? e1))
    | non => exact .non
    | bl b => exact .bl _
    | int i => exact .int _
    | exn c ds => exact .exn ..
    | str x => exact .str _ (by simpa [plain] using h)
    | ref n => simp [plain] at h
theorem valD_some {es : List (Key × D)} {k : Key} {d : D} (h : valD es k = some d) : (k, d) ∈ es := by
  unfold valD at h
  obtain ⟨p, e, rfl⟩ := Option.map_eq_some_iff.mp h
  have := List.find?_some e
  have e2 : p.1 = k := by simpa using this
  rw [← e2]
  exact List.mem_of_find?_eq_some e
theorem good_sim {S : Store} : ∀ {k : Nat} {d : D}, good S k d → Sim S k d d := by
  intro k
  induction k with
  | zero =>
    intro d h
    cases d <;> first
      | exact .non
      | exact .bl _
      | exact .int _
      | exact .exn ..
      | exact .str _ (by simpa [good] using h)
      | simp [good] at h
  | succ k ih =>
    intro d h
    cases d with
    | tup ds =>
      simp only [good] at h
      refine .tup rfl (by omega) fun i a b e1 e2 => ?_
      rw [e1] at e2
      cases e2
      exact ih (h.2 a (List.mem_of_getElem? e1))
    | non => exact .non
    | bl b => exact .bl _
    | int i => exact .int _
    | exn c ds => exact .exn ..
    | str x => exact .str _ (by simpa [good] using h)
    | ref n =>
      simp only [good] at h
      rcases h with ⟨ds, e, hl, h⟩ | ⟨es, e, hl, hn, h⟩
      · refine .lst e e rfl (by omega) fun i a b e1 e2 => ?_
        rw [e1] at e2
        cases e2
        exact ih (h a (List.mem_of_getElem? e1))
      · refine .dct e e rfl hn (fun p hp => by rw [valD_mem hn hp]; rfl) fun p d hp e2 => ?_
        rw [valD_mem hn hp] at e2
        cases e2
        exact plain_sim (h p hp)
theorem Sim.mono {S : Store} {k : Nat} {x y : D} (h : Sim S k x y) : ∀ {j : Nat}, k ≤ j → Sim S j x y := by
  induction h with
  | non => intro j _; exact .non
  | bl b => intro j _; exact .bl b
  | int i => intro j _; exact .int i
  | str x h => intro j _; exact .str x h
  | exn c ds c' ds' => intro j _; exact .exn ..
  | tup hl hf h ih => intro j hj; obtain ⟨m, rfl⟩ : ∃ m, j = m + 1 := ⟨j - 1, by omega⟩; exact .tup hl hf fun i a b e1 e2 => ih i a b e1 e2 (by omega)
  | lst h1 h2 hl hf h ih => intro j hj; obtain ⟨m, rfl⟩ : ∃ m, j = m + 1 := ⟨j - 1, by omega⟩; exact .lst h1 h2 hl hf fun i a b e1 e2 => ih i a b e1 e2 (by omega)
  | dct h1 h2 hl hn hk h ih => intro j hj; obtain ⟨m, rfl⟩ : ∃ m, j = m + 1 := ⟨j - 1, by omega⟩; exact .dct h1 h2 hl hn hk fun p d hp e => ih p d hp e (by omega)

/-- a list got one more item: all is still alike itself -/
theorem good_app {S : Store} {n : Nat} {xs : List D} (hS : S[n]? = some (.lst xs)) (hx : xs.length ≤ 400) : ∀ {k : Nat} {d : D}, good S k d → Sim (S.set n (.lst (xs ++ [.int 7]))) k d d := by
  have hn : n < S.length := (List.getElem?_eq_some_iff.mp hS).1
  intro k
  induction k with
  | zero =>
    intro d h
    cases d <;> first
      | exact .non
      | exact .bl _
      | exact .int _
      | exact .exn ..
      | exact .str _ (by simpa [good] using h)
      | simp [good] at h
  | succ k ih =>
    intro d h
    cases d with
    | tup ds =>
      simp only [good] at h
      refine .tup rfl (by omega) fun i a b e1 e2 => ?_
      rw [e1] at e2
      cases e2
      exact ih (h.2 a (List.mem_of_getElem? e1))
    | non => exact .non
    | bl b => exact .bl _
    | int i => exact .int _
    | exn c ds => exact .exn ..
    | str x => exact .str _ (by simpa [good] using h)
    | ref m =>
      simp only [good] at h
      rcases h with ⟨ds, e, hl, h⟩ | ⟨es, e, hl, hd, h⟩
      · by_cases hm : n = m
        · subst hm
          rw [hS] at e
          cases e
          refine .lst (List.getElem?_set_self hn) (List.getElem?_set_self hn) rfl (by simp; omega) fun i a b e1 e2 => ?_
          rw [e1] at e2
          cases e2
          rcases List.mem_append.mp (List.mem_of_getElem? e1) with q | q
          · exact ih (h a q)
          · have : a = .int 7 := by simpa using q
            subst this
            exact .int _
        · have e' : (S.set n (.lst (xs ++ [.int 7])))[m]? = some (.lst ds) := by rw [List.getElem?_set_ne hm]; exact e
          refine .lst e' e' rfl (by omega) fun i a b e1 e2 => ?_
          rw [e1] at e2
          cases e2
          exact ih (h a (List.mem_of_getElem? e1))
      · have hm : n ≠ m := fun q => by subst q; rw [hS] at e; cases e
        have e' : (S.set n (.lst (xs ++ [.int 7])))[m]? = some (.dct es) := by rw [List.getElem?_set_ne hm]; exact e
        refine .dct e' e' rfl hd (fun p hp => by rw [valD_mem hd hp]; rfl) fun p d hp e2 => ?_
        rw [valD_mem hd hp] at e2
        cases e2
        exact plain_sim (h p hp)
/-! ### the laws' helpers -/
noncomputable def copyF (T : List Cls) : List D → M D := fnD 1 1 (sRet (eIf (eTru (eIsi T [.ty "list"] (eVar 0))) (eCallB pList (aCons (eVar 0) aNil)) (eVar 0)))
noncomputable def blamedF (T : List Cls) (g : List D → M D) : List D → M D := fnD 2 2 (sSeq (sIf (bNot (eTru (eCall g (aCons (eVar 0) (aCons (eVar 1) aNil))))) (sRet (eC (.bl false))) sNext)
  (sSeq (sIf (eTru (eIsi T [.ty "list"] (eVar 1))) (sExpr (eMthL pAppend (eVar 1) (aCons (eC (.int 7)) aNil))) sNext)
  (sRet (eCall g (aCons (eVar 0) (aCons (eVar 1) aNil))))))
noncomputable def takeF (c1 c2 : Int) : List D → M D := fnD 4 2 (sSeq (sIf (bAnd (eTru (eBin pIx (eVar 0) (eC (.int 1)))) (asB (eBin pGt (eBin pIx (eVar 0) (eC (.int 0))) (eC (.int 0))))) (sSeq (sSet 3 (eBin pMod (eCallB pInt (aCons (eBin pIx (eVar 0) (eC (.int 0))) aNil)) (eVar 1)))
  (sSeq (sAsg (eBin pDiv (eBin pIx (eVar 0) (eC (.int 0))) (eVar 1)) (gSubD (eVar 0) (eC (.int 0))))
  (sRet (eVar 3)))) sNext)
  (sSeq (sAsg (eBin pAdd (eBin pIx (eVar 0) (eC (.int 3))) (eC (.int 1))) (gSubD (eVar 0) (eC (.int 3))))
  (sSeq (sSet 2 (eBin pMod (eCallB pInt (aCons (eBin pPow (eBin pAdd (eBin pAdd (eBin pIx (eVar 0) (eC (.int 2))) (eBin pMul (eC (.int c1)) (eBin pIx (eVar 0) (eC (.int 3))))) (eC (.int c2))) (eC (.int 5))) aNil)) (eC (.int 2147483647))))
  (sRet (eBin pMod (eCallB pInt (aCons (eBin pDiv (eBin pMod (eCallB pInt (aCons (eBin pPow (eBin pAdd (eBin pMul (eVar 2) (eC (.int 48271))) (eBin pMul (eC (.int 104743)) (eBin pIx (eVar 0) (eC (.int 3))))) (eC (.int 3))) aNil)) (eC (.int 2147483587))) (eC (.int 64))) aNil)) (eVar 1))))))
noncomputable def boxF : List D → M D := fnD 1 1 (sRet (eLst (aCons (eCallB pAbs (aCons (eVar 0) aNil)) (aCons (eBin pGe (eCallB pAbs (aCons (eVar 0) aNil)) (eBin pPow (eC (.int 10)) (eC (.int 18)))) (aCons (eBin pMod (eCallB pInt (aCons (eCallB pAbs (aCons (eVar 0) aNil)) aNil)) (eC (.int 2147483629))) (aCons (eC (.int 0)) aNil))))))
noncomputable def mixedF (tk : List D → M D) : List D → M D := fnD 4 2 (sSeq (sPar 2 3 (aCons (eCallB pList (aCons (eVar 1) aNil)) (aCons (eLst aNil) aNil)))
  (sSeq (sWhile (asB (eBin pNe (eVar 2) (eLst aNil))) (sExpr (eMthL pAppend (eVar 3) (aCons (eMthL pPopAt (eVar 2) (aCons (eCall tk (aCons (eVar 0) (aCons (eCallB pLen (aCons (eVar 2) aNil)) aNil))) aNil)) aNil))))
  (sRet (eVar 3))))
theorem same12 {T : List Cls} {S : Store} {k : Nat} {x y : D} (h : Sim S k x y) (hk : k ≤ 11) : ∃ S', sameF T 12 [x, y] S = .ok (.bl true) S' ∧ Fr S S' := same_ok 11 (Sim.mono h hk)
/-! ### copies, blame -/
theorem copy_ok {T : List Cls} {v : D} {S : Store} {k : Nat} (h : good S k v) : (copyF T [v] S = .ok v S ∧ ∀ n ds, v = .ref n → S[n]? ≠ some (.lst ds)) ∨ ∃ n ds, v = .ref n ∧ S[n]? = some (.lst ds) ∧ copyF T [v] S = .ok (.ref S.length) (S ++ [.lst ds]) := by
  cases v with
  | ref n =>
    cases k with
    | zero => simp [good] at h
    | succ k =>
      simp only [good] at h
      rcases h with ⟨ds, e, _⟩ | ⟨es, e, _⟩
      · refine .inr ⟨n, ds, rfl, e, ?_⟩
        obtain ⟨a, S', q, h1, h2⟩ := wpR_ex (r := copyF T [.ref n] S) (Q := fun d S' => d = .ref S.length ∧ S' = S ++ [.lst ds]) (by
          refine wp_fn rfl ?_
          simp [copyF, startD, kd_lst e, subD, pList, rdL_lst e])
        rw [q, h1, h2]
      · refine .inl ⟨eq_of (wp_fn rfl ?_), fun m ds q => ?_⟩
        · simp [copyF, startD, kd_dct e, subD]
        · cases q; rw [e]; simp
  | _ =>
    refine .inl ⟨eq_of (wp_fn rfl ?_), fun m ds q => by cases q⟩
    simp [copyF, startD, subD]
theorem blamed_ok {T : List Cls} {v : D} {S : Store} {k : Nat} (h : good S k v) (hk : k ≤ 11) : ∃ S', blamedF T (sameF T 12) [v, v] S = .ok (.bl true) S' ∧ S.length ≤ S'.length ∧ ∀ i, i < S.length → (∀ ds, v = .ref i → S[i]? ≠ some (.lst ds)) → S'[i]? = S[i]? := by
  obtain ⟨S1, e1, f1⟩ := same12 (T := T) (good_sim h) hk
  suffices q : wpR (blamedF T (sameF T 12) [v, v] S) (fun d S' => d = .bl true ∧ S.length ≤ S'.length ∧ ∀ i, i < S.length → (∀ ds, v = .ref i → S[i]? ≠ some (.lst ds)) → S'[i]? = S[i]?) fun _ _ => False by
    obtain ⟨d, S', e, rfl, h1, h2⟩ := wpR_ex q
    exact ⟨S', e, h1, h2⟩
  refine wp_fn rfl ?_
  have old : (∀ n ds, v = .ref n → S[n]? ≠ some (.lst ds)) → ∃ S2, sameF T 12 [v, v] S1 = .ok (.bl true) S2 ∧ Fr S S2 := fun _ => by
    obtain ⟨S2, e2, f2⟩ := same12 ((good_sim h).fr f1) hk
    exact ⟨S2, e2, f1.trans f2⟩
  have plainC : (∀ n ds, v = .ref n → S[n]? ≠ some (.lst ds)) → kd v S1 ≠ some (.ty "list") ∧ (kd v S1).isSome = true := fun hn => by
    have g1 := good_kd (good_fr f1 h)
    refine ⟨fun e => ?_, g1⟩
    cases v with
    | ref n =>
      cases k with
      | zero => simp [good] at h
      | succ k =>
        simp only [good] at h
        rcases h with ⟨ds, e2, _⟩ | ⟨es, e2, _⟩
        · exact hn n ds rfl e2
        · rw [kd_dct (f1.at e2)] at e; simp at e
    | _ => simp at e
  by_cases hn : ∀ n ds, v = .ref n → S[n]? ≠ some (.lst ds)
  · obtain ⟨S2, e2, f2⟩ := old hn
    obtain ⟨p1, p2⟩ := plainC hn
    obtain ⟨kk, hkk⟩ := Option.isSome_iff_exists.mp p2
    have q : ([Kd.ty "list"].any (subD T kk)) = false := by
      cases v with
      | ref n => rcases kd_ref hkk with rfl | rfl
                 · exact absurd hkk p1
                 · rfl
      | _ => cases hkk <;> rfl
    simp [blamedF, startD, e1, hkk, e2]
    simp at q
    simp [q]
    exact ⟨f2.le, fun i hi _ => f2 i hi⟩
  · simp only [Classical.not_forall, Classical.not_not] at hn
    obtain ⟨n, ds, rfl, e⟩ := hn
    cases k with
    | zero => simp [good] at h
    | succ k =>
      have hl : ds.length ≤ 400 := by
        simp only [good] at h
        rcases h with ⟨ds', e', hl, _⟩ | ⟨es, e', _⟩
        · rw [e] at e'; cases e'; exact hl
        · rw [e] at e'; cases e'
      have eS1 := f1.at e
      obtain ⟨S2, e2, f2⟩ := same12 (T := T) (good_app eS1 hl (good_fr f1 h)) hk
      have hnl : n < S.length := (List.getElem?_eq_some_iff.mp e).1
      simp [blamedF, startD, e1, kd_lst eS1, subD, rdL_lst eS1, wp_append eS1 (show ds.length + 1 ≤ 16777216 by omega), e2]
      have l1 := f1.le
      have l2 := f2.le
      rw [List.length_set] at l2
      refine ⟨by omega, fun i hi hne => ?_⟩
      have ni : n ≠ i := fun q => by subst q; exact hne ds rfl e
      rw [f2 i (by rw [List.length_set]; omega), List.getElem?_set_ne ni, f1 i hi]
/-! ### the box -/
theorem gsub_ok {i n j : Nat} {ds : List D} {d : D} {sd : SD} {S : Store} (h1 : sd[i]? = some (some (.ref n))) (h2 : S[n]? = some (.lst ds)) (h3 : j < ds.length) (hf : ds.length ≤ 16777216) : gSubD (eVar i) (eC (.int j)) d sd S = some (sd, S.set n (.lst (ds.set j d))) := by
  have e1 : eVar i sd S = .ok (.ref n) S := by unfold eVar; rw [h1]
  have e2 : ixN ds.length (j : Int) = some j := by unfold ixN; rw [if_pos (by omega), if_pos (by omega)]; simp
  unfold gSubD
  rw [e1]
  dsimp only [eC]
  unfold pSet
  dsimp only
  rw [h2]
  dsimp only
  simp [e2, fits_of hf]
def IsBox (S : Store) (b c : Nat) : Prop := ∃ (g : Int) (f : Bool) (m n : Int), S[b]? = some (.lst [.int g, .bl f, .int m, .int n]) ∧ 0 ≤ m ∧ m < 2147483629 ∧ 0 ≤ n ∧ n ≤ c
theorem IsBox.mono {S : Store} {b c d : Nat} (h : IsBox S b c) (hc : c ≤ d) : IsBox S b d := by
  obtain ⟨g, f, m, n, e, h1, h2, h3, h4⟩ := h
  exact ⟨g, f, m, n, e, h1, h2, h3, by omega⟩
theorem take_ok {c1 c2 : Int} (hc1 : 0 ≤ c1 ∧ c1 < 100000000) (hc2 : 0 ≤ c2 ∧ c2 < 1000000000) {S : Store} {b c : Nat} {many : Int} (h : IsBox S b c) (h0 : 0 < many) (h1 : many ≤ 100000000) (hc : c ≤ 1000000) : ∃ (i : Nat) (S' : Store), takeF c1 c2 [.ref b, .int many] S = .ok (.int i) S' ∧ (i : Int) < many ∧ IsBox S' b (c + 1) ∧ FrB b S S' ∧ S'.length = S.length := by
  obtain ⟨g, f, m, n, e, m1, m2, n1, n2⟩ := h
  suffices q : wpR (takeF c1 c2 [.ref b, .int many] S) (fun d S' => ∃ i : Nat, d = .int i ∧ (i : Int) < many ∧ IsBox S' b (c + 1) ∧ FrB b S S' ∧ S'.length = S.length) fun _ _ => False by
    obtain ⟨d, S', e, i, rfl, h⟩ := wpR_ex q
    exact ⟨i, S', e, h⟩
  have hb : b < S.length := (List.getElem?_eq_some_iff.mp e).1
  have r := rdL_lst e
  refine wp_fn rfl ?_
  have g3 : ∀ d sd, sd[0]? = some (some (D.ref b)) → gSubD (eVar 0) (eC (.int 3)) d sd S = some (sd, S.set b (.lst [.int g, .bl f, .int m, d])) := fun d sd h => gsub_ok (j := 3) h e (by simp) (by simp)
  have g0 : ∀ d sd, sd[0]? = some (some (D.ref b)) → gSubD (eVar 0) (eC (.int 0)) d sd S = some (sd, S.set b (.lst [d, .bl f, .int m, .int n])) := fun d sd h => gsub_ok (j := 0) h e (by simp) (by simp)
  have r3 : ∀ d, rdL (S.set b (.lst [.int g, .bl f, .int m, d])) b = some [.int g, .bl f, .int m, d] := fun d => rdL_lst (List.getElem?_set_self hb)
  have bm : Bd 40 many := by unfold Bd; omega
  have df : ∀ x, divFits x many = true := fun x => divFits_of bm h0
  -- the digits of the mixed number
  have mf1 : mulFits c1 (n + 1) = true := mulFits_of (n := 40) (m := 40) (by unfold Bd; omega) (by unfold Bd; omega)
  have q1 : 0 ≤ c1 * (n + 1) := Int.mul_nonneg hc1.1 (by omega)
  have q2 : c1 * (n + 1) ≤ 100000000 * 1000001 := Int.mul_le_mul (by omega) (by omega) (by omega) (by omega)
  have pf1 : powFits (m + c1 * (n + 1) + c2) 5 = true := decide_eq_true ⟨by decide, by decide, by omega⟩
  have tail : ∀ x : Int, 0 ≤ x → x < 2147483647 → mulFits x 48271 = true ∧ mulFits 104743 (n + 1) = true ∧ powFits (x * 48271 + 104743 * (n + 1)) 3 = true := fun x x0 x1 =>
    ⟨mulFits_of (n := 40) (m := 40) (by unfold Bd; omega) (by unfold Bd; omega), mulFits_of (n := 40) (m := 40) (by unfold Bd; omega) (by unfold Bd; omega), decide_eq_true ⟨by decide, by decide, by omega⟩⟩
  obtain ⟨t1, t2, t3⟩ := tail ((m + c1 * (n + 1) + c2) ^ 5 % 2147483647) (Int.emod_nonneg _ (by decide)) (Int.emod_lt_of_pos _ (by decide))
  have d64 : ∀ x, divFits x 64 = true := fun x => divFits_of (n := 40) (by unfold Bd; decide) (by decide)
  have ii : ∀ x : Int, ∃ i : Nat, x % many = i ∧ (i : Int) < many := fun x => ⟨(x % many).toNat, (Int.toNat_of_nonneg (Int.emod_nonneg _ (by omega))).symm, by rw [Int.toNat_of_nonneg (Int.emod_nonneg _ (by omega))]; exact Int.emod_lt_of_pos _ h0⟩
  have bx3 : IsBox (S.set b (.lst [.int g, .bl f, .int m, .int (n + 1)])) b (c + 1) := ⟨g, f, m, n + 1, List.getElem?_set_self hb, m1, m2, by omega, by omega⟩
  have bx0 : ∀ q, IsBox (S.set b (.lst [.int q, .bl f, .int m, .int n])) b (c + 1) := fun q => ⟨q, f, m, n, List.getElem?_set_self hb, m1, m2, n1, by omega⟩
  have fb : ∀ o, FrB b S (S.set b o) := fun o => FrB.set o
  simp [startD, r, g3, g0, r3, mf1, pf1, h0, df, t1, t2, t3, d64, fb]
  obtain ⟨i1, e1, l1⟩ := ii ((((m + c1 * (n + 1) + c2) ^ 5 % 2147483647 * 48271 + 104743 * (n + 1)) ^ 3 % 2147483587) / 64)
  obtain ⟨i2, e2, l2⟩ := ii g
  cases f with
  | false => exact .inl ⟨rfl, i1, e1, l1, bx3⟩
  | true =>
    by_cases hg : 0 < g
    · exact .inr ⟨rfl, .inr ⟨hg, i2, e2, l2, bx0 _⟩⟩
    · exact .inr ⟨rfl, .inl ⟨by omega, i1, e1, l1, bx3⟩⟩
theorem IsBox.app {S : Store} {b c : Nat} (h : IsBox S b c) (T : Store) : IsBox (S ++ T) b c := by
  obtain ⟨g, f, m, n, e, r⟩ := h
  exact ⟨g, f, m, n, (Fr.app T).at e, r⟩
theorem IsBox.lt {S : Store} {b c : Nat} (h : IsBox S b c) : b < S.length := by
  obtain ⟨g, f, m, n, e, r⟩ := h
  exact (List.getElem?_eq_some_iff.mp e).1
theorem IsBox.fr {S S' : Store} {b c : Nat} (h : IsBox S b c) (f : Fr S S') : IsBox S' b c := by
  obtain ⟨g, f', m, n, e, r⟩ := h
  exact ⟨g, f', m, n, f.at e, r⟩
theorem box_ok {x : Int} {S : Store} : ∃ S', boxF [.int x] S = .ok (.ref S.length) S' ∧ IsBox S' S.length 0 ∧ Fr S S' := by
  have h : boxF [.int x] S = .ok (.ref S.length) (S ++ [.lst [.int (x.natAbs : Int), .bl (decide ((10 : Int) ^ 18 ≤ (x.natAbs : Int))), .int ((x.natAbs : Int) % 2147483629), .int 0]]) := by
    have p : powFits 10 18 = true := by decide
    have f4 : fits 4 = true := by decide
    obtain ⟨a, S', q, h1, h2⟩ := wpR_ex (r := boxF [.int x] S) (Q := fun d S' => d = .ref S.length ∧ S' = S ++ [.lst [.int (x.natAbs : Int), .bl (decide ((10 : Int) ^ 18 ≤ (x.natAbs : Int))), .int ((x.natAbs : Int) % 2147483629), .int 0]]) (by
      refine wp_fn rfl ?_
      simp [startD, abs_nat, p, f4])
    rw [q, h1, h2]
  refine ⟨_, h, ⟨_, _, _, _, last_at _ _, Int.emod_nonneg _ (by decide), Int.emod_lt_of_pos _ (by decide), by decide, by decide⟩, Fr.app _⟩
/-- a digit taken -/
theorem tkF {c1 c2 : Int} (hc1 : 0 ≤ c1 ∧ c1 < 100000000) (hc2 : 0 ≤ c2 ∧ c2 < 1000000000) {S : Store} {b c : Nat} (many : Int) (h : IsBox S b c) (h0 : 0 < many := by decide) (h1 : many ≤ 100000000 := by decide) (hc : c ≤ 1000000 := by omega) : ∃ (i : Nat) (S' : Store), takeF c1 c2 [.ref b, .int many] S = .ok (.int i) S' ∧ (i : Int) < many ∧ IsBox S' b (c + 1) ∧ FrB b S S' := by
  obtain ⟨i, S', e, h2, h3, h4, _⟩ := take_ok hc1 hc2 h h0 h1 hc
  exact ⟨i, S', e, h2, h3, h4⟩
/-- a sign -/
def sgn (i : Nat) : Int := if i = 0 then 1 else -1
theorem sgn_bd (i : Nat) : Bd 1 (sgn i) := by unfold sgn; split <;> (unfold Bd; decide)
theorem sgn_at {n i : Nat} {S : Store} {Q : D → Store → Prop} (h : rdL S n = some [.int 1, .int (-1)]) (hi : (i : Int) < 2) : wpP (pIx (.ref n) (.int i) S) Q = Q (.int (sgn i)) S := by
  rcases (by omega : i = 0 ∨ i = 1) with rfl | rfl <;> simp [h, sgn]
end Lay

set_option Elab.async false
set_option linter.all false
set_option maxRecDepth 100000
set_option maxHeartbeats 4000000
/-! L17: equality of data; values drawn in a new order; displays. -/
namespace Lay
open PySem PySem.Spec PyProof.Rows L2
open Classical
/-! ### equality -/
/-- data that == may see, j deep -/
def PD (j : Nat) (d : D) : Prop := ∃ p, (∀ S k, 2 * j ≤ k → toPy S k d = some p) ∧ p.canLay0 = true ∧ p.depth ≤ j
theorem PD.int {j : Nat} (i : Int) : PD j (.int i) := ⟨.int i, fun S k _ => by cases k <;> simp only [toPy], by simp [PyData.canLay0], by simp [PyData.depth]⟩
theorem PD.bl {j : Nat} (b : Bool) : PD j (.bl b) := ⟨.bool b, fun S k _ => by cases k <;> simp only [toPy], by simp [PyData.canLay0], by simp [PyData.depth]⟩
theorem PD.non {j : Nat} : PD j .non := ⟨.none, fun S k _ => by cases k <;> simp only [toPy], by simp [PyData.canLay0], by simp [PyData.depth]⟩
theorem PD.str {j : Nat} {x : Str} (h : okS x = true) : PD j (.str x) := by
  refine ⟨.str x, fun S k _ => by cases k <;> simp only [toPy], ?_, by simp [PyData.depth]⟩
  unfold okS SeqAt.shaped at h
  exact (Bool.and_eq_true_iff.mp h).1
/-- a row of data -/
theorem toPys_of {S : Store} {j k : Nat} (hk : 2 * j + 1 ≤ k) : ∀ {ds : List D}, (∀ d ∈ ds, ∃ p, toPy S (k - 1) d = some p ∧ p.canLay0 = true ∧ p.depth ≤ j) → ∃ ps, toPys S k ds = some ps ∧ PyData.canLayAll0 ps = true ∧ PyData.depthAll ps ≤ j ∧ ps.length = ds.length
  | [], _ => ⟨[], by cases k <;> simp only [toPys], by simp [PyData.canLayAll0], by simp [PyData.depthAll], rfl⟩
  | d :: ds, h => by
    obtain ⟨p, e, h1, h2⟩ := h d (by simp)
    obtain ⟨ps, e', h1', h2', h3'⟩ := toPys_of hk (ds := ds) fun x hx => h x (by simp [hx])
    obtain ⟨m, rfl⟩ : ∃ m, k = m + 1 := ⟨k - 1, by omega⟩
    refine ⟨p :: ps, ?_, by simp [PyData.canLayAll0, h1, h1'], ?_, by simp [h3']⟩
    · simp only [toPys]
      rw [show toPy S m d = some p from e, e']
    · simp only [PyData.depthAll]
      omega
theorem PD.tup {j : Nat} {ds : List D} (h : ∀ d ∈ ds, PD j d) : PD (j + 1) (.tup ds) := by
  have key : ∀ S k, 2 * j + 1 ≤ k → ∃ ps, toPys S k ds = some ps ∧ PyData.canLayAll0 ps = true ∧ PyData.depthAll ps ≤ j ∧ ps.length = ds.length := fun S k hk =>
    toPys_of hk fun d hd => by
      obtain ⟨p, e, h1, h2⟩ := h d hd
      exact ⟨p, e S (k - 1) (by omega), h1, h2⟩
  obtain ⟨ps, e, h1, h2, _⟩ := key [] (2 * j + 1) (Nat.le_refl _)
  have same : ∀ S k, 2 * j + 1 ≤ k → toPys S k ds = some ps := fun S k hk => by
    have gen : ∀ (xs : List D), (∀ d ∈ xs, PD j d) → toPys S k xs = toPys [] (2 * j + 1) xs := fun xs hx => by
      induction xs with
      | nil => cases k <;> simp only [toPys]
      | cons x xs ih =>
        obtain ⟨p, e, _⟩ := hx x (by simp)
        obtain ⟨m, rfl⟩ : ∃ m, k = m + 1 := ⟨k - 1, by omega⟩
        simp only [toPys]
        rw [e S m (by omega), e [] (2 * j) (Nat.le_refl _), ih fun d hd => hx d (by simp [hd])]
    rw [gen ds h, e]
  refine ⟨.tuple ps, fun S k hk => ?_, by simpa [PyData.canLay0] using h1, by simp only [PyData.depth]; omega⟩
  obtain ⟨m, rfl⟩ : ∃ m, k = m + 1 := ⟨k - 1, by omega⟩
  simp only [toPy]
  rw [same S m (by omega)]
  rfl
theorem PD.mono {j l : Nat} {d : D} (h : PD j d) (hl : j ≤ l) : PD l d := by
  obtain ⟨p, e, h1, h2⟩ := h
  exact ⟨p, fun S k hk => e S k (by omega), h1, by omega⟩
/-- a list of such data -/
theorem toPy_lst {S : Store} {n j : Nat} {ds : List D} (h : rdL S n = some ds) (hd : ∀ d ∈ ds, PD j d) (hj : j ≤ 60) : ∃ ps, toPy S 140 (.ref n) = some (.list ps) ∧ SeqAt.shaped (.list ps) = true ∧ ps.length = ds.length := by
  obtain ⟨ps, e, h1, h2, h3⟩ := toPys_of (S := S) (j := j) (k := 139) (by omega) (ds := ds) fun d hx => by
    obtain ⟨p, e, h1, h2⟩ := hd d hx
    exact ⟨p, e S 138 (by omega), h1, h2⟩
  refine ⟨ps, ?_, ?_, h3⟩
  · simp only [toPy]
    rw [h]
    simp only [e, Option.map_some]
  · unfold SeqAt.shaped
    rw [Bool.and_eq_true]
    refine ⟨by simpa [PyData.canLay0] using h1, decide_eq_true ?_⟩
    simp only [PyData.depth]
    omega
theorem pEqB_lnil {S : Store} {n m j : Nat} {ds : List D} (h : rdL S n = some ds) (h2 : rdL S m = some []) (hd : ∀ d ∈ ds, PD j d) (hj : j ≤ 60) : pEqB (.ref n) (.ref m) S = some ds.isEmpty := by
  obtain ⟨ps, e, s, l⟩ := toPy_lst h hd hj
  obtain ⟨qs, e', s', l'⟩ := toPy_lst h2 (j := j) (fun d hd => by simp at hd) hj
  have : qs = [] := List.length_eq_zero_iff.mp l'
  subst this
  unfold pEqB
  rw [e, e']
  dsimp only
  rw [s, s']
  cases ps with
  | nil =>
    have : ds = [] := List.length_eq_zero_iff.mp l.symm
    subst this
    rfl
  | cons p ps =>
    cases ds with
    | nil => simp at l
    | cons d ds => rfl
theorem wp_nel {S : Store} {n m j : Nat} {ds : List D} {Q : D → Store → Prop} (h : rdL S n = some ds) (h2 : rdL S m = some []) (hd : ∀ d ∈ ds, PD j d) (hj : j ≤ 60 := by decide) : wpP (pNe (.ref n) (.ref m) S) Q = Q (.bl (!ds.isEmpty)) S := by
  unfold pNe; rw [pEqB_lnil h h2 hd hj]; rfl
theorem wp_eql {S : Store} {n m j : Nat} {ds : List D} {Q : D → Store → Prop} (h : rdL S n = some ds) (h2 : rdL S m = some []) (hd : ∀ d ∈ ds, PD j d) (hj : j ≤ 60 := by decide) : wpP (pEq (.ref n) (.ref m) S) Q = Q (.bl ds.isEmpty) S := by
  unfold pEq; rw [pEqB_lnil h h2 hd hj]; rfl
/-! ### a new order -/
/-- what a taking of digits does -/
def TkOk (tk : List D → M D) : Prop := ∀ {S : Store} {b c : Nat} (many : Int), IsBox S b c → 0 < many → many ≤ 100000000 → c ≤ 1000000 → ∃ (i : Nat) (S' : Store), tk [.ref b, .int many] S = .ok (.int i) S' ∧ (i : Int) < many ∧ IsBox S' b (c + 1) ∧ FrB b S S'
theorem tkOk {c1 c2 : Int} (hc1 : 0 ≤ c1 ∧ c1 < 100000000) (hc2 : 0 ≤ c2 ∧ c2 < 1000000000) : TkOk (takeF c1 c2) := fun many h h0 h1 hc => tkF hc1 hc2 many h h0 h1 hc
theorem wp_popAt {S : Store} {n : Nat} {ds : List D} {i : Nat} {d : D} {Q : D → Store → Prop} (h : S[n]? = some (.lst ds)) (hd : ds[i]? = some d) (hf : ds.length ≤ 16777216) : wpP (pPopAt (.ref n) [.int i] S) Q = Q d (S.set n (.lst (ds.eraseIdx i))) := by
  unfold pPopAt
  have hl := (List.getElem?_eq_some_iff.mp hd).1
  have e : ixN ds.length (i : Int) = some i := by unfold ixN; rw [if_pos (by omega), if_pos (by omega)]; simp
  dsimp only
  rw [h]
  dsimp only
  rw [if_pos (fits_of hf), e]
  dsimp only
  rw [hd]
  rfl
theorem mixed_ok {tk : List D → M D} (htk : TkOk tk) {S : Store} {b c n j : Nat} {ds : List D} (h : IsBox S b c) (hn : rdL S n = some ds) (hd : ∀ d ∈ ds, PD j d) (hj : j ≤ 60) (hl : ds.length ≤ 1000) (hc : c ≤ 900000) :
    ∃ (m : Nat) (es : List D) (S' : Store), mixedF tk [.ref b, .ref n] S = .ok (.ref m) S' ∧ S.length ≤ m ∧ S'[m]? = some (.lst es) ∧ es.length = ds.length ∧ (∀ d ∈ es, d ∈ ds) ∧ IsBox S' b (c + ds.length) ∧ FrB b S S' := by
  suffices q : wpR (mixedF tk [.ref b, .ref n] S) (fun d S' => ∃ (m : Nat) (es : List D), d = .ref m ∧ S.length ≤ m ∧ S'[m]? = some (.lst es) ∧ es.length = ds.length ∧ (∀ d ∈ es, d ∈ ds) ∧ IsBox S' b (c + ds.length) ∧ FrB b S S') fun _ _ => False by
    obtain ⟨d, S', e, m, es, rfl, h⟩ := wpR_ex q
    exact ⟨m, es, S', e, h⟩
  refine wp_fn rfl ?_
  have hb := h.lt
  simp [startD, pList, hn, fits_of]
  refine wp_while (fun k sd S' => ∃ (ls fs : List D), sd = [some (.ref b), some (.ref n), some (.ref S.length), some (.ref (S.length + 1))] ∧ S'[S.length]? = some (.lst ls) ∧ S'[S.length + 1]? = some (.lst fs) ∧ k = ls.length ∧ ls.length + fs.length = ds.length ∧
    (∀ d ∈ ls, d ∈ ds) ∧ (∀ d ∈ fs, d ∈ ds) ∧ IsBox S' b (c + fs.length) ∧ FrB b S S') ?_ ds.length _ _ ⟨ds, [], rfl, ?_, ?_, rfl, by simp, fun d hd => hd, by simp, ?_, ?_⟩
  rotate_left
  · simp
  · simp
  · rw [show S ++ [SO.lst ds, SO.lst []] = S ++ [SO.lst ds, SO.lst []] from rfl]
    exact h.app _
  · exact (Fr.app _).b b
  rintro k sd S' ⟨ls, fs, rfl, e1, e2, rfl, hs, h1, h2, h3, h4⟩
  have r1 : rdL (S' ++ [SO.lst []]) S.length = some ls := rdL_lst ((Fr.app _).at e1)
  have r2 : rdL (S' ++ [SO.lst []]) S'.length = some [] := rdL_lst (last_at _ _)
  have b3 := h3.app [SO.lst []]
  have e1' : (S' ++ [SO.lst []])[S.length]? = some (.lst ls) := (Fr.app _).at e1
  have e2' : (S' ++ [SO.lst []])[S.length + 1]? = some (.lst fs) := (Fr.app _).at e2
  simp [fits_of, wp_nel r1 r2 (fun d hd' => hd d (h1 d hd')) hj]
  generalize hS2 : S' ++ [SO.lst []] = S2 at *
  have f2 : FrB b S S2 := h4.trans (by rw [← hS2]; exact (Fr.app _).b b)
  cases ls with
  | nil =>
    exact .inl ⟨rfl, fs, e2', by simpa using hs, h2, by rw [show ds.length = fs.length by simpa using hs.symm]; exact b3, f2⟩
  | cons l ls =>
    refine .inr ⟨by simp, ?_⟩
    obtain ⟨i, S3, q1, q2, q3, q4⟩ := htk ((ls.length : Int) + 1) b3 (by omega) (by simp at hs; omega) (by omega)
    have e3 := q4.at e1' (by omega)
    have e3' := q4.at e2' (by omega)
    have hsl : ls.length + 1 + fs.length = ds.length := by simpa using hs
    have hil : i < (l :: ls).length := by simp; omega
    obtain ⟨d, hdi⟩ : ∃ d, (l :: ls)[i]? = some d := ⟨(l :: ls)[i], List.getElem?_eq_getElem hil⟩
    have dm := List.mem_of_getElem? hdi
    have n1 : S.length + 1 < S3.length := (List.getElem?_eq_some_iff.mp e3').1
    simp [rdL_lst e2', rdL_lst e1', e1', q1]
    rw [wp_popAt e3 hdi (by simp; omega), wp_append (ds := fs) (by rw [List.getElem?_set_ne (by omega)]; exact e3') (by omega)]
    have el : ((l :: ls).eraseIdx i).length = ls.length := by rw [List.length_eraseIdx_of_lt hil]; simp
    refine ⟨ls.length, by omega, (l :: ls).eraseIdx i, ?_, fs ++ [d], ?_, el.symm, by rw [el]; simp; omega, fun x hx => h1 x (List.mem_of_mem_eraseIdx hx), fun x hx => ?_, ?_, ?_⟩
    · rw [List.getElem?_set_ne (by omega), List.getElem?_set_self (by omega)]
    · rw [List.getElem?_set_self (by simp; omega)]
    · rcases List.mem_append.mp hx with z | z
      · exact h2 x z
      · have : x = d := by simpa using z
        subst this
        exact h1 _ dm
    · have q := q3.mono (d := c + (fs ++ [d]).length) (by simp; omega)
      obtain ⟨g, f, m, n', e, r⟩ := q
      exact ⟨g, f, m, n', by rw [List.getElem?_set_ne (by omega), List.getElem?_set_ne (by omega)]; exact e, r⟩
    · have k1 := f2.trans q4
      refine ⟨by simp; exact k1.1, fun x hx hne => ?_⟩
      rw [List.getElem?_set_ne (by omega), List.getElem?_set_ne (by omega)]
      exact k1.2 x hx hne
/-! ### good data that leave the box alone -/
theorem good_mono {S : Store} : ∀ {k j : Nat} {d : D}, good S k d → k ≤ j → good S j d := by
  have pm : ∀ {k j : Nat} {d : D}, plain k d → k ≤ j → plain j d := by
    intro k
    induction k with
    | zero => intro j d h _; cases d <;> cases j <;> simpa [plain] using h
    | succ k ih =>
      intro j d h hj
      obtain ⟨m, rfl⟩ : ∃ m, j = m + 1 := ⟨j - 1, by omega⟩
      cases d with
      | tup ds => simp only [plain] at h ⊢; exact ⟨h.1, fun d hd => ih (h.2 d hd) (by omega)⟩
      | _ => simpa [plain] using h
  intro k
  induction k with
  | zero => intro j d h _; cases d <;> cases j <;> simpa [good] using h
  | succ k ih =>
    intro j d h hj
    obtain ⟨m, rfl⟩ : ∃ m, j = m + 1 := ⟨j - 1, by omega⟩
    cases d with
    | tup ds => simp only [good] at h ⊢; exact ⟨h.1, fun d hd => ih (h.2 d hd) (by omega)⟩
    | ref n =>
      simp only [good] at h ⊢
      rcases h with ⟨ds, e, hl, h⟩ | ⟨kvs, e, hl, hn, h⟩
      · exact .inl ⟨ds, e, hl, fun d hd => ih (h d hd) (by omega)⟩
      · exact .inr ⟨kvs, e, hl, hn, fun p hp => pm (h p hp) (by omega)⟩
    | _ => simpa [good] using h
def gd (b : Nat) (S : Store) (k : Nat) (d : D) : Prop := good (S.set b (.dlk [])) k d
theorem gd.good {b : Nat} {S : Store} : ∀ {k : Nat} {d : D}, gd b S k d → good S k d := by
  intro k
  unfold gd
  induction k with
  | zero => intro d h; cases d <;> simpa [Lay.good] using h
  | succ k ih =>
    intro d h
    cases d with
    | tup ds => simp only [Lay.good] at h ⊢; exact ⟨h.1, fun d hd => ih (h.2 d hd)⟩
    | ref n =>
      simp only [Lay.good] at h ⊢
      have ne : ∀ o, (S.set b (.dlk []))[n]? = some o → o ≠ .dlk [] → S[n]? = some o := fun o e no => by
        by_cases hb : b = n
        · subst hb
          by_cases hl : b < S.length
          · rw [List.getElem?_set_self hl] at e; cases e; exact absurd rfl no
          · rw [List.getElem?_eq_none (by simp; omega)] at e; cases e
        · rw [List.getElem?_set_ne hb] at e; exact e
      rcases h with ⟨ds, e, hl, h⟩ | ⟨kvs, e, hl, hn, h⟩
      · exact .inl ⟨ds, ne _ e (by simp), hl, fun d hd => ih (h d hd)⟩
      · exact .inr ⟨kvs, ne _ e (by simp), hl, hn, h⟩
    | _ => simpa [Lay.good] using h
theorem gd.frb {b : Nat} {S S' : Store} {k : Nat} {d : D} (h : gd b S k d) (f : FrB b S S') : gd b S' k d := by
  refine good_fr (fun n hn => ?_) h
  rw [List.length_set] at hn
  have := f.1
  by_cases hb : b = n
  · subst hb
    rw [List.getElem?_set_self hn, List.getElem?_set_self (by omega)]
  · rw [List.getElem?_set_ne hb, List.getElem?_set_ne hb]
    exact f.2 n hn (Ne.symm hb)
theorem gd.fr {b : Nat} {S S' : Store} {k : Nat} {d : D} (h : gd b S k d) (f : Fr S S') : gd b S' k d := h.frb (f.b b)
theorem gd.mono {b : Nat} {S : Store} {k j : Nat} {d : D} (h : gd b S k d) (hj : k ≤ j) : gd b S j d := good_mono h hj
theorem gd.int {b : Nat} {S : Store} {k : Nat} {i : Int} (h : Bd 1000 i) : gd b S k (.int i) := by cases k <;> simpa [gd, Lay.good] using h
theorem gd.non {b : Nat} {S : Store} {k : Nat} : gd b S k .non := by cases k <;> simp [gd, Lay.good]
theorem gd.bl {b : Nat} {S : Store} {k : Nat} (v : Bool) : gd b S k (.bl v) := by cases k <;> simp [gd, Lay.good]
theorem gd.str {b : Nat} {S : Store} {k : Nat} {x : Str} (h : okS x = true) : gd b S k (.str x) := by cases k <;> simpa [gd, Lay.good] using h
theorem gd.exn {b : Nat} {S : Store} {k c : Nat} {ds : List D} : gd b S k (.exn c ds) := by cases k <;> simp [gd, Lay.good]
theorem gd.tup {b : Nat} {S : Store} {k : Nat} {ds : List D} (hl : ds.length ≤ 400) (h : ∀ d ∈ ds, gd b S k d) : gd b S (k + 1) (.tup ds) := by
  unfold gd; simp only [Lay.good]; exact ⟨hl, h⟩
theorem gd.lst {b n : Nat} {S : Store} {k : Nat} {ds : List D} (e : S[n]? = some (.lst ds)) (hn : n ≠ b) (hl : ds.length ≤ 400) (h : ∀ d ∈ ds, gd b S k d) : gd b S (k + 1) (.ref n) := by
  unfold gd; simp only [Lay.good]; exact .inl ⟨ds, by rw [List.getElem?_set_ne (Ne.symm hn)]; exact e, hl, h⟩
theorem gd.dct {b n : Nat} {S : Store} {k : Nat} {kvs : List (Key × D)} (e : S[n]? = some (.dct kvs)) (hn : n ≠ b) (hl : kvs.length ≤ 400) (hd : (kvs.map (·.1)).Nodup) (h : ∀ p ∈ kvs, plain k p.2) : gd b S (k + 1) (.ref n) := by
  unfold gd; simp only [Lay.good]; exact .inr ⟨kvs, by rw [List.getElem?_set_ne (Ne.symm hn)]; exact e, hl, hd, h⟩
/-! ### displays -/
def GE (b k : Nat) (e : EE) (sd : SD) (S : Store) : Prop := ∀ S1, Fr S S1 → wpR (e sd S1) (fun x S2 => Fr S1 S2 ∧ gd b S2 k x) fun _ _ => False
def GA (b k n : Nat) (aa : EA) (sd : SD) (S : Store) : Prop := ∀ S1, Fr S S1 → wpR (aa sd S1) (fun xs S2 => Fr S1 S2 ∧ xs.length = n ∧ ∀ x ∈ xs, gd b S2 k x) fun _ _ => False
def PA' (k n : Nat) (aa : EA) (sd : SD) (S : Store) : Prop := ∀ S1, Fr S S1 → wpR (aa sd S1) (fun xs S2 => Fr S1 S2 ∧ xs.length = n ∧ ∀ x ∈ xs, plain k x) fun _ _ => False
section
variable {b k n : Nat} {e : EE} {aa : EA} {sd : SD} {S : Store}
theorem GE.fr {S' : Store} (h : GE b k e sd S) (f : Fr S S') : GE b k e sd S' := fun S1 f1 => h S1 (f.trans f1)
theorem ge_non : GE b k (eC .non) sd S := fun S1 _ => ⟨Fr.refl, gd.non⟩
theorem ge_bl {v : Bool} : GE b k (eC (.bl v)) sd S := fun S1 _ => ⟨Fr.refl, gd.bl v⟩
theorem ge_int {i : Int} (h : Bd 1000 i) : GE b k (eC (.int i)) sd S := fun S1 _ => ⟨Fr.refl, gd.int h⟩
theorem ge_str {x : Str} (h : okS x = true) : GE b k (eC (.str x)) sd S := fun S1 _ => ⟨Fr.refl, gd.str h⟩
theorem ge_neg {i : Int} (h : Bd 1000 (-i)) : GE b k (eNeg (eC (.int i))) sd S := fun S1 _ => by
  rw [v_neg, v_c]
  exact ⟨i, rfl, Fr.refl, gd.int h⟩
theorem ge_var {i : Nat} {d : D} (h : sd[i]? = some (some d)) (hd : gd b S k d) : GE b k (eVar i) sd S := fun S1 f1 => by
  rw [wpR_var]
  exact ⟨d, h, Fr.refl, hd.fr f1⟩
/-- what needs no store -/
theorem ge_pure {d : D} (h : ∀ S1 (Q : D → Store → Prop), Q d S1 → wpR (e sd S1) Q fun _ _ => False) (hd : gd b S k d) : GE b k e sd S := fun S1 f1 => h S1 _ ⟨Fr.refl, hd.fr f1⟩
theorem ga_nil : GA b k 0 aNil sd S := fun S1 _ => ⟨Fr.refl, rfl, fun x hx => by simp at hx⟩
theorem ga_cons (h : GE b k e sd S) (t : GA b k n aa sd S) : GA b k (n + 1) (aCons e aa) sd S := fun S1 f1 => by
  rw [v_cons]
  refine wpR_mono (h S1 f1) (fun x S2 ⟨f2, g2⟩ => ?_) fun _ _ z => z
  refine wpR_mono (t S2 (f1.trans f2)) (fun xs S3 ⟨f3, l3, g3⟩ => ?_) fun _ _ z => z
  refine ⟨f2.trans f3, by simp [l3], fun y hy => ?_⟩
  rcases List.mem_cons.mp hy with rfl | hy
  · exact g2.fr f3
  · exact g3 y hy
theorem ge_tup (h : GA b k n aa sd S) (hn : n ≤ 400 := by decide) : GE b (k + 1) (eTup aa) sd S := fun S1 f1 => by
  rw [v_tup]
  refine wpR_mono (h S1 f1) (fun xs S2 ⟨f2, l2, g2⟩ => ?_) fun _ _ z => z
  exact ⟨fits_of (by omega), f2, gd.tup (by omega) g2⟩
theorem ge_lst (hb : b < S.length) (h : GA b k n aa sd S) (hn : n ≤ 400 := by decide) : GE b (k + 1) (eLst aa) sd S := fun S1 f1 => by
  rw [v_lst]
  refine wpR_mono (h S1 f1) (fun xs S2 ⟨f2, l2, g2⟩ => ?_) fun _ _ z => z
  have := f1.le
  have := f2.le
  exact ⟨fits_of (by omega), f2.trans (Fr.app _), gd.lst (last_at _ _) (by omega) (by omega) fun d hd => (g2 d hd).fr (Fr.app _)⟩
theorem ge_dct0 (hb : b < S.length) : GE b (k + 1) eDct0 sd S := fun S1 f1 => by
  rw [v_dct0]
  have := f1.le
  exact ⟨Fr.app _, gd.dct (last_at _ _) (by omega) (by simp) (by simp) fun p hp => by simp at hp⟩
theorem ge_mk {c : Nat} (h : GA b k n aa sd S) : GE b k (eMk c n aa) sd S := fun S1 f1 => by
  rw [v_mk]
  exact wpR_mono (h S1 f1) (fun xs S2 ⟨f2, l2, g2⟩ => ⟨l2, f2, gd.exn⟩) fun _ _ z => z
theorem pa_nil' : PA' k 0 aNil sd S := fun S1 _ => ⟨Fr.refl, rfl, fun x hx => by simp at hx⟩
theorem pa_c {d : D} (h : plain k d) (t : PA' k n aa sd S) : PA' k (n + 1) (aCons (eC d) aa) sd S := fun S1 f1 => by
  rw [v_cons, v_c]
  refine wpR_mono (t S1 f1) (fun xs S3 ⟨f3, l3, g3⟩ => ?_) fun _ _ z => z
  refine ⟨f3, by simp [l3], fun y hy => ?_⟩
  rcases List.mem_cons.mp hy with rfl | hy
  · exact h
  · exact g3 y hy
theorem pa_tup {m : Nat} {bb : EA} (h : PA' k m bb sd S) (t : PA' (k + 1) n aa sd S) (hm : m ≤ 400 := by decide) : PA' (k + 1) (n + 1) (aCons (eTup bb) aa) sd S := fun S1 f1 => by
  rw [v_cons, v_tup]
  refine wpR_mono (h S1 f1) (fun xs S2 ⟨f2, l2, g2⟩ => ?_) fun _ _ z => z
  refine ⟨fits_of (by omega), wpR_mono (t S2 (f1.trans f2)) (fun ys S3 ⟨f3, l3, g3⟩ => ?_) fun _ _ z => z⟩
  refine ⟨f2.trans f3, by simp [l3], fun y hy => ?_⟩
  rcases List.mem_cons.mp hy with rfl | hy
  · simp only [plain]; exact ⟨by omega, g2⟩
  · exact g3 y hy
end
theorem ge_dct {b k n : Nat} {ks : List Key} {aa : EA} {sd : SD} {S : Store} (hb : b < S.length) (h : PA' k n aa sd S) (hk : ks.length = n) (hn : n ≤ 400) (hd : ks.Nodup) : GE b (k + 1) (eDct ks aa) sd S := fun S1 f1 => by
  have q := h (S1 ++ [.dct []]) (f1.trans (Fr.app _))
  obtain ⟨xs, S2, e, f2, l2, g2⟩ := wpR_ex q
  have e2 : S2[S1.length]? = some (.dct []) := f2.at (last_at _ _)
  have := f1.le
  have l3 : S1.length < S2.length := (List.getElem?_eq_some_iff.mp e2).1
  unfold eDct
  rw [e]
  dsimp only
  rw [e2]
  dsimp only
  rw [if_pos (by omega)]
  refine ⟨fun i hi => ?_, ?_⟩
  · rw [List.getElem?_set_ne (by omega), f2 i (by simp; omega)]
    exact List.getElem?_append_left hi
  · refine gd.dct (List.getElem?_set_self l3) (by omega) (by simp; omega) ?_ fun p hp => g2 _ (List.of_mem_zip hp).2
    rw [List.map_fst_zip (by omega)]
    exact hd
/-- a list in the store -/
def LGd (b k m : Nat) (S : Store) (d : D) : Prop := ∃ n xs, d = .ref n ∧ n ≠ b ∧ S[n]? = some (.lst xs) ∧ xs.length = m ∧ ∀ x ∈ xs, gd b S k x
theorem LGd.frb {b k m : Nat} {S S' : Store} {d : D} (h : LGd b k m S d) (f : FrB b S S') : LGd b k m S' d := by
  obtain ⟨n, xs, rfl, hn, e, hl, hx⟩ := h
  exact ⟨n, xs, rfl, hn, by rw [f.2 n (List.getElem?_eq_some_iff.mp e).1 hn]; exact e, hl, fun x z => (hx x z).frb f⟩
theorem LGd.fr {b k m : Nat} {S S' : Store} {d : D} (h : LGd b k m S d) (f : Fr S S') : LGd b k m S' d := h.frb (f.b b)
def GL (b k m : Nat) (e : EE) (sd : SD) (S : Store) : Prop := ∀ S1, Fr S S1 → wpR (e sd S1) (fun x S2 => Fr S1 S2 ∧ LGd b k m S2 x) fun _ _ => False
section
variable {b k n m : Nat} {e f : EE} {aa : EA} {sd : SD} {S : Store}
theorem gl_lst (hb : b < S.length) (h : GA b k n aa sd S) (hn : n ≤ 1000 := by decide) : GL b k n (eLst aa) sd S := fun S1 f1 => by
  rw [v_lst]
  refine wpR_mono (h S1 f1) (fun xs S2 ⟨f2, l2, g2⟩ => ?_) fun _ _ z => z
  have := f1.le
  have := f2.le
  exact ⟨fits_of (by omega), f2.trans (Fr.app _), S2.length, xs, rfl, by omega, last_at _ _, l2, fun d hd => (g2 d hd).fr (Fr.app _)⟩
theorem gl_var {i : Nat} {d : D} (h : sd[i]? = some (some d)) (hd : LGd b k m S d) : GL b k m (eVar i) sd S := fun S1 f1 => by
  rw [wpR_var]
  exact ⟨d, h, Fr.refl, hd.fr f1⟩
theorem wp_addL {S : Store} {p q : Nat} {xs ys : List D} {Q : D → Store → Prop} (h1 : S[p]? = some (.lst xs)) (h2 : S[q]? = some (.lst ys)) (hf : xs.length + ys.length ≤ 16777216) : wpP (pAdd (.ref p) (.ref q) S) Q = Q (.ref S.length) (S ++ [.lst (xs ++ ys)]) := by
  unfold pAdd
  dsimp only
  rw [h1, h2]
  dsimp only
  rw [if_pos (fits_of hf)]
  rfl
theorem gl_add (hb : b < S.length) (h : GL b k n e sd S) (t : GL b k m f sd S) (hm : n + m ≤ 1000 := by decide) : GL b k (n + m) (eBin pAdd e f) sd S := fun S1 f1 => by
  rw [v_bin]
  refine wpR_mono (h S1 f1) (fun x S2 ⟨f2, g2⟩ => ?_) fun _ _ z => z
  refine wpR_mono (t S2 (f1.trans f2)) (fun y S3 ⟨f3, q, ys, e4, n4, a4, l4, g4⟩ => ?_) fun _ _ z => z
  obtain ⟨p, xs, e3, n3, a3, l3, g3⟩ := g2.fr f3
  subst e3 e4
  have := f1.le
  have := f2.le
  have := f3.le
  rw [wp_addL a3 a4 (by omega)]
  refine ⟨f2.trans (f3.trans (Fr.app _)), S3.length, xs ++ ys, rfl, by omega, last_at _ _, by simp; omega, fun z hz => ?_⟩
  rcases List.mem_append.mp hz with hz | hz
  · exact (g3 z hz).fr (Fr.app _)
  · exact (g4 z hz).fr (Fr.app _)
end
/-- [found[k] for k in ..] -/
theorem lc_pick {it : EI} {f v : Nat} {sd : SD} {S : Store} {Q : D → Store → Prop} {E : Ex → Store → Prop} (hfv : f ≠ v) (hv : v < sd.length)
    (h : wpR (it sd S) (fun t S1 => ∃ p ds, sd[f]? = some (some (.ref p)) ∧ S1[p]? = some (.lst ds) ∧ (∀ d ∈ t.ds, ∃ i : Nat, d = .int i ∧ i < ds.length) ∧ (∀ S', Fr S1 S' → t.chk S') ∧ t.ds.length ≤ 1000 ∧
      ∀ ys : List D, ys.length = t.ds.length → (∀ y ∈ ys, y ∈ ds) → Q (.ref S1.length) (S1 ++ [.lst ys])) E) : wpR (eLc it (gNm v) bTrue (eBin pIx (eVar f) (eVar v)) [v] sd S) Q E := by
  refine wp_eLc (wpR_mono h (fun t S1 ⟨p, ds, hf, e, hi, hck, hlen, q⟩ => ?_) fun _ _ z => z)
  have key : ∃ S', lcD S1.length (gNm v) bTrue (eBin pIx (eVar f) (eVar v)) [v] t.chk sd t.ds (S1 ++ [.lst []]) = some S' ∧ ∃ ys : List D, S' = S1 ++ [.lst ys] ∧ ys.length = 0 + t.ds.length ∧ ∀ y ∈ ys, y ∈ ds := by
    refine wp_lc (fun i S' => ∃ ys : List D, S' = S1 ++ [.lst ys] ∧ ys.length = i ∧ ∀ y ∈ ys, y ∈ ds) t.ds 0 _ ⟨[], rfl, rfl, fun y hy => by simp at hy⟩ ?_ ?_
    rotate_left
    · rintro S2 ⟨ys, rfl, _⟩
      exact hck _ (Fr.app _)
    · rintro j d S2 hj ⟨ys, rfl, l, hy⟩
      obtain ⟨i, rfl, il⟩ := hi d (List.mem_of_getElem? hj)
      have jl := (List.getElem?_eq_some_iff.mp hj).1
      refine ⟨hck _ (Fr.app _), _, rfl, ?_⟩
      have e1 : ((wipeD sd [v]).set v (some (.int (i : Int))))[f]? = some (some (.ref p)) := by
        rw [List.getElem?_set_ne (Ne.symm hfv)]
        show ((wipeD sd []).set v none)[f]? = _
        rw [List.getElem?_set_ne (Ne.symm hfv)]
        exact hf
      have e2 : ((wipeD sd [v]).set v (some (.int (i : Int))))[v]? = some (some (.int i)) := by
        rw [List.getElem?_set_self]
        show v < ((wipeD sd []).set v none).length
        rw [List.length_set]
        exact hv
      have rd : rdL (S1 ++ [SO.lst ys]) p = some ds := rdL_lst ((Fr.app _).at e)
      have at_ : atI ds (i : Int) = some ds[i] := by rw [atI_nat il]; simp [il]
      show wpR (bTrue _ _) _ _
      unfold bTrue
      rw [wpR_ok, if_pos rfl, v_bin, wpR_var]
      refine ⟨_, e1, ?_⟩
      rw [wpR_var]
      refine ⟨_, e2, ?_⟩
      rw [wp_ixR]
      refine ⟨ds, rd, ds[i], at_, ys, last_at _ _, fits_of (by omega), ys ++ [ds[i]], ?_, by simp; omega, fun y hm => ?_⟩
      · simp
      · rcases List.mem_append.mp hm with z | z
        · exact hy y z
        · have : y = ds[i] := by simpa using z
          subst this
          exact List.getElem_mem il
  obtain ⟨S', r1, ys, rfl, r2, r3⟩ := key
  exact ⟨_, r1, q ys (by simpa using r2) r3⟩
/-- list(range(n)) -/
theorem mem_rng {lo : Int} {n : Nat} {d : D} (h : d ∈ rngD lo n) : ∃ i : Nat, d = .int (lo + i) ∧ i < n := by
  unfold rngD at h
  obtain ⟨i, hi, rfl⟩ := List.mem_map.mp h
  exact ⟨i, rfl, List.mem_range.mp hi⟩
theorem rng_len (lo : Int) (n : Nat) : (rngD lo n).length = n := by simp [rngD]
end Lay

set_option Elab.async false
set_option linter.all false
set_option maxRecDepth 100000
set_option maxHeartbeats 4000000
/-! L18: the script's cells. -/
namespace Lay
open PySem PySem.Spec PyProof.Rows L2
open Classical
noncomputable def cellF (c0 : Int) : List D → M D := fnD 2 2 (sRet (eIf (asB (eBin pLt (eVar 1) (eCallB pLen (aCons (eVar 0) aNil)))) (eBin pIx (eVar 0) (eVar 1)) (eBin pAdd (eBin pMul (eC (.int c0)) (eVar 1)) (eBin pMod (eCallB pInt (aCons (eCallB pSum (aCons (eSl (eVar 0) oNone (oSome (eC (.int 1)))) aNil)) aNil)) (eC (.int 1000003))))))
theorem intsOf_map : ∀ ns : List Int, intsOf (ns.map D.int) = some ns
  | [] => rfl
  | n :: ns => by simp only [List.map_cons, intsOf, intsOf_map ns, Option.map_some]
theorem wp_sum {S : Store} {n : Nat} {ns : List Int} {Q : D → Store → Prop} (h : rdL S n = some (ns.map D.int)) : wpP (pSum [.ref n] S) Q = Q (.int ns.sum) S := by
  unfold pSum
  simp only [h, Option.bind_some, intsOf_map, Option.map_some]
  rfl
theorem cut1 (ns : List Int) : cutD (ns.map D.int) none (some 1) = ((ns.take 1).map D.int) := by
  unfold cutD HT.sIx
  cases ns with
  | nil => simp
  | cons n ns => simp
theorem cell_ok {c0 : Int} {S : Store} {ns : List Int} {k : Nat} (h : S[0]? = some (.ro (ns.map D.int))) (hk : k ≤ 1000) (hc : c0.natAbs < 2 ^ 40) : ∃ (x : Int) (S' : Store), cellF c0 [.ref 0, .int k] S = .ok (.int x) S' ∧ Fr S S' := by
  suffices q : wpR (cellF c0 [.ref 0, .int k] S) (fun d S' => ∃ x : Int, d = .int x ∧ Fr S S') fun _ _ => False by
    obtain ⟨d, S', e, x, rfl, h⟩ := wpR_ex q
    exact ⟨x, S', e, h⟩
  have r := rdL_ro h
  have m : mulFits c0 (k : Int) = true := mulFits_of (n := 40) (m := 10) hc (by unfold Bd; omega)
  refine wp_fn rfl ?_
  by_cases hl : k < ns.length
  · simp [startD, h, hl, r, atI_nat (ds := ns.map D.int) (i := k) (by simpa using hl)]
    exact Fr.refl
  · simp [startD, h, hl, r, m, pSl, cut1]
    rw [wp_sum (ns := ns.take 1) (rdL_lst (by rw [List.map_take]; exact last_at _ _))]
    simp
    exact Fr.app _
theorem gtup_k {i j n : Nat} {x y : D} {sd : SD} {S : Store} {Q : SD → Store → Prop} (h : S[n]? = some (.lst [x, y])) (k : Q ((sd.set i (some x)).set j (some y)) S) : wpP (gTupD 2 (gsCons (gNm i) (gsCons (gNm j) gsNil)) (.ref n) sd S) Q := by
  rw [wp_gtup2r (rdL_lst h)]; exact k
theorem FrB.fr {b : Nat} {S0 S S' : Store} (h : FrB b S S') (f : Fr S0 S) (hb : S0.length ≤ b) : Fr S0 S' := fun n hn => (h.2 n (Nat.lt_of_lt_of_le hn f.le) (by omega)).trans (f n hn)
end Lay

set_option Elab.async false
set_option linter.all false
set_option maxRecDepth 100000
set_option maxHeartbeats 4000000
/-! L19: the short 'same' of some laws; blame. -/
namespace Lay
open PySem PySem.Spec PyProof.Rows L2
open Classical
noncomputable def sameSB (T : List Cls) (g : List D → M D) : List D → M D := fnD 3 2 (sSeq (sIf (bOr (asB (eBin pIs (eVar 1) (eC .non))) (eTru (eIsi T [.ty "bool"] (eVar 1)))) (sRet (eIf (asB (eBin pIs (eVar 1) (eC .non))) (eBin pIs (eVar 0) (eC .non)) (eAnd (eIsi T [.ty "bool"] (eVar 0)) (eBin pEq (eBin pIs (eVar 0) (eC (.bl true))) (eBin pIs (eVar 1) (eC (.bl true))))))) sNext)
  (sSeq (sIf (eTru (eIsi T [.ty "int"] (eVar 1))) (sRet (eAnd (eIsi T [.ty "int"] (eVar 0)) (eAnd (eNot (eIsi T [.ty "bool"] (eVar 0))) (eBin pEq (eVar 0) (eVar 1))))) sNext)
  (sSeq (sIf (eTru (eIsi T [.ty "str"] (eVar 1))) (sRet (eAnd (eIsi T [.ty "str"] (eVar 0)) (eBin pEq (eVar 0) (eVar 1)))) sNext)
  (sSeq (sIf (bOr (bNot (eTru (eIsi T [.ty "list", .ty "tuple"] (eVar 0)))) (bOr (asB (eBin pNe (eIsi T [.ty "list"] (eVar 0)) (eIsi T [.ty "list"] (eVar 1)))) (asB (eBin pNe (eCallB pLen (aCons (eVar 0) aNil)) (eCallB pLen (aCons (eVar 1) aNil)))))) (sRet (eC (.bl false))) sNext)
  (sRet (eBin pEq (eLc (itRange (aCons (eCallB pLen (aCons (eVar 1) aNil)) aNil)) (gNm 2) (bNot (eTru (eCall g (aCons (eBin pIx (eVar 0) (eVar 2)) (aCons (eBin pIx (eVar 1) (eVar 2)) aNil))))) (eVar 2) [2]) (eLst aNil)))))))
noncomputable def sameSF (T : List Cls) : Nat → List D → M D
  | 0 => fun _ _ => .bad
  | n + 1 => sameSB T (sameSF T n)
/-- alike, without dicts and exceptions -/
inductive SimS : Store → Nat → D → D → Prop
  | non {S k} : SimS S k .non .non
  | bl {S k} (b : Bool) : SimS S k (.bl b) (.bl b)
  | int {S k} (i : Int) : SimS S k (.int i) (.int i)
  | str {S k} (x : Str) (h : okS x = true) : SimS S k (.str x) (.str x)
  | tup {S k ds es} (hl : ds.length = es.length) (hf : es.length ≤ 1000000) (h : ∀ (i : Nat) (a b : D), ds[i]? = some a → es[i]? = some b → SimS S k a b) : SimS S (k + 1) (.tup ds) (.tup es)
  | lst {S k n m ds es} (h1 : S[n]? = some (.lst ds)) (h2 : S[m]? = some (.lst es)) (hl : ds.length = es.length) (hf : es.length ≤ 1000000) (h : ∀ (i : Nat) (a b : D), ds[i]? = some a → es[i]? = some b → SimS S k a b) : SimS S (k + 1) (.ref n) (.ref m)
theorem SimS.fr {S S' : Store} {k : Nat} {x y : D} (h : SimS S k x y) : Fr S S' → SimS S' k x y := by
  induction h generalizing S' with
  | non => intro _; exact .non
  | bl b => intro _; exact .bl b
  | int i => intro _; exact .int i
  | str x h => intro _; exact .str x h
  | tup hl hf h ih => intro f; exact .tup hl hf fun i a b e1 e2 => ih i a b e1 e2 f
  | lst h1 h2 hl hf h ih => intro f; exact .lst (f.at h1) (f.at h2) hl hf fun i a b e1 e2 => ih i a b e1 e2 f
theorem SimS.mono {S : Store} {k : Nat} {x y : D} (h : SimS S k x y) : ∀ {j : Nat}, k ≤ j → SimS S j x y := by
  induction h with
  | non => intro j _; exact .non
  | bl b => intro j _; exact .bl b
  | int i => intro j _; exact .int i
  | str x h => intro j _; exact .str x h
  | tup hl hf h ih => intro j hj; obtain ⟨m, rfl⟩ : ∃ m, j = m + 1 := ⟨j - 1, by omega⟩; exact .tup hl hf fun i a b e1 e2 => ih i a b e1 e2 (by omega)
  | lst h1 h2 hl hf h ih => intro j hj; obtain ⟨m, rfl⟩ : ∃ m, j = m + 1 := ⟨j - 1, by omega⟩; exact .lst h1 h2 hl hf fun i a b e1 e2 => ih i a b e1 e2 (by omega)
section
variable {T : List Cls} {g : List D → M D} {S : Store} {Q : D → Store → Prop}
theorem sameS_non : sameSB T g [.non, .non] S = .ok (.bl true) S := by
  obtain ⟨a, S', e, h1, h2⟩ := wpR_ex (r := sameSB T g [.non, .non] S) (Q := fun d S' => d = .bl true ∧ S' = S) (by
    refine wp_fn rfl ?_
    simp [startD, isNon])
  rw [e, h1, h2]
theorem sameS_bl (b : Bool) : sameSB T g [.bl b, .bl b] S = .ok (.bl true) S := by
  obtain ⟨a, S', e, h1, h2⟩ := wpR_ex (r := sameSB T g [.bl b, .bl b] S) (Q := fun d S' => d = .bl true ∧ S' = S) (by
    refine wp_fn rfl ?_
    cases b <;> simp [startD, isNon, subD])
  rw [e, h1, h2]
theorem sameS_int (i : Int) : sameSB T g [.int i, .int i] S = .ok (.bl true) S := by
  obtain ⟨a, S', e, h1, h2⟩ := wpR_ex (r := sameSB T g [.int i, .int i] S) (Q := fun d S' => d = .bl true ∧ S' = S) (by
    refine wp_fn rfl ?_
    simp [startD, isNon, subD])
  rw [e, h1, h2]
theorem sameS_str (x : Str) (h : okS x = true) : sameSB T g [.str x, .str x] S = .ok (.bl true) S := by
  obtain ⟨a, S', e, h1, h2⟩ := wpR_ex (r := sameSB T g [.str x, .str x] S) (Q := fun d S' => d = .bl true ∧ S' = S) (by
    refine wp_fn rfl ?_
    simp [startD, isNon, subD, wp_eqs h h])
  rw [e, h1, h2]
/-- the loop over two sequences alike gathers nothing -/
theorem sameS_loop {x y : D} {ds es : List D} {sd : SD} (hl : ds.length = es.length) (hf : es.length ≤ 1000000) (hx : ∀ (S' : Store) (i : Nat) (a : D), Fr S S' → ds[i]? = some a → ∀ Q, Q a S' → wpP (pIx x (.int i) S') Q)
    (hy : ∀ (S' : Store) (i : Nat) (a : D), Fr S S' → es[i]? = some a → ∀ Q, Q a S' → wpP (pIx y (.int i) S') Q)
    (hg : ∀ (i : Nat) a b S', ds[i]? = some a → es[i]? = some b → Fr S S' → ∃ S'', g [a, b] S' = .ok (.bl true) S'' ∧ Fr S' S'') (hs : sd = [some x, some y, none]) :
    ∃ S', lcD S.length (gNm 2) (bNot (eTru (eCall g (aCons (eBin pIx (eVar 0) (eVar 2)) (aCons (eBin pIx (eVar 1) (eVar 2)) aNil))))) (eVar 2) [2] (fun _ => True) sd (rngD 0 es.length) (S ++ [.lst []]) = some S' ∧ Fr S S' ∧ S'[S.length]? = some (.lst []) := by
  subst hs
  have hlen : (rngD 0 es.length).length = es.length := by simp [rngD]
  obtain ⟨S', e, f⟩ := wp_lc (n := S.length) (g := gNm 2) (tt := bNot (eTru (eCall g (aCons (eBin pIx (eVar 0) (eVar 2)) (aCons (eBin pIx (eVar 1) (eVar 2)) aNil))))) (te := eVar 2) (vs := [2]) (chk := fun _ => True) (sd := [some x, some y, none])
    (fun _ S' => Fr (S ++ [.lst []]) S') (rngD 0 es.length) 0 (S ++ [.lst []]) Fr.refl (fun j d S1 e hi => by
      refine ⟨trivial, _, rfl, ?_⟩
      have hj : j < es.length := by rw [← hlen]; exact (List.getElem?_eq_some_iff.mp e).1
      have ed : d = .int (j : Int) := by
        simp [rngD, List.getElem?_map, hj] at e
        rw [← e]
      subst ed
      have f1 : Fr S S1 := (Fr.app [.lst []]).trans hi
      obtain ⟨S2, e2, f2⟩ := hg j ds[j] es[j] S1 (by simp [hl, hj]) (by simp [hj]) f1
      simp [wipeD]
      refine hx S1 j ds[j] f1 (by simp [hl, hj]) _ ?_
      refine hy S1 j es[j] f1 (by simp [hj]) _ ?_
      rw [e2]
      simp
      exact hi.trans f2) (fun _ _ => trivial)
  exact ⟨S', e, (Fr.app _).trans f, f.at (last_at S _)⟩
end
theorem sameS_seq {T : List Cls} {g : List D → M D} {S : Store} {x y : D} {ds es : List D} {kx : String} (hkx : kd x S = some (.ty kx)) (hky : kd y S = some (.ty kx)) (hk : kx = "list" ∨ kx = "tuple") (hlx : lenD x S = some ds.length) (hly : lenD y S = some es.length)
    (hnx : isNon y = false) (hl : ds.length = es.length) (hf : es.length ≤ 1000000) (hx : ∀ (S' : Store) (i : Nat) (a : D), Fr S S' → ds[i]? = some a → ∀ Q : D → Store → Prop, Q a S' → wpP (pIx x (.int i) S') Q)
    (hy : ∀ (S' : Store) (i : Nat) (a : D), Fr S S' → es[i]? = some a → ∀ Q : D → Store → Prop, Q a S' → wpP (pIx y (.int i) S') Q)
    (hg : ∀ (i : Nat) a b S', ds[i]? = some a → es[i]? = some b → Fr S S' → ∃ S'', g [a, b] S' = .ok (.bl true) S'' ∧ Fr S' S'') : ∃ S', sameSB T g [x, y] S = .ok (.bl true) S' ∧ Fr S S' := by
  refine res_of (wp_fn rfl ?_)
  have hin : inR (es.length : Int) = true := inR_of (by omega) (by omega)
  have go : wpR (eLc (itRange (aCons (eCallB pLen (aCons (eVar 1) aNil)) aNil)) (gNm 2) (bNot (eTru (eCall g (aCons (eBin pIx (eVar 0) (eVar 2)) (aCons (eBin pIx (eVar 1) (eVar 2)) aNil))))) (eVar 2) [2] [some x, some y, none] S)
      (fun x S1 => fits 0 = true ∧ wpP (pEq x (.ref S1.length) (S1 ++ [.lst []])) fun d S' => d = .bl true ∧ Fr S S') fun _ _ => False := by
    refine wp_eLc ?_
    obtain ⟨S', e, f, fl⟩ := sameS_loop (g := g) (S := S) (x := x) (y := y) (sd := [some x, some y, none]) hl hf hx hy hg rfl
    simp [hin, -lenL, hly]
    refine ⟨S', e, by decide, ?_⟩
    rw [wp_eqR (rdL_lst ((Fr.app _).at fl)) (rdL_lst (last_at _ _))]
    exact ⟨rfl, f.trans (Fr.app _)⟩
  rcases hk with rfl | rfl
  · simp [startD, hnx, subD, hkx, hky, -lenL, hlx, hly, hl]
    exact go
  · simp [startD, hnx, subD, hkx, hky, -lenL, hlx, hly, hl]
    exact go
theorem sameS_ok {T : List Cls} : ∀ (k : Nat) {S : Store} {x y : D}, SimS S k x y → ∃ S', sameSF T (k + 1) [x, y] S = .ok (.bl true) S' ∧ Fr S S' := by
  intro k
  induction k with
  | zero =>
    intro S x y h
    cases h with
    | non => exact ⟨_, sameS_non, Fr.refl⟩
    | bl b => exact ⟨_, sameS_bl b, Fr.refl⟩
    | int i => exact ⟨_, sameS_int i, Fr.refl⟩
    | str x h => exact ⟨_, sameS_str x h, Fr.refl⟩
  | succ k ih =>
    intro S x y h
    cases h with
    | non => exact ⟨_, sameS_non, Fr.refl⟩
    | bl b => exact ⟨_, sameS_bl b, Fr.refl⟩
    | int i => exact ⟨_, sameS_int i, Fr.refl⟩
    | str x h => exact ⟨_, sameS_str x h, Fr.refl⟩
    | @tup _ ds es hl hf h =>
      exact sameS_seq (kx := "tuple") rfl rfl (.inr rfl) rfl rfl rfl hl hf (fun S' i a f e Q q => by rw [wp_ixT]; exact ⟨a, atI_of e, q⟩) (fun S' i a f e Q q => by rw [wp_ixT]; exact ⟨a, atI_of e, q⟩)
        fun i a b S' e1 e2 f => ih ((h i a b e1 e2).fr f)
    | @lst _ n m ds es h1 h2 hl hf h =>
      exact sameS_seq (kx := "list") (ds := ds) (es := es) (kd_lst h1) (kd_lst h2) (.inl rfl) (by rw [lenL, h1]) (by rw [lenL, h2]) rfl hl hf (fun S' i a f e Q q => by rw [wp_ixR]; exact ⟨ds, rdL_lst (f.at h1), a, atI_of e, q⟩)
        (fun S' i a f e Q q => by rw [wp_ixR]; exact ⟨es, rdL_lst (f.at h2), a, atI_of e, q⟩) fun i a b S' e1 e2 f => ih ((h i a b e1 e2).fr f)
theorem sameS12 {T : List Cls} {S : Store} {k : Nat} {x y : D} (h : SimS S k x y) (hk : k ≤ 11) : ∃ S', sameSF T 12 [x, y] S = .ok (.bl true) S' ∧ Fr S S' := sameS_ok 11 (SimS.mono h hk)
end Lay

set_option Elab.async false
set_option linter.all false
set_option maxRecDepth 100000
set_option maxHeartbeats 4000000
/-! the pure law: what the law's own functions tell -/
namespace Lay
namespace Kk99
open PySem PySem.Spec PyProof.Rows L2
open Classical
theorem take_eq : g__law_take = takeF 15487667 179426279 := rfl
theorem tkOK : TkOk g__law_take := tkOk (by decide) (by decide)
theorem take_k {S : Store} {b c : Nat} {many : Int} {Q : D → Store → Prop} {E : Ex → Store → Prop} (h : IsBox S b c) (k : ∀ (i : Nat) S', (i : Int) < many → IsBox S' b (c + 1) → FrB b S S' → Q (.int i) S') (h0 : 0 < many := by decide) (h1 : many ≤ 100000000 := by decide) (hc : c ≤ 1000000 := by omega) : wpR (g__law_take [.ref b, .int many] S) Q E := by
  obtain ⟨i, S', e, h2, h3, h4⟩ := tkOK many h h0 h1 hc
  rw [e]
  exact k i S' h2 h3 h4
theorem same_eq : ∀ n, g__law_same n = sameSF Tb n
  | 0 => rfl
  | n + 1 => by
    show _ = sameSB Tb (sameSF Tb n)
    rw [← same_eq n]
    rfl
theorem deep_eq : g__law_deep = copyF Tb := rfl
/-! ### classes -/
def emptyK (k : Nat) : Bool := k == 36 || k == 45 || k == 46 || k == 47 || k == 50
def fldD (k : Nat) (a b : D) : List D := if emptyK k then [] else if k = 40 then [a, b] else [a]
@[simp] theorem v_mkKw {c n : Nat} {perm : List Nat} {aa : EA} {sd : SD} {S : Store} {Q : D → Store → Prop} {E : Ex → Store → Prop} : wpR (eMkKw c n perm aa sd S) Q E = wpR (aa sd S) (fun xs S1 => (permA perm xs).length = n ∧ Q (.exn c (permA perm xs)) S1) E := by
  unfold eMkKw; simp only [wpR_bind, wpR_ite, wpR_ok, wpR_bad]
  congr 1; funext x S1
  simp
theorem if_eq {k j : Int} {i : Nat} {R G : FF} {P : Ps} {sd : SD} {S : Store} (h0 : sd[i]? = some (some (.int k))) (h1 : k = j → wpS (R sd S) { P with n := fun sd' S' => wpS (G sd' S') P }) (h2 : k ≠ j → wpS (G sd S) P) : wpS (sSeq (sIf (asB (eBin pEq (eVar i) (eC (.int j)))) R sNext) G sd S) P := by
  rw [w_seq, w_if, v_asB, v_bin, wpR_var]
  refine ⟨_, h0, ?_⟩
  rw [wpR_c, wp_eq]
  refine ⟨_, rfl, ?_⟩
  by_cases h : k = j
  · simp only [h, decide_true, if_true]
    exact h1 h
  · simp only [h, decide_false, Bool.false_eq_true, if_false]
    exact h2 h
section
variable {one other : D} {S : Store} {by_ : Bool}
theorem made3_ok {k : Nat} (h1 : 42 ≤ k) (h : k < 51) : g__law_made_3 [.int k, one, other, .bl by_] S = .ok (.exn (k + 1) (fldD k one other)) S := by
  refine eq_of (wp_fn rfl ?_)
  iterate 9
    refine if_eq (i := 0) rfl (fun e => ?_) (fun ne => ?_)
    · obtain rfl := Int.ofNat.inj e
      cases by_ <;> simp [startD, N__law_made_3, permA1, fldD, emptyK]
  omega
theorem made2_ok {k : Nat} (h1 : 28 ≤ k) (h : k < 51) : g__law_made_2 [.int k, one, other, .bl by_] S = .ok (.exn (k + 1) (fldD k one other)) S := by
  refine eq_of (wp_fn rfl ?_)
  iterate 14
    refine if_eq (i := 0) rfl (fun e => ?_) (fun ne => ?_)
    · obtain rfl := Int.ofNat.inj e
      cases by_ <;> simp [startD, N__law_made_2, permA1, permA2, fldD, emptyK]
  simp [startD, N__law_made_2, made3_ok (one := one) (other := other) (S := S) (by_ := by_) (by omega) h]
theorem made1_ok {k : Nat} (h1 : 14 ≤ k) (h : k < 51) : g__law_made_1 [.int k, one, other, .bl by_] S = .ok (.exn (k + 1) (fldD k one other)) S := by
  refine eq_of (wp_fn rfl ?_)
  iterate 14
    refine if_eq (i := 0) rfl (fun e => ?_) (fun ne => ?_)
    · obtain rfl := Int.ofNat.inj e
      cases by_ <;> simp [startD, N__law_made_1, permA1, fldD, emptyK]
  simp [startD, N__law_made_1, made2_ok (one := one) (other := other) (S := S) (by_ := by_) (by omega) h]
theorem made_ok {k : Nat} (h : k < 51) : g__law_made_0 [.int k, one, other, .bl by_] S = .ok (.exn (k + 1) (fldD k one other)) S := by
  refine eq_of (wp_fn rfl ?_)
  iterate 14
    refine if_eq (i := 0) rfl (fun e => ?_) (fun ne => ?_)
    · obtain rfl := Int.ofNat.inj e
      cases by_ <;> simp [startD, N__law_made_0, permA1, fldD, emptyK]
  simp [startD, N__law_made_0, made1_ok (one := one) (other := other) (S := S) (by_ := by_) (by omega) h]
end
theorem subs : ∀ m < 51, ∀ k < 51, subD Tb (.own (m + 1)) (.own (k + 1)) = decide (m = k) := by decide +kernel
theorem isi_own {k m : Nat} {ds : List D} {S : Store} {Q : D → Store → Prop} {E : Ex → Store → Prop} {sd : SD} {i c : Nat} (h0 : sd[i]? = some (some (.exn (m + 1) ds))) (hc : c = k + 1) (hk : k < 51) (hm : m < 51) (q : Q (.bl (decide (m = k))) S) : wpR (eIsi Tb [.own c] (eVar i) sd S) Q E := by
  subst hc
  rw [v_isi, wpR_var]
  refine ⟨_, h0, _, rfl, ?_⟩
  simp only [List.any_cons, List.any_nil, Bool.or_false, subs m hm k hk]
  exact q
theorem is2_ok {k m : Nat} {ds : List D} {S : Store} (h : k < 51) (hm : m < 51) (h1 : 50 ≤ k) : g__law_is_2 [.int k, .exn (m + 1) ds] S = .ok (.bl (decide (m = k))) S := by
  refine eq_of (wp_fn rfl ?_)
  refine if_eq (i := 0) rfl (fun e => ?_) (fun ne => ?_)
  · obtain rfl := Int.ofNat.inj e
    rw [w_ret]
    exact isi_own (k := 50) (i := 1) rfl rfl h hm ⟨rfl, rfl⟩
  · omega
theorem is1_ok {k m : Nat} {ds : List D} {S : Store} (h : k < 51) (hm : m < 51) (h1 : 25 ≤ k) : g__law_is_1 [.int k, .exn (m + 1) ds] S = .ok (.bl (decide (m = k))) S := by
  refine eq_of (wp_fn rfl ?_)
  iterate 25
    refine if_eq (i := 0) rfl (fun e => ?_) (fun ne => ?_)
    · have e' := Int.ofNat.inj e
      rw [w_ret]
      exact isi_own (k := k) (i := 1) rfl (by omega) h hm ⟨rfl, rfl⟩
  simp [startD, N__law_is_1, is2_ok (ds := ds) (S := S) h hm (by omega)]
theorem is_ok {k m : Nat} {ds : List D} {S : Store} (h : k < 51) (hm : m < 51) : g__law_is_0 [.int k, .exn (m + 1) ds] S = .ok (.bl (decide (m = k))) S := by
  refine eq_of (wp_fn rfl ?_)
  iterate 25
    refine if_eq (i := 0) rfl (fun e => ?_) (fun ne => ?_)
    · have e' := Int.ofNat.inj e
      rw [w_ret]
      exact isi_own (k := k) (i := 1) rfl (by omega) h hm ⟨rfl, rfl⟩
  simp [startD, N__law_is_0, is1_ok (ds := ds) (S := S) h hm (by omega)]
end Kk99
end Lay

set_option Elab.async false
set_option linter.all false
set_option maxRecDepth 100000
set_option maxHeartbeats 4000000
namespace Lay
namespace Kk99
open PySem PySem.Spec PyProof.Rows L2
open Classical
/-! ### the attributes -/
theorem inI {k : Int} {l : List Int} {S : Store} {Q : D → Store → Prop} (q : Q (.bl (decide (k ∈ l))) S) : wpP (pIn false (.int k) (.tup (l.map D.int)) S) Q := by
  have h : ∀ l : List Int, flatDs (l.map D.int) = some (l.map V.int) := fun l => by
    induction l with
    | nil => rfl
    | cons a l ih => simp [flatDs, flatD, ih]
  have h2 : ∀ l : List Int, inV (.int k) (l.map V.int) = decide (k ∈ l) := fun l => by
    induction l with
    | nil => rfl
    | cons a l ih =>
      have e : inV (.int k) ((a :: l).map V.int) = (eqV (.int a) (.int k) || inV (.int k) (l.map V.int)) := rfl
      rw [e, ih]
      have e2 : eqV (.int a) (.int k) = decide (a = k) := rfl
      rw [e2]
      by_cases h : a = k
      · subst h; simp
      · simp [h, Ne.symm h]
  unfold pIn inL
  dsimp only [flatD]
  rw [h]
  dsimp only
  simp only [Bool.false_eq_true, if_false, h2]
  exact q
theorem if_in {k : Int} (l : List Int) {i : Nat} {aa : EA} {R G : FF} {P : Ps} {sd : SD} {S : Store} (h0 : sd[i]? = some (some (.int k))) (ha : ∀ (Q : List D → Store → Prop) (E : Ex → Store → Prop), Q (l.map D.int) S → wpR (aa sd S) Q E) (hl : l.length ≤ 100)
    (h1 : k ∈ l → wpS (R sd S) { P with n := fun sd' S' => wpS (G sd' S') P }) (h2 : k ∉ l → wpS (G sd S) P) : wpS (sSeq (sIf (asB (eBin (pIn false) (eVar i) (eTup aa))) R sNext) G sd S) P := by
  rw [w_seq, w_if, v_asB, v_bin, wpR_var]
  refine ⟨_, h0, ?_⟩
  rw [v_tup]
  refine ha _ _ ⟨fits_of (by simp; omega), inI ⟨_, rfl, ?_⟩⟩
  by_cases h : k ∈ l
  · simp only [h, decide_true, if_true]
    exact h1 h
  · simp only [h, decide_false, Bool.false_eq_true, if_false]
    exact h2 h
theorem fields_ok {k : Nat} {a b : D} {S : Store} (h : k < 51) : g__law_fields [.int k, .exn (k + 1) (fldD k a b)] S = .ok (.ref S.length) (S ++ [.lst (fldD k a b)]) := by
  refine eq_of (wp_fn rfl ?_)
  have f1 : fits 1 = true := by decide
  have f2 : fits 2 = true := by decide
  have f0 : fits 0 = true := by decide
  refine if_in [35] (i := 0) rfl (fun Q E q => by simpa using q) (by decide) (fun e => ?_) (fun ne => ?_)
  · obtain rfl : k = 35 := by simp at e; omega
    simp [startD, N__law_fields, fldD, emptyK, f1, attD, fldIx, Tb]
  refine if_in [36, 45, 46, 47, 50] (i := 0) rfl (fun Q E q => by simpa using q) (by decide) (fun e => ?_) (fun ne2 => ?_)
  · obtain e2 : emptyK k = true := by simp at e; unfold emptyK; simp; omega
    simp [startD, N__law_fields, fldD, e2, f0]
  refine if_in [37] (i := 0) rfl (fun Q E q => by simpa using q) (by decide) (fun e => ?_) (fun ne3 => ?_)
  · obtain rfl : k = 37 := by simp at e; omega
    simp [startD, N__law_fields, fldD, emptyK, f1, attD, fldIx, Tb]
  refine if_in [38, 41, 43] (i := 0) rfl (fun Q E q => by simpa using q) (by decide) (fun e => ?_) (fun ne4 => ?_)
  · rcases (by simp at e; omega : k = 38 ∨ k = 41 ∨ k = 43) with rfl | rfl | rfl <;> simp [startD, N__law_fields, fldD, emptyK, f1, attD, fldIx, Tb]
  refine if_in [39, 49] (i := 0) rfl (fun Q E q => by simpa using q) (by decide) (fun e => ?_) (fun ne5 => ?_)
  · rcases (by simp at e; omega : k = 39 ∨ k = 49) with rfl | rfl <;> simp [startD, N__law_fields, fldD, emptyK, f1, attD, fldIx, Tb]
  refine if_in [40] (i := 0) rfl (fun Q E q => by simpa using q) (by decide) (fun e => ?_) (fun ne6 => ?_)
  · obtain rfl : k = 40 := by simp at e; omega
    simp [startD, N__law_fields, fldD, emptyK, f2, attD, fldIx, Tb]
    exact ⟨rfl, rfl⟩
  refine if_in [42] (i := 0) rfl (fun Q E q => by simpa using q) (by decide) (fun e => ?_) (fun ne7 => ?_)
  · obtain rfl : k = 42 := by simp at e; omega
    simp [startD, N__law_fields, fldD, emptyK, f1, attD, fldIx, Tb]
  refine if_in [44] (i := 0) rfl (fun Q E q => by simpa using q) (by decide) (fun e => ?_) (fun ne8 => ?_)
  · obtain rfl : k = 44 := by simp at e; omega
    simp [startD, N__law_fields, fldD, emptyK, f1, attD, fldIx, Tb]
  refine if_in [48] (i := 0) rfl (fun Q E q => by simpa using q) (by decide) (fun e => ?_) (fun ne9 => ?_)
  · obtain rfl : k = 48 := by simp at e; omega
    simp [startD, N__law_fields, fldD, emptyK, f1, attD, fldIx, Tb]
  have lt : k < 35 := by simp at ne ne2 ne3 ne4 ne5 ne6 ne7 ne8 ne9; omega
  have giv : ∀ k < 35, fldIx Tb (k + 1) ("given" : Str) = some 0 := by decide +kernel
  have ek : emptyK k = false := by unfold emptyK; simp; omega
  have e40 : k ≠ 40 := by omega
  simp [startD, N__law_fields, fldD, ek, e40, f1, attD, giv k lt]
/-! ### values -/
/-- data without dicts and exceptions; what is listed stands apart from the box -/
def gs (b L : Nat) (S : Store) : Nat → D → Prop
  | _, .non => True
  | _, .bl _ => True
  | _, .int _ => True
  | _, .str x => okS x = true
  | _, .exn _ _ => False
  | 0, _ => False
  | k + 1, .tup ds => ds.length ≤ L ∧ ∀ d ∈ ds, gs b L S k d
  | k + 1, .ref n => n ≠ b ∧ ∃ ds, S[n]? = some (.lst ds) ∧ ds.length ≤ L ∧ ∀ d ∈ ds, gs b L S k d
theorem gs.sim {b L : Nat} {S : Store} (hL : L ≤ 1000) : ∀ {k : Nat} {d : D}, gs b L S k d → SimS S k d d := by
  intro k
  induction k with
  | zero =>
    intro d h
    cases d <;> first
      | exact .non
      | exact .bl _
      | exact .int _
      | exact .str _ (by simpa [gs] using h)
      | simp [gs] at h
  | succ k ih =>
    intro d h
    cases d with
    | tup ds =>
      simp only [gs] at h
      refine .tup rfl (by omega) fun i a b e1 e2 => ?_
      rw [e1] at e2
      cases e2
      exact ih (h.2 a (List.mem_of_getElem? e1))
    | ref n =>
      simp only [gs] at h
      obtain ⟨_, ds, e, hl, h⟩ := h
      refine .lst e e rfl (by omega) fun i a b e1 e2 => ?_
      rw [e1] at e2
      cases e2
      exact ih (h a (List.mem_of_getElem? e1))
    | non => exact .non
    | bl b => exact .bl _
    | int i => exact .int _
    | exn c ds => simp [gs] at h
    | str x => exact .str _ (by simpa [gs] using h)
theorem gs.frb {b L : Nat} {S S' : Store} (f : FrB b S S') : ∀ {k : Nat} {d : D}, gs b L S k d → gs b L S' k d := by
  intro k
  induction k with
  | zero => intro d h; cases d <;> simpa [gs] using h
  | succ k ih =>
    intro d h
    cases d with
    | tup ds => simp only [gs] at h ⊢; exact ⟨h.1, fun d hd => ih (h.2 d hd)⟩
    | ref n =>
      simp only [gs] at h ⊢
      obtain ⟨hn, ds, e, hl, h⟩ := h
      exact ⟨hn, ds, f.at e hn, hl, fun d hd => ih (h d hd)⟩
    | _ => simpa [gs] using h
theorem gs.fr {b L : Nat} {S S' : Store} {k : Nat} {d : D} (h : gs b L S k d) (f : Fr S S') : gs b L S' k d := h.frb (f.b b)
/-- a list got a further item -/
theorem gs.app {b L n : Nat} {S : Store} {xs : List D} (hS : S[n]? = some (.lst xs)) : ∀ {k : Nat} {d : D}, gs b L S k d → gs b (L + 1) (S.set n (.lst (xs ++ [.int 7]))) k d := by
  have hn : n < S.length := (List.getElem?_eq_some_iff.mp hS).1
  intro k
  induction k with
  | zero => intro d h; cases d <;> simpa [gs] using h
  | succ k ih =>
    intro d h
    cases d with
    | tup ds => simp only [gs] at h ⊢; exact ⟨by omega, fun d hd => ih (h.2 d hd)⟩
    | ref m =>
      simp only [gs] at h ⊢
      obtain ⟨hm, ds, e, hl, h⟩ := h
      by_cases q : n = m
      · subst q
        rw [hS] at e
        cases e
        refine ⟨hm, _, List.getElem?_set_self hn, by simp; omega, fun d hd => ?_⟩
        rcases List.mem_append.mp hd with z | z
        · exact ih (h d z)
        · have : d = .int 7 := by simpa using z
          subst this
          cases k <;> simp [gs]
      · exact ⟨hm, ds, by rw [List.getElem?_set_ne q]; exact e, by omega, fun d hd => ih (h d hd)⟩
    | _ => simpa [gs] using h
theorem gs.mono {b L M : Nat} {S : Store} (hL : L ≤ M) : ∀ {k : Nat} {d : D}, gs b L S k d → gs b M S k d := by
  intro k
  induction k with
  | zero => intro d h; cases d <;> simpa [gs] using h
  | succ k ih =>
    intro d h
    cases d with
    | tup ds => simp only [gs] at h ⊢; exact ⟨by omega, fun d hd => ih (h.2 d hd)⟩
    | ref n => simp only [gs] at h ⊢; obtain ⟨hn, ds, e, hl, h⟩ := h; exact ⟨hn, ds, e, by omega, fun d hd => ih (h d hd)⟩
    | _ => simpa [gs] using h
theorem value_k {S : Store} {b c : Nat} {Q : D → Store → Prop} {E : Ex → Store → Prop} (h : IsBox S b c) (k : ∀ (v : D) S', gs b 3 S' 3 v → IsBox S' b (c + 1) → FrB b S S' → Q v S') (hc : c ≤ 900000 := by omega) : wpR (g__law_value [.ref b] S) Q E := by
  refine wp_fn rfl ?_
  have f0 : fits 0 = true ∧ fits 1 = true ∧ fits 2 = true ∧ fits 3 = true ∧ fits 14 = true := by decide
  obtain ⟨f0, f1, f2, f3, f14⟩ := f0
  simp [startD, N__law_value, f0, f1, f2, f3, f14]
  refine take_k (h.app _) fun i S' hi b1 f1 => ?_
  have hb := h.lt
  have e0 := f1.at (n := S.length) (o := .lst []) (by simp) (by omega)
  have e1 := f1.at (n := S.length + 1) (o := .lst [.int 2]) (by simp) (by omega)
  have e2 := f1.at (n := S.length + 2) (o := .lst [.int 1, .ref (S.length + 1)]) (by simp) (by omega)
  have e3 := f1.at (n := S.length + 3) (by simp; rfl) (by omega)
  simp [rdL_lst e3]
  have il : i < 14 := by omega
  refine ⟨_, atI_nat (by simpa using il) |>.trans (List.getElem?_eq_getElem (by simpa using il)), k _ S' ?_ b1 (((Fr.app _).b b).trans f1)⟩
  have all : ∀ d ∈ ([.non, .bl true, .bl false, .int 0, .int (-7), .int 10000000000000000000, .str "", .str "fork", .ref S.length, .ref (S.length + 2), .tup [], .tup [.int 1, .int 2], .tup [.str "then", .tup [.str "wire"], .tup [.str "wire"]], .str "a ; b"] : List D), gs b 3 S' 3 d := by
    have n0 : S.length ≠ b := by omega
    have n1 : S.length + 1 ≠ b := by omega
    have n2 : S.length + 2 ≠ b := by omega
    have s0 : okS "" = true ∧ okS "fork" = true ∧ okS "then" = true ∧ okS "wire" = true ∧ okS "a ; b" = true := by decide +kernel
    obtain ⟨s0, s1, s2, s3, s4⟩ := s0
    simp [gs, n0, n1, n2, e0, e1, e2, s0, s1, s2, s3, s4]
  exact all _ (List.getElem_mem _)
theorem deep_k {S : Store} {b k : Nat} {v : D} {Q : D → Store → Prop} {E : Ex → Store → Prop} (h : gs b 3 S (k + 1) v) (hb : b < S.length) (kk : ∀ (v' : D) S', gs b 3 S' (k + 1) v' → Fr S S' → (∀ r, v' = .ref r → S.length ≤ r ∧ r < S'.length) → Q v' S') : wpR (g__law_deep [v] S) Q E := by
  refine wp_fn rfl ?_
  cases v with
  | ref n =>
    simp only [gs] at h
    obtain ⟨hn, ds, e, hl, h⟩ := h
    simp [startD, kd_lst e, subD, pList, rdL_lst e]
    refine kk _ _ ?_ (Fr.app _) (fun r e => by cases e; simp)
    simp only [gs]
    exact ⟨by omega, ds, last_at _ _, hl, fun d hd => (h d hd).fr (Fr.app _)⟩
  | exn c ds => simp [gs] at h
  | _ =>
    simp [startD, subD]
    exact kk _ _ h Fr.refl (fun r e => by cases e)
end Kk99
end Lay

set_option Elab.async false
set_option linter.all false
set_option maxRecDepth 100000
set_option maxHeartbeats 4000000
namespace Lay
namespace Kk99
open PySem PySem.Spec PyProof.Rows L2
open Classical
theorem sameK {S : Store} {k : Nat} {x y : D} {Q : D → Store → Prop} {E : Ex → Store → Prop} (h : SimS S k x y) (hk : k ≤ 11) (kk : ∀ S', Fr S S' → Q (.bl true) S') : wpR (g__law_same 12 [x, y] S) Q E := by
  rw [same_eq]
  obtain ⟨S', e, f⟩ := sameS12 (T := Tb) h hk
  rw [e]; exact kk S' f
theorem blamed_k {v : D} {S : Store} {b L k : Nat} {Q : D → Store → Prop} {E : Ex → Store → Prop} (h : gs b L S (k + 1) v) (hL : L ≤ 50) (hk : k ≤ 9)
    (kk : ∀ S', S.length ≤ S'.length → (∀ i, i < S.length → v ≠ .ref i → S'[i]? = S[i]?) → (∀ {k d}, gs b L S k d → gs b (L + 1) S' k d) → Q (.bl true) S') : wpR (g__law_blamed [v, v] S) Q E := by
  refine wp_fn rfl ?_
  have old : ∀ {S1 : Store}, Fr S S1 → ∀ {Q : D → Store → Prop} {E : Ex → Store → Prop}, (∀ S', Fr S S' → Q (.bl true) S') → wpR (g__law_same 12 [v, v] S1) Q E := fun {S1} f1 {Q E} q => sameK ((h.fr f1).sim (by omega)) (by omega) fun S' f => q S' (f1.trans f)
  have fin : ∀ S', Fr S S' → Q (.bl true) S' := fun S' f => kk S' f.le (fun i hi _ => f i hi) fun {k d} g => (g.fr f).mono (by omega)
  cases v with
  | ref n =>
    simp [startD, N__law_blamed]
    refine old Fr.refl fun S1 f1 => ?_
    have h1 := h.fr f1
    simp only [gs] at h
    obtain ⟨hn, ds, e, hl, h⟩ := h
    have e1 := f1.at e
    simp [kd_lst e1, subD, rdL_lst e1, wp_append e1 (show ds.length + 1 ≤ 16777216 by omega)]
    have h2 := gs.app e1 h1
    refine sameK (h2.sim (by omega)) (by omega) fun S2 f2 => ?_
    have l1 := f1.le
    have l2 := f2.le
    rw [List.length_set] at l2
    refine kk S2 (by omega) (fun i hi hne => ?_) fun {k d} g => (gs.app e1 (g.fr f1)).fr f2
    have ni : n ≠ i := fun q => hne (by rw [q])
    rw [f2 i (by rw [List.length_set]; omega), List.getElem?_set_ne ni, f1 i hi]
  | exn c ds => simp [gs] at h
  | _ =>
    simp [startD, N__law_blamed]
    refine old Fr.refl fun S1 f1 => ?_
    simp [subD]
    exact old f1 fin
theorem fld_cut (k : Nat) (a b : D) : cutD [a, b] none (some ((fldD k a b).length : Int)) = fldD k a b := by
  unfold fldD
  split
  · rfl
  · split <;> rfl
theorem fld_len (k : Nat) (a b : D) : (fldD k a b).length ≤ 2 := by
  unfold fldD
  split
  · simp
  · split <;> simp
theorem fld_mem {k : Nat} {a b d : D} (h : d ∈ fldD k a b) : d = a ∨ d = b := by
  unfold fldD at h
  split at h
  · simp at h
  · split at h
    · simpa using h
    · left; simpa using h
theorem fld_lens (k : Nat) (a b a' b' : D) : (fldD k a b).length = (fldD k a' b').length := by
  unfold fldD
  split
  · rfl
  · split <;> rfl
theorem lc_none {it : EI} {n v : Nat} {tt : EB} {te : EE} {sd : SD} {S : Store} {Q : D → Store → Prop} {E : Ex → Store → Prop} (hit : ∀ (QI : ITd → Store → Prop) (E : Ex → Store → Prop), QI ⟨rngD 0 n, fun _ => True⟩ S → wpR (it sd S) QI E)
    (h : ∀ i : Nat, i < n → wpR (tt ((wipeD sd [v]).set v (some (.int i))) (S ++ [.lst []])) (fun b S2 => b = false ∧ S2 = S ++ [.lst []]) NoE)
    (q : Q (.ref S.length) (S ++ [.lst []])) : wpR (eLc it (gNm v) tt te [v] sd S) Q E := by
  have key : ∃ S', lcD S.length (gNm v) tt te [v] (fun _ => True) sd (rngD 0 n) (S ++ [.lst []]) = some S' ∧ S' = S ++ [.lst []] := by
    refine wp_lc (fun _ S' => S' = S ++ [.lst []]) (rngD 0 n) 0 _ rfl ?_ (fun _ _ => trivial)
    rintro j d S2 hj rfl
    have hl := (List.getElem?_eq_some_iff.mp hj).1
    rw [rng_len] at hl
    obtain rfl : d = .int j := by simpa [rngD, hl] using hj.symm
    refine ⟨trivial, _, rfl, ?_⟩
    refine wpR_mono (h j hl) (fun b S2 ⟨e1, e2⟩ => ?_) fun _ _ z => z.elim
    subst e1 e2
    simp
  obtain ⟨S', e, rfl⟩ := key
  exact wp_eLc (hit _ _ ⟨_, e, q⟩)
theorem wp_slR {n : Nat} {lo hi : Option Int} {ds : List D} {S : Store} {Q : D → Store → Prop} (h : rdL S n = some ds) : wpP (pSl (.ref n) lo hi S) Q = Q (.ref S.length) (S ++ [.lst (cutD ds lo hi)]) := by
  unfold pSl
  dsimp only
  rw [h]
  rfl
theorem zip_k {aa : EA} {sd : SD} {S : Store} {QI : ITd → Store → Prop} {E : Ex → Store → Prop} (h : wpR (aa sd S) (fun xs S1 => ∃ n m ds es, xs = [.ref n, .ref m] ∧ rdL S1 n = some ds ∧ rdL S1 m = some es ∧ QI ⟨zipD ds es, fun S' => rdL S' n = some ds ∧ rdL S' m = some es⟩ S1) E) : wpR (itZip aa sd S) QI E := by
  unfold itZip
  rw [wpR_bind]
  refine wpR_mono h (fun xs S1 ⟨n, m, ds, es, e, h1, h2, q⟩ => ?_) fun _ _ z => z
  subst e
  dsimp only
  rw [h1, h2]
  exact q
theorem sim_row {b L : Nat} {S : Store} {n m : Nat} {ds : List D} (h1 : S[n]? = some (.lst ds)) (h2 : S[m]? = some (.lst ds)) (hl : ds.length ≤ 1000) (hL : L ≤ 1000) (h : ∀ d ∈ ds, gs b L S 3 d) : SimS S 4 (.ref n) (.ref m) := by
  refine .lst h1 h2 rfl (by omega) fun i x y e1 e2 => ?_
  rw [e1] at e2
  cases e2
  exact (h x (List.mem_of_getElem? e1)).sim hL
theorem zip_fld {k : Nat} {a b d : D} (h : d ∈ zipD [a, b] (fldD k a b)) : d = .tup [a, a] ∨ d = .tup [b, b] := by
  unfold fldD zipD at h
  split at h
  · simp at h
  · split at h
    · simpa using h
    · left; simpa using h
theorem zip_len (k : Nat) (a b : D) : (zipD [a, b] (fldD k a b)).length ≤ 2 := by
  unfold zipD
  rw [List.length_map, List.length_zip]
  simp
  omega
theorem subs0 : ∀ k < 51, subD Tb (.own (k + 1)) (.own 0) = true := by decide +kernel
theorem subsV (k : Nat) : subD Tb (.own k) (.ty "ValueError") = true := rfl
theorem class_k {S : Store} {b c k : Nat} {Q : D → Store → Prop} {E : Ex → Store → Prop} (h : IsBox S b c) (hk : k < 51) (kk : ∀ S', IsBox S' b (c + 3) → FrB b S S' → Q (.bl true) S') (hc : c ≤ 800000 := by omega) : wpR (g__law_class_right [.ref b, .int k] S) Q E := by
  refine wp_fn rfl ?_
  have f2 : fits 2 = true := by decide
  have f0 : fits 0 = true := by decide
  have sx : okS "x" = true := by decide +kernel
  simp [startD, N__law_class_right, f2]
  refine value_k h fun one0 S1 g1 b1 fr1 => ?_
  refine value_k b1 fun other0 S2 g2 b2 fr2 => ?_
  refine take_k b2 fun way S3 hw b3 fr3 => ?_
  have hb3 := b3.lt
  refine deep_k (g1.frb (fr2.trans fr3)) hb3 fun one S4 g4 f4 r4 => ?_
  refine deep_k ((g2.frb fr3).fr f4) (Nat.lt_of_lt_of_le hb3 f4.le) fun other S5 g5 f5 r5 => ?_
  have g4 := g4.fr f5
  refine gtup_k (last_at _ _) ?_
  have F5 : FrB b S (S5 ++ [SO.lst [one, other]]) := fr1.trans (fr2.trans (fr3.trans ((f4.trans (f5.trans (Fr.app _))).b b)))
  replace g4 := g4.fr (Fr.app [SO.lst [one, other]])
  replace g5 := g5.fr (Fr.app [SO.lst [one, other]])
  have b5 := (b3.fr (f4.trans f5)).app [SO.lst [one, other]]
  generalize hS6 : S5 ++ [SO.lst [one, other]] = S6 at *
  have md : ∀ (a b : D) (v : Bool) (S : Store), g__law_made_0 [.int k, a, b, .bl v] S = .ok (.exn (k + 1) (fldD k a b)) S := fun a b v S => made_ok hk
  simp [f2, md]
  have lb : b < S6.length := by rw [← hS6]; simp; have := hb3; have := f4.le; have := f5.le; omega
  refine ⟨_, rdL_lst (last_at _ _), .exn (k + 1) (fldD k one other), rfl, .own (k + 1), rfl, ?_⟩
  have F7 := F5.trans ((Fr.app [SO.lst [D.exn (k + 1) (fldD k one other), D.exn (k + 1) (fldD k (.int 5) (.str "x"))]]).b b)
  replace g4 := g4.fr (Fr.app [SO.lst [D.exn (k + 1) (fldD k one other), D.exn (k + 1) (fldD k (.int 5) (.str "x"))]])
  replace g5 := g5.fr (Fr.app [SO.lst [D.exn (k + 1) (fldD k one other), D.exn (k + 1) (fldD k (.int 5) (.str "x"))]])
  replace b5 := b5.app [SO.lst [D.exn (k + 1) (fldD k one other), D.exn (k + 1) (fldD k (.int 5) (.str "x"))]]
  generalize hS7 : S6 ++ [SO.lst [D.exn (k + 1) (fldD k one other), D.exn (k + 1) (fldD k (.int 5) (.str "x"))]] = S7 at *
  simp [subs0 k hk, subsV]
  refine lc_none (n := 51) (fun QI E q => by rw [v_itRange, v_cons, wpR_c, v_nil]; exact ⟨inR_of (by decide) (by decide), q⟩) (fun i hi => ?_) ?_
  · simp [wipeD, is_ok hi hk]
    omega
  have pd : ∀ d ∈ ([] : List D), PD 0 d := fun d hd => by simp at hd
  rw [wp_nel (rdL_lst ((Fr.app _).at (last_at _ _))) (rdL_lst (last_at _ _)) pd]
  refine ⟨f0, ?_⟩
  simp [fields_ok hk]
  -- the fields stand at f
  have g4' := g4
  have g5' := g5
  have b7' := b5
  have F8 := F7.trans ((Fr.app [SO.lst [], SO.lst []]).b b)
  replace g4 := g4.fr (Fr.app [SO.lst [], SO.lst []])
  replace g5 := g5.fr (Fr.app [SO.lst [], SO.lst []])
  replace b5 := b5.app [SO.lst [], SO.lst []]
  replace lb : b < S7.length + 2 := by rw [← hS7]; simp; omega
  have l8 : (S7 ++ [SO.lst [], SO.lst []]).length = S7.length + 2 := by simp
  rw [wp_slR (ds := [one, other]) (rdL_lst (by simp)), fld_cut]
  have apps : ∀ (T : List SO) (S : Store), Fr S (S ++ T) := fun T S => Fr.app T
  have gm : ∀ S', Fr S7 S' → ∀ d ∈ fldD k one other, gs b 3 S' 3 d := fun S' f d hd => by
    rcases fld_mem hd with rfl | rfl
    · exact (g4').fr f
    · exact (g5').fr f
  refine sameK (sim_row (b := b) (L := 3) (ds := fldD k one other) (by simp) (by simp) (by have := fld_len k one other; omega) (by decide) (gm _ (by simpa using Fr.app _))) (by decide) fun S9 f9 => ?_
  simp
  refine zip_k ?_
  simp [f2]
  have hl6 : S6.length = S5.length + 1 := by rw [← hS6]; simp
  have hl7 : S7.length = S6.length + 1 := by rw [← hS7]; simp
  have l4 := f4.le
  have l5 := f5.le
  have l9 : S7.length + 5 ≤ S9.length := by have := f9.le; simpa using this
  have hF3 := (fr1.trans (fr2.trans fr3)).1
  have bS : b < S.length := h.lt
  have one_at : ∀ r, one = .ref r → S.length ≤ r ∧ r < S7.length := fun r e => by have := r4 r e; omega
  have oth_at : ∀ r, other = .ref r → S.length ≤ r ∧ r < S7.length := fun r e => by have := r5 r e; omega
  have f79 : Fr S7 S9 := (by simpa using Fr.app (S := S7) [SO.lst [], SO.lst [], SO.lst (fldD k one other), SO.lst [one, other], SO.lst (fldD k one other)] : Fr S7 _).trans f9
  have at_f : S9[S7.length + 2]? = some (.lst (fldD k one other)) := f9.at (by simp)
  refine ⟨_, _, ⟨rfl, rfl⟩, [one, other], rdL_lst (last_at _ _), fldD k one other, rdL_lst ((Fr.app _).at at_f), ?_⟩
  have F10 : FrB b S (S9 ++ [SO.lst [one, other]]) := F7.trans ((f79.trans (Fr.app _)).b b)
  have g4a := (g4'.fr f79).fr (Fr.app [SO.lst [one, other]])
  have g5a := (g5'.fr f79).fr (Fr.app [SO.lst [one, other]])
  have b10 := (b7'.fr f79).app [SO.lst [one, other]]
  have at_f' := (Fr.app [SO.lst [one, other]]).at at_f
  have at_n : (S9 ++ [SO.lst [one, other]])[S9.length]? = some (.lst [one, other]) := last_at _ _
  have l10 : (S9 ++ [SO.lst [one, other]]).length = S9.length + 1 := by simp
  generalize S9 ++ [SO.lst [one, other]] = S10 at *
  refine wp_for (fun j sd S' => ∃ x8 x9 : Option D, sd = [some (D.ref b), some (D.int k), some (D.exn (k + 1) (fldD k one other)), some (D.ref (S7.length + 2)), none, some one, some other, some (D.int way), x8, x9, none] ∧ S10.length ≤ S'.length ∧
    (∀ i, i < S10.length → one ≠ .ref i → other ≠ .ref i → S'[i]? = S10[i]?) ∧ gs b (3 + j) S' 3 one ∧ gs b (3 + j) S' 3 other) _ 0 _ _ ⟨none, none, rfl, Nat.le_refl _, fun _ _ _ _ => rfl, g4a, g5a⟩ ?_ ?_
  · rintro j d sd S11 hj ⟨x8, x9, rfl, l11, e11, ga, gb⟩
    rw [Nat.zero_add] at ga gb
    have hz := zip_len k one other
    have hj2 := (List.getElem?_eq_some_iff.mp hj).1
    have nn : one ≠ .ref S9.length ∧ other ≠ .ref S9.length := ⟨fun e => by have := one_at _ e; omega, fun e => by have := oth_at _ e; omega⟩
    have nf : one ≠ .ref (S7.length + 2) ∧ other ≠ .ref (S7.length + 2) := ⟨fun e => by have := one_at _ e; omega, fun e => by have := oth_at _ e; omega⟩
    have r1 : rdL S11 S9.length = some [one, other] := rdL_lst (by rw [e11 _ (by omega) nn.1 nn.2]; exact at_n)
    have r2 : rdL S11 (S7.length + 2) = some (fldD k one other) := rdL_lst (by rw [e11 _ (by omega) nf.1 nf.2]; exact at_f')
    refine ⟨⟨r1, r2⟩, ?_⟩
    have step : ∀ v, (v = one ∨ v = other) → gs b (3 + j) S11 3 v → ∃ z, gTupD 2 (gsCons (gNm 8) (gsCons (gNm 9) gsNil)) (.tup [v, v]) [some (D.ref b), some (D.int k), some (D.exn (k + 1) (fldD k one other)), some (D.ref (S7.length + 2)), none, some one, some other, some (D.int way), x8, x9, none] S11 = some z ∧ wpR (g__law_blamed [v, v] z.2) (fun x S' => x = .bl true ∧ S10.length ≤ S'.length ∧
        (∀ i, i < S10.length → one ≠ .ref i → other ≠ .ref i → S'[i]? = S10[i]?) ∧ gs b (3 + j + 1) S' 3 one ∧ gs b (3 + j + 1) S' 3 other) NoE ∧ z.1 = [some (D.ref b), some (D.int k), some (D.exn (k + 1) (fldD k one other)), some (D.ref (S7.length + 2)), none, some one, some other, some (D.int way), some v, some v, none] := fun v hv gv => by
      refine ⟨_, rfl, ?_, rfl⟩
      refine blamed_k (S := S11) gv (by omega) (by decide) fun S12 l12 e12 up => ?_
      refine ⟨rfl, by omega, fun i hi n1 n2 => ?_, up ga, up gb⟩
      rw [e12 i (by omega) (by rcases hv with rfl | rfl <;> assumption)]
      exact e11 i hi n1 n2
    rcases zip_fld (List.mem_of_getElem? hj) with rfl | rfl
    · obtain ⟨z, e1, e2, e3⟩ := step one (.inl rfl) ga
      refine ⟨z, e1, ?_⟩
      rw [e3]
      simp
      refine wpR_mono e2 (fun x S12 ⟨e, q⟩ => ?_) fun _ _ z => z.elim
      subst e
      simp
      exact ⟨q.1, q.2.1, q.2.2.1.mono (by omega), q.2.2.2.mono (by omega)⟩
    · obtain ⟨z, e1, e2, e3⟩ := step other (.inr rfl) gb
      refine ⟨z, e1, ?_⟩
      rw [e3]
      simp
      refine wpR_mono e2 (fun x S12 ⟨e, q⟩ => ?_) fun _ _ z => z.elim
      subst e
      simp
      exact ⟨q.1, q.2.1, q.2.2.1.mono (by omega), q.2.2.2.mono (by omega)⟩
  · rintro sd S11 ⟨x8, x9, rfl, l11, e11, ga, gb⟩
    have hz := zip_len k one other
    have nn : one ≠ .ref S9.length ∧ other ≠ .ref S9.length := ⟨fun e => by have := one_at _ e; omega, fun e => by have := oth_at _ e; omega⟩
    have nf : one ≠ .ref (S7.length + 2) ∧ other ≠ .ref (S7.length + 2) := ⟨fun e => by have := one_at _ e; omega, fun e => by have := oth_at _ e; omega⟩
    have e1 : S11[S9.length]? = some (.lst [one, other]) := by rw [e11 _ (by omega) nn.1 nn.2]; exact at_n
    have e2 : S11[S7.length + 2]? = some (.lst (fldD k one other)) := by rw [e11 _ (by omega) nf.1 nf.2]; exact at_f'
    refine ⟨⟨rdL_lst e1, rdL_lst e2⟩, ?_⟩
    simp [md, fields_ok hk, f2]
    have a1 : (S11 ++ [SO.lst (fldD k (.int 5) (.str "x")), SO.lst [D.int 5, .str "x"]])[S7.length + 2]? = some (.lst (fldD k one other)) := (Fr.app _).at e2
    refine ⟨_, by rw [a1], ?_⟩
    rw [wp_slR (ds := [.int 5, .str "x"]) (rdL_lst (by simp)), fld_lens k one other (.int 5) (.str "x"), fld_cut]
    refine sameK (sim_row (b := b) (L := 3) (ds := fldD k (.int 5) (.str "x")) (by simp) (by simp) (by have := fld_len k (.int 5) (.str "x"); omega) (by decide) (fun d hd => by
      rcases fld_mem hd with rfl | rfl
      · simp [gs]
      · simpa [gs] using sx)) (by decide) fun S13 f13 => ?_
    simp
    have f13' : Fr S11 S13 := (by simpa using Fr.app (S := S11) [SO.lst (fldD k (.int 5) (.str "x")), SO.lst [D.int 5, .str "x"], SO.lst (fldD k (.int 5) (.str "x"))] : Fr S11 _).trans f13
    have a2 : (S13 ++ [SO.lst (fldD k one other), SO.lst [one, other]])[S7.length + 2]? = some (.lst (fldD k one other)) := (Fr.app _).at (f13'.at e2)
    refine ⟨_, by rw [a2], ?_⟩
    rw [wp_slR (ds := [one, other]) (rdL_lst (by simp)), fld_cut]
    have up : ∀ T, Fr S11 ((S13 ++ [SO.lst (fldD k one other), SO.lst [one, other]]) ++ T) := fun T => f13'.trans ((Fr.app _).trans (Fr.app _))
    have hj2 : 3 + (0 + (zipD [one, other] (fldD k one other)).length) ≤ 5 := by omega
    refine sameK (sim_row (b := b) (L := 5) (ds := fldD k one other) (by simp) (by simp) (by have := fld_len k one other; omega) (by decide) (fun d hd => by
      rcases fld_mem hd with rfl | rfl
      · exact (ga.mono hj2).fr (up _)
      · exact (gb.mono hj2).fr (up _))) (by decide) fun S14 f14 => ?_
    have F11 : FrB b S S11 := ⟨by have := F10.1; omega, fun i hi hb => by
      rw [e11 i (by have := F10.1; omega) (fun e => by have := one_at _ e; omega) (fun e => by have := oth_at _ e; omega)]
      exact F10.2 i hi hb⟩
    have lb10 : b < S10.length := b10.lt
    have b11 : IsBox S11 b (c + 3) := by
      have n1 : one ≠ .ref b := fun q => by
        have ga' : gs b (3 + (0 + (zipD [one, other] (fldD k one other)).length)) S11 (2 + 1) one := ga
        rw [q] at ga'
        simp only [gs] at ga'
        exact ga'.1 rfl
      have n2 : other ≠ .ref b := fun q => by
        have gb' : gs b (3 + (0 + (zipD [one, other] (fldD k one other)).length)) S11 (2 + 1) other := gb
        rw [q] at gb'
        simp only [gs] at gb'
        exact gb'.1 rfl
      obtain ⟨g, f, m, n, e, r⟩ := b10
      exact ⟨g, f, m, n, by rw [e11 b lb10 n1 n2]; exact e, r⟩
    have fT : Fr S11 S14 := (up _).trans f14
    exact kk S14 (b11.fr fT) (F11.trans (fT.b b))
end Kk99
end Lay

set_option Elab.async false
set_option linter.all false
set_option maxRecDepth 100000
set_option maxHeartbeats 4000000
namespace Lay
namespace Kk99
open PySem PySem.Spec PyProof.Rows L2
open Classical
theorem raised_ok {k : Nat} {a b : D} {S : Store} (hk : k < 51) : ∃ m ds, m < 51 ∧ (m = k ∨ m = 0) ∧ g__law_raised [.int k, a, b] S = .exc ⟨m + 1, ds⟩ S := by
  suffices q : wpR (g__law_raised [.int k, a, b] S) (fun _ _ => False) (fun e S' => S' = S ∧ ∃ m ds, m < 51 ∧ (m = k ∨ m = 0) ∧ e = ⟨m + 1, ds⟩) by
    cases h : g__law_raised [.int k, a, b] S with
    | ok d S' => rw [h] at q; exact q.elim
    | bad => rw [h] at q; exact q.elim
    | exc e S' =>
      rw [h] at q
      obtain ⟨rfl, m, ds, h1, h2, rfl⟩ := q
      exact ⟨m, ds, h1, h2, rfl⟩
  refine wp_fn rfl ?_
  iterate 15
    refine if_eq (i := 0) rfl (fun e => ?_) (fun ne => ?_)
    · have e' := Int.ofNat.inj e
      rw [w_raise, v_cons, wpR_var]
      exact ⟨_, rfl, rfl, rfl, k, [a], hk, .inl rfl, by rw [e']⟩
  iterate 2
    refine if_eq (i := 0) rfl (fun e => ?_) (fun ne => ?_)
    · have e' := Int.ofNat.inj e
      rw [w_raise, v_nil]
      exact ⟨rfl, rfl, k, [], hk, .inl rfl, by rw [e']⟩
  rw [w_raise, v_cons, wpR_var]
  exact ⟨_, rfl, rfl, rfl, 0, [a], by decide, .inr rfl, rfl⟩
theorem pEqB_one {S : Store} {p q : Nat} {a b : Int} (h1 : rdL S p = some [.int a]) (h2 : rdL S q = some [.int b]) : pEqB (.ref p) (.ref q) S = some (decide (a = b)) := by
  have e : ∀ {r : Nat} {c : Int}, rdL S r = some [.int c] → toPy S 140 (.ref r) = some (.list [.int c]) := fun {r c} h => by
    simp only [toPy]
    rw [h]
    simp [toPys, toPy]
  unfold pEqB
  rw [e h1, e h2]
  have s : ∀ c : Int, SeqAt.shaped (.list [.int c]) = true := fun c => by
    simp [SeqAt.shaped, PyData.canLay0, PyData.canLayAll0, PyData.depth, PyData.depthAll]
  simp only [s, Bool.and_self, if_true]
  congr 1
  simp [PyData.eqv, PyData.eqvAll]
  by_cases h : a = b <;> simp [h]
theorem wp_neOne {S : Store} {p q : Nat} {a b : Int} {Q : D → Store → Prop} (h1 : rdL S p = some [.int a]) (h2 : rdL S q = some [.int b]) : wpP (pNe (.ref p) (.ref q) S) Q = Q (.bl (!decide (a = b))) S := by
  unfold pNe; rw [pEqB_one h1 h2]; rfl
theorem lc_sole {it : EI} {n v m : Nat} {tt : EB} {sd : SD} {S : Store} {Q : D → Store → Prop} {E : Ex → Store → Prop} (hv : v < sd.length) (hm : m < n) (hn : n ≤ 1000) (hit : ∀ (QI : ITd → Store → Prop) (E : Ex → Store → Prop), QI ⟨rngD 0 n, fun _ => True⟩ S → wpR (it sd S) QI E)
    (h : ∀ (i : Nat) (S1 : Store), i < n → wpR (tt ((wipeD sd [v]).set v (some (.int i))) S1) (fun b S2 => b = decide (m = i) ∧ S2 = S1) NoE)
    (q : Q (.ref S.length) (S ++ [.lst [.int m]])) : wpR (eLc it (gNm v) tt (eVar v) [v] sd S) Q E := by
  have key : ∃ S', lcD S.length (gNm v) tt (eVar v) [v] (fun _ => True) sd (rngD 0 n) (S ++ [.lst []]) = some S' ∧ S' = S ++ [.lst (if m < 0 + (rngD 0 n).length then [.int m] else [])] := by
    refine wp_lc (fun i S' => S' = S ++ [.lst (if m < i then [.int m] else [])]) (rngD 0 n) 0 _ rfl ?_ (fun _ _ => trivial)
    rintro j d S2 hj rfl
    have hl := (List.getElem?_eq_some_iff.mp hj).1
    rw [rng_len] at hl
    obtain rfl : d = .int j := by simpa [rngD, hl] using hj.symm
    refine ⟨trivial, _, rfl, ?_⟩
    refine wpR_mono (h j _ hl) (fun b S2 ⟨e1, e2⟩ => ?_) fun _ _ z => z.elim
    subst e1 e2
    rw [Nat.zero_add]
    by_cases hmj : m = j
    · subst hmj
      simp only [decide_true, if_true]
      have e2 : ((wipeD sd [v]).set v (some (.int (m : Int))))[v]? = some (some (.int m)) := by
        rw [List.getElem?_set_self]
        show v < ((wipeD sd []).set v none).length
        rw [List.length_set]
        exact hv
      show wpR (eVar v ((wipeD sd [v]).set v (some (.int (m : Int)))) _) _ _
      rw [wpR_var]
      refine ⟨_, e2, [], ?_, by decide, ?_⟩
      · simp
      · simp
    · simp only [hmj, decide_false, Bool.false_eq_true, if_false]
      congr 3
      by_cases h1 : m < j
      · rw [if_pos h1, if_pos (by omega)]
      · rw [if_neg h1, if_neg (by omega)]
  obtain ⟨S', e, rfl⟩ := key
  rw [rng_len, if_pos (by omega)] at e
  exact wp_eLc (hit _ _ ⟨_, e, q⟩)
theorem caught_k {S : Store} {b c : Nat} {Q : D → Store → Prop} {E : Ex → Store → Prop} (h : IsBox S b c) (kk : ∀ S', IsBox S' b (c + 3) → FrB b S S' → Q (.bl true) S') (hc : c ≤ 800000 := by omega) : wpR (g__law_caught_right [.ref b] S) Q E := by
  refine wp_fn rfl ?_
  have f1 : fits 1 = true := by decide
  simp [startD, N__law_caught_right, f1]
  refine take_k h fun k S1 hk b1 fr1 => ?_
  refine value_k b1 fun one S2 g1 b2 fr2 => ?_
  refine value_k b2 fun other S3 g2 b3 fr3 => ?_
  have hk' : k < 51 := by omega
  have F3 := fr1.trans (fr2.trans fr3)
  refine ⟨inR_of (by decide) (by decide), ?_⟩
  refine wp_for (fun j sd S' => ∃ s1 s5 s6 s7 s8 : Option D, sd = [some (.ref b), s1, some (.int k), some one, some other, s5, s6, s7, s8] ∧ Fr S3 S') _ 0 _ _ ⟨none, none, none, none, none, rfl, Fr.refl⟩ ?_ ?_
  · rintro j d sd S4 hj ⟨s1, s5, s6, s7, s8, rfl, f4⟩
    refine ⟨trivial, _, rfl, ?_⟩
    obtain ⟨m, ds, hm, hmk, er⟩ := raised_ok (a := one) (b := other) (S := S4) hk'
    simp [er, subs0 m hm, isNon, subsV]
    refine lc_sole (n := 51) (m := m) (by simp) hm (by decide) (fun QI E q => by rw [v_itRange, v_cons, wpR_c, v_nil]; exact ⟨inR_of (by decide) (by decide), q⟩) (fun i S5 hi => ?_) ?_
    · simp [wipeD, is_ok hi hm]
      omega
    simp [f1]
    have e1 : (S4 ++ [SO.lst [.int m], SO.lst [.int k]])[S4.length]? = some (.lst [.int m]) := by simp
    have e2 : (S4 ++ [SO.lst [.int m], SO.lst [.int k]])[S4.length + 1]? = some (.lst [.int k]) := by simp
    rw [wp_neOne (rdL_lst e1) (rdL_lst e2)]
    have f4' : Fr S3 (S4 ++ [SO.lst [D.int m], SO.lst [D.int k]]) := f4.trans (Fr.app _)
    by_cases e : m = k
    · left
      exact ⟨by simp [e], f4'⟩
    · right
      refine ⟨by simp; omega, ?_⟩
      have m0 : m = 0 := by omega
      subst m0
      rw [wp_neOne (rdL_lst ((Fr.app _).at e1)) (rdL_lst (last_at _ _))]
      exact .inl ⟨by simp, f4'.trans (Fr.app _)⟩
  · rintro sd S4 ⟨s1, s5, s6, s7, s8, rfl, f4⟩
    refine ⟨trivial, ?_⟩
    simp
    exact kk S4 (b3.fr f4) (F3.trans (f4.b b))
theorem law_ok (ns : List Int) (hn : ns.length ≤ 63) : ∃ S', g_law [.ref 0] [.ro (ns.map D.int)] = .ok (.bl true) S' := by
  suffices q : wpR (g_law [.ref 0] [.ro (ns.map D.int)]) (fun d _ => d = .bl true) fun _ _ => False by
    obtain ⟨d, S', e, rfl⟩ := wpR_ex q
    exact ⟨S', e⟩
  generalize hS0 : [SO.ro (ns.map D.int)] = S0
  have h0 : S0[0]? = some (.ro (ns.map D.int)) := by rw [← hS0]; rfl
  have l0 : S0.length = 1 := by rw [← hS0]; rfl
  refine wp_fn rfl ?_
  simp [startD, N_law, h0]
  generalize hm : (if (3 : Int) < (if (6 : Int) < (ns.length : Int) then 6 else (ns.length : Int)) then (if (6 : Int) < (ns.length : Int) then 6 else (ns.length : Int)) else 3) = m
  have m4 : 0 ≤ m ∧ m ≤ 6 := by rw [← hm]; split <;> split <;> omega
  refine ⟨inR_of (by omega) (by omega), ?_⟩
  refine wp_for (fun i sd S' => ∃ (s1 s2 s3 s4 : Option D), sd = [some (.ref 0), s1, s2, s3, s4] ∧ Fr S0 S') _ 0 _ _ ⟨none, none, none, none, rfl, Fr.refl⟩ ?_ ?_
  · rintro j dj sd S1 hj ⟨s1, s2, s3, s4, rfl, f1⟩
    have hl := (List.getElem?_eq_some_iff.mp hj).1
    rw [rng_len] at hl
    obtain rfl : dj = .int j := by simpa [rngD, hl] using hj.symm
    have hl' : j < m.toNat := hl
    refine ⟨trivial, _, rfl, ?_⟩
    obtain ⟨x, S2, e2, f2⟩ := cell_ok (c0 := 6619) (k := j) (f1.at h0) (by omega) (by decide)
    obtain ⟨S3, e3, b3, f3⟩ := box_ok (x := x) (S := S2)
    simp [show g__law_cell = cellF 6619 from rfl, show g__law_box = boxF from rfl, e2, e3]
    have F3 := f1.trans (f2.trans f3)
    have lb : S0.length ≤ S2.length := (f1.trans f2).le
    refine take_k b3 fun t S4 ht b4 f4 => ?_
    refine ⟨inR_of (by decide) (by decide), wp_for (fun i sd S' => ∃ (s4 : Option D), sd = [some (.ref 0), some (.int j), some (.ref S2.length), some (.int t), s4] ∧ IsBox S' S2.length (1 + 3 * i) ∧ Fr S0 S') _ 0 _ _ ⟨s4, rfl, by simpa using b4, f4.fr F3 lb⟩ ?_ ?_⟩
    · rintro tn dt sd S5 ht ⟨s4, rfl, b5, f5⟩
      have hl2 := (List.getElem?_eq_some_iff.mp ht).1
      rw [rng_len] at hl2
      obtain rfl : dt = .int tn := by simpa [rngD, hl2] using ht.symm
      have tn3 : tn < 51 := hl2
      refine ⟨trivial, _, rfl, ?_⟩
      simp
      have em : ((t : Int) + tn) % 51 = (((t + tn) % 51 : Nat) : Int) := by omega
      rw [em]
      refine class_k b5 (Nat.mod_lt _ (by decide)) (fun S6 b6 f6 => ?_) (by omega)
      simp
      exact ⟨b6.mono (by omega), f6.fr f5 lb⟩
    · rintro sd S5 ⟨s4, rfl, b5, f5⟩
      refine ⟨trivial, ?_⟩
      simp
      refine caught_k (b5.mono (d := 200) (by rw [rng_len]; decide)) (fun S6 b6 f6 => ?_)
      simp
      refine caught_k b6 (fun S7 b7 f7 => ?_)
      simp
      exact f7.fr (f6.fr f5 lb) lb
  · rintro sd S5 ⟨s1, s2, s3, s4, rfl, f5⟩
    refine ⟨trivial, ?_⟩
    simp
end Kk99
end Lay

theorem PySem.Challenge.cw_wiresay_k99_errors_holds : PySem.Challenge.rw_wiresay_k99_errors.Holds := by
  exact Lay.Kk99.holds_of Lay.Kk99.law_ok
